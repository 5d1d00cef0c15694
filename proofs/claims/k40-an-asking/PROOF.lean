import PyProof.Rows.All
import Wide.All
import OpenK.AllK
import Wide.FinOn
import HandS.ForMost
import HandS.IsInst
import HandS.StrMore
import HandS.Wide
import HandS.TryOnly
import HandS.WordsExc
import HandS.Style
import HandS.More
import HandS.Evl
import KE.IntTextLaws
import HandS.Strs
import HandS.SetKeys
import KE.KIntText
import PyProof.StrBlock2
import HandS.SortRule
import HandS.DictComp
import HandS.WordsDict
import KE.SortData
import HandS.ExcIs
import HandS.ExcOwn
import HandS.HotCalls
import KE.GoesMore
import KE.GoesEnum
import KE.GoesZip
import HandS.Conv
import HandS.Text
import HandS.Codes
import HandS.TupAny
import HandS.Iter
import KE.KEqDict
import PyProof.NeKinds
import HandS.TryElse
import KE.GoesEnumKw
import HandS.ExcInit
import HandS.ExcField
import HandS.ClsMeth
import KE.KExcIs
import KE.DataCmp
import HandS.Defaults
import HandS.Flow
import KE.KRevSl
import HandS.ReplaceLit
import KE.KStateDown
import HandS.Head0
import HandS.Head1
import HandS.Head2
import HandS.HeadEnd
import HandS.HeadHook1
import HandS.HeadHook2
import HandS.EndBits
import KE.KEqNest
import HandS.Nested
import HandS.Lambda
import KE.SortKeyHeap
import HandS.HeadHook4
import HandS.EndTab
import HandS.SuiteRaise
import HandS.RaiseFrom
import HandS.RaiseOp
import HandS.ExcBuiltin
import HandS.Deep
import HandS.MakeKw
import PySem.Challenge.RW_cardshop_k40_an_asking
set_option Elab.async false
set_option linter.all false
set_option maxRecDepth 100000
set_option maxHeartbeats 4000000
namespace Cd
open PySem L2 PyProof.Rows

abbrev Fr := PySem.W.Frag
/-! ### the facts behind the top, by one look -/
abbrev FaB : Type := Fr → Bool
/-- what the module's names reach, step by step -/
def asB (g : Addr → Option Obj) : Nat → List Addr → List Addr
  | 0, as => as
  | n + 1, as => as ++ asB g n (as.flatMap fun a => match g a with
    | some o => He.refsO o
    | none => [])
def obsB (ok : List FaB) (fn : List He.DefD) (K : Fr) : He.AlD := ((ok.all fun f => f K) && fn.all fun d => d.ok K, fn.map fun d => He.fnW K d.at_)
def SaysB (ok : List FaB) (fn : List He.DefD) (K : Fr) : Prop := obsB ok fn K = He.valD fn
def obsBG (n : Nat) (ok : List FaB) (fn : List He.DefD) (g : Addr → Option Obj) : He.AlD := obsB ok fn (He.frG g (asB g n [mainGlobals] ++ [cStatics]))
def hookB (n : Nat) (ok : List FaB) (fn : List He.DefD) : PySem.W.Hook where
  α := He.AlD
  obs := fun s => obsBG n ok fn s.heap.get?
  val := fun _ => He.valD fn
  says := fun _ h => ∃ K : Fr, K.In h ∧ SaysB ok fn K
  of := fun _ _ e => ⟨_, He.frG_in, e⟩
  keeps := fun _ _ _ ⟨K, hK, c⟩ k => ⟨K, PySem.W.Frag.In.keeps hK k, c⟩
theorem obsBG_eq {n : Nat} {ok : List FaB} {fn : List He.DefD} {g : Addr → Option Obj} {s : Shared} (h : ∀ a, g a = s.heap.get? a) : obsBG n ok fn g = (hookB n ok fn).obs s := by
  have e : g = s.heap.get? := funext h
  rw [e] <;> rfl
end Cd
namespace L2
open PySem PySem.Spec PyProof.Rows PySem.HandSPX
def oexO (C : Addr) (o : Obj) : Bool := match (some o) with
  | some ⟨.type "type", _, .cls cd, sl⟩ => (match cd.mro, sl.toList with
    | .ref C' :: bm, [_, _, _, _, some (.builtin n), _] => C' == C && n == "ValueError.__new__" && !cd.hasDel && cd.hasDict && refsVE bm
    | _, _ => false)
  | _ => false
end L2
namespace Cd
open PySem L2 PyProof.Rows
def fcB (o : Option PySem.W.CFound) (v : Value) : Bool := match o with
  | some (.val u) => decide (u = v)
  | _ => false
def oexK (K : Fr) (A : Addr) : Bool := match K.lookup A with
  | some o => oexO A o
  | none => false
def topS (i : Nat) : Stmt := PySem.Challenge.pw_cardshop_k40_an_asking.main.body.getD i (.Pass ⟨0, 0, 0, 0⟩)
def facts0 : List FaB := [
  fun K => decide (PySem.W.findIn K (.ref (He.ga K "Meet")) "__init__" = some (some (.ref (He.fAd K ("Meet", some "__init__"))))),
  fun K => decide (PySem.W.typeIn K (.ref (He.fAd K ("Meet", some "__init__"))) = some (.type "function")),
  fun K => decide (PySem.W.nsIn K mainGlobals "is_card" = some (some (.ref (He.fAd K ("is_card", none))))),
  fun K => decide (PySem.W.nsIn K mainGlobals "card_of" = some (some (.ref (He.fAd K ("card_of", none))))),
  fun K => decide (PySem.W.nsIn K mainGlobals "make_board" = some (some (.ref (He.fAd K ("make_board", none))))),
  fun K => decide (PySem.W.nsIn K mainGlobals "columns_of" = some (some (.ref (He.fAd K ("columns_of", none))))),
  fun K => decide (PySem.W.nsIn K mainGlobals "are_apart" = some (some (.ref (He.fAd K ("are_apart", none))))),
  fun K => decide (PySem.W.nsIn K mainGlobals "is_name" = some (some (.ref (He.fAd K ("is_name", none))))),
  fun K => decide (PySem.W.nsIn K mainGlobals "is_field" = some (some (.ref (He.fAd K ("is_field", none))))),
  fun K => decide (PySem.W.nsIn K mainGlobals "is_wide" = some (some (.ref (He.fAd K ("is_wide", none))))),
  fun K => decide (PySem.W.nsIn K mainGlobals "is_board" = some (some (.ref (He.fAd K ("is_board", none))))),
  fun K => decide (PySem.W.nsIn K mainGlobals "are_picks" = some (some (.ref (He.fAd K ("are_picks", none))))),
  fun K => decide (PySem.W.nsIn K mainGlobals "is_middle" = some (some (.ref (He.fAd K ("is_middle", none))))),
  fun K => decide (PySem.W.nsIn K mainGlobals "main_field" = some (some (.ref (He.fAd K ("main_field", none))))),
  fun K => decide (PySem.W.nsIn K mainGlobals "are_works" = some (some (.ref (He.fAd K ("are_works", none))))),
  fun K => decide (PySem.W.nsIn K mainGlobals "_law_cell_at" = some (some (.ref (He.fAd K ("_law_cell_at", none))))),
  fun K => decide (PySem.W.nsIn K mainGlobals "_law_whole" = some (some (.ref (He.fAd K ("_law_whole", none))))),
  fun K => decide (PySem.W.nsIn K mainGlobals "_law_name" = some (some (.ref (He.fAd K ("_law_name", none))))),
  fun K => decide (PySem.W.nsIn K mainGlobals "_law_other" = some (some (.ref (He.fAd K ("_law_other", none))))),
  fun K => decide (PySem.W.nsIn K mainGlobals "_law_span" = some (some (.ref (He.fAd K ("_law_span", none))))),
  fun K => decide (PySem.W.nsIn K mainGlobals "_law_middle" = some (some (.ref (He.fAd K ("_law_middle", none))))),
  fun K => decide (PySem.W.nsIn K mainGlobals "_law_work" = some (some (.ref (He.fAd K ("_law_work", none))))),
  fun K => decide (PySem.W.nsIn K mainGlobals "_law_drawn" = some (some (.ref (He.fAd K ("_law_drawn", none))))),
  fun K => decide (PySem.W.nsIn K mainGlobals "_law_turned" = some (some (.ref (He.fAd K ("_law_turned", none))))),
  fun K => decide (PySem.W.nsIn K mainGlobals "_law_parts" = some (some (.ref (He.fAd K ("_law_parts", none))))),
  fun K => decide (PySem.W.nsIn K mainGlobals "_law_told" = some (some (.ref (He.fAd K ("_law_told", none))))),
  fun K => decide (PySem.W.nsIn K mainGlobals "_law_are" = some (some (.ref (He.fAd K ("_law_are", none))))),
  fun K => decide (PySem.W.nsIn K mainGlobals "law" = some (some (.ref (He.fAd K ("law", none))))),
  fun K => decide (PySem.W.findIn K (.ref (He.ga K "Asking")) "__init__" = some (some (.ref (He.fAd K ("Asking", some "__init__"))))),
  fun K => decide (PySem.W.isFn K (.ref (He.fAd K ("Asking", some "__init__"))) = true),
  fun K => decide (PySem.W.findIn K (.ref (He.ga K "Asking")) "is_fit" = some (some (.ref (He.fAd K ("Asking", some "is_fit"))))),
  fun K => decide (PySem.W.isFn K (.ref (He.fAd K ("Asking", some "is_fit"))) = true),
  fun K => decide (PySem.W.nsIn K mainGlobals "bool" = some none),
  fun K => decide (PySem.W.nsIn K mainGlobals "enumerate" = some none),
  fun K => decide (PySem.W.nsIn K mainGlobals "int" = some none),
  fun K => decide (PySem.W.nsIn K mainGlobals "isinstance" = some none),
  fun K => decide (PySem.W.nsIn K mainGlobals "len" = some none),
  fun K => decide (PySem.W.nsIn K mainGlobals "list" = some none),
  fun K => decide (PySem.W.nsIn K mainGlobals "min" = some none),
  fun K => decide (PySem.W.nsIn K mainGlobals "range" = some none)]
def facts1 : List FaB := [
  fun K => decide (PySem.W.nsIn K mainGlobals "sorted" = some none),
  fun K => decide (PySem.W.nsIn K mainGlobals "str" = some none),
  fun K => decide (PySem.W.nsIn K mainGlobals "zip" = some none),
  fun K => (He.Fa.str "LETTERS" ("abcdefghijklmnopqrstuvwxyz" : Str)).ok K,
  fun K => (He.Fa.str "SIGNS" (" 0123456789ABCDEFGHIJKLMNOPQRSTUVWXYZ" : Str)).ok K,
  fun K => (He.Fa.int "WIDTH" 40).ok K,
  fun K => decide (PySem.W.nsIn K mainGlobals "Meet" = some (some (.ref (He.ga K "Meet")))),
  fun K => decide (PySem.W.nsIn K mainGlobals "NoBoard" = some (some (.ref (He.ga K "NoBoard")))),
  fun K => decide (PySem.W.nsIn K mainGlobals "NoCard" = some (some (.ref (He.ga K "NoCard")))),
  fun K => decide (PySem.W.nsIn K mainGlobals "ShopError" = some (some (.ref (He.ga K "ShopError")))),
  fun K => decide (PySem.W.readsIn K (He.ga K "ShopError") (.type "type") = true),
  fun K => decide (PySem.W.specialIn K (.ref (He.ga K "ShopError")) "__getattribute__" = some (some (.builtin "type.__getattribute__"))),
  fun K => decide (PySem.W.subIn K (.ref (He.ga K "Meet")) (.type "BaseException") = some true),
  fun K => decide (PySem.W.typeIn K (.ref (He.ga K "Meet")) = some (.type "type")),
  fun K => decide (PySem.W.hasDictIn K (He.ga K "Meet") = true),
  fun K => decide (PySem.W.subIn K (.ref (He.ga K "Meet")) (.ref (He.ga K "Meet")) = some true),
  fun K => decide (PySem.W.subIn K (.ref (He.ga K "NoBoard")) (.type "BaseException") = some true),
  fun K => decide (PySem.W.typeIn K (.ref (He.ga K "NoBoard")) = some (.type "type")),
  fun K => decide (PySem.W.hasDictIn K (He.ga K "NoBoard") = true),
  fun K => decide (PySem.W.subIn K (.ref (He.ga K "Meet")) (.ref (He.ga K "NoBoard")) = some false),
  fun K => decide (PySem.W.subIn K (.ref (He.ga K "NoBoard")) (.ref (He.ga K "NoBoard")) = some true),
  fun K => decide (PySem.W.subIn K (.ref (He.ga K "NoCard")) (.type "BaseException") = some true),
  fun K => decide (PySem.W.typeIn K (.ref (He.ga K "NoCard")) = some (.type "type")),
  fun K => decide (PySem.W.hasDictIn K (He.ga K "NoCard") = true),
  fun K => decide (PySem.W.subIn K (.ref (He.ga K "NoCard")) (.ref (He.ga K "NoCard")) = some true),
  fun K => decide (PySem.W.excIn K (He.ga K "NoBoard") [.type "ValueError", .type "Exception", .type "BaseException", .type "object"] "ValueError.__new__" = true),
  fun K => decide (PySem.W.excIn K (He.ga K "NoCard") [.type "ValueError", .type "Exception", .type "BaseException", .type "object"] "ValueError.__new__" = true),
  fun K => decide (PySem.W.keepIn K (.ref (He.ga K "NoBoard")) = true),
  fun K => decide (PySem.W.keepIn K (.ref (He.ga K "NoCard")) = true),
  fun K => oexK K (He.ga K "Meet"),
  fun K => decide (PySem.W.findIn K (.ref (He.ga K "Meet")) "__setattr__" = some (some (.builtin "object.__setattr__"))),
  fun K => decide (PySem.W.keepIn K (.ref (He.ga K "Meet")) = true),
  fun K => fcB (PySem.W.findCls K (.ref (He.ga K "ShopError")) (.type "type") "__init__") (.builtin "ValueError.__init__"),
  fun K => decide (PySem.W.findIn K (.ref (He.ga K "Meet")) "__getattribute__" = some (some (.builtin "BaseException.__getattribute__"))),
  fun K => decide (PySem.W.findIn K (.ref (He.ga K "Meet")) "__getattr__" = some none),
  fun K => decide (PySem.W.subIn K (.ref (He.ga K "Meet")) (.type "BaseException") = some true),
  fun K => decide (PySem.W.hasDictIn K (He.ga K "Meet") = true),
  fun K => decide (PySem.W.findIn K (.ref (He.ga K "Meet")) "one" = some none),
  fun K => decide (PySem.W.findIn K (.ref (He.ga K "Meet")) "other" = some none),
  fun K => decide (PySem.W.nsIn K mainGlobals "Asking" = some (some (.ref (He.ga K "Asking"))))]
def facts2 : List FaB := [
  fun K => decide (PySem.W.plainGet K (He.ga K "Asking") Str.empty = true),
  fun K => decide (PySem.W.hasDictIn K (He.ga K "Asking") = true),
  fun K => decide (PySem.W.plainOver K (He.ga K "Asking") = true),
  fun K => decide (PySem.W.findIn K (.ref (He.ga K "Asking")) "__setattr__" = some (some (.builtin "object.__setattr__"))),
  fun K => decide (PySem.W.makesIn K (He.ga K "Asking") = true),
  fun K => decide (PySem.W.keepIn K (.ref (He.ga K "Asking")) = true),
  fun K => decide (PySem.W.findIn K (.ref (He.ga K "Asking")) "deck" = some none),
  fun K => decide (PySem.W.findIn K (.ref (He.ga K "Asking")) "picks" = some none),
  fun K => decide (PySem.W.findIn K (.ref (He.ga K "Asking")) "middle" = some none),
  fun K => decide (PySem.W.findIn K (.ref (He.ga K "Asking")) "order" = some none),
  fun K => decide (PySem.W.findIn K (.ref (He.ga K "Asking")) "works" = some none),
  fun K => decide (PySem.W.findIn K (.ref (He.ga K "Asking")) "breaks" = some none),
  fun K => decide (PySem.W.findIn K (.ref (He.ga K "Asking")) "sums" = some none),
  fun K => decide (PySem.W.findIn K (.ref (He.ga K "Asking")) "figures" = some none),
  fun K => decide (PySem.W.findIn K (.ref (He.ga K "Asking")) "board" = some none)]
def fnds0 : List He.DefD := [
  { at_ := ("Meet", some "__init__"), name := "__init__", qual := "Meet.__init__", params := defArgs (inClass (topS 4) 0), body := defBody (inClass (topS 4) 0), scope := defScope (inClass (topS 4) 0), dfl := [] },
  { at_ := ("is_card", none), name := "is_card", qual := "is_card", params := defArgs (topS 9), body := defBody (topS 9), scope := defScope (topS 9), dfl := [] },
  { at_ := ("card_of", none), name := "card_of", qual := "card_of", params := defArgs (topS 10), body := defBody (topS 10), scope := defScope (topS 10), dfl := [] },
  { at_ := ("make_board", none), name := "make_board", qual := "make_board", params := defArgs (topS 12), body := defBody (topS 12), scope := defScope (topS 12), dfl := [] },
  { at_ := ("columns_of", none), name := "columns_of", qual := "columns_of", params := defArgs (topS 14), body := defBody (topS 14), scope := defScope (topS 14), dfl := [] },
  { at_ := ("are_apart", none), name := "are_apart", qual := "are_apart", params := defArgs (topS 15), body := defBody (topS 15), scope := defScope (topS 15), dfl := [] },
  { at_ := ("is_name", none), name := "is_name", qual := "is_name", params := defArgs (topS 18), body := defBody (topS 18), scope := defScope (topS 18), dfl := [] },
  { at_ := ("is_field", none), name := "is_field", qual := "is_field", params := defArgs (topS 19), body := defBody (topS 19), scope := defScope (topS 19), dfl := [] },
  { at_ := ("is_wide", none), name := "is_wide", qual := "is_wide", params := defArgs (topS 20), body := defBody (topS 20), scope := defScope (topS 20), dfl := [] },
  { at_ := ("is_board", none), name := "is_board", qual := "is_board", params := defArgs (topS 21), body := defBody (topS 21), scope := defScope (topS 21), dfl := [] },
  { at_ := ("are_picks", none), name := "are_picks", qual := "are_picks", params := defArgs (topS 22), body := defBody (topS 22), scope := defScope (topS 22), dfl := [] },
  { at_ := ("is_middle", none), name := "is_middle", qual := "is_middle", params := defArgs (topS 23), body := defBody (topS 23), scope := defScope (topS 23), dfl := [] },
  { at_ := ("main_field", none), name := "main_field", qual := "main_field", params := defArgs (topS 24), body := defBody (topS 24), scope := defScope (topS 24), dfl := [] },
  { at_ := ("are_works", none), name := "are_works", qual := "are_works", params := defArgs (topS 25), body := defBody (topS 25), scope := defScope (topS 25), dfl := [] },
  { at_ := ("_law_cell_at", none), name := "_law_cell_at", qual := "_law_cell_at", params := defArgs (topS 28), body := defBody (topS 28), scope := defScope (topS 28), dfl := [] },
  { at_ := ("_law_whole", none), name := "_law_whole", qual := "_law_whole", params := defArgs (topS 29), body := defBody (topS 29), scope := defScope (topS 29), dfl := [] },
  { at_ := ("_law_name", none), name := "_law_name", qual := "_law_name", params := defArgs (topS 30), body := defBody (topS 30), scope := defScope (topS 30), dfl := [] },
  { at_ := ("_law_other", none), name := "_law_other", qual := "_law_other", params := defArgs (topS 31), body := defBody (topS 31), scope := defScope (topS 31), dfl := [] },
  { at_ := ("_law_span", none), name := "_law_span", qual := "_law_span", params := defArgs (topS 32), body := defBody (topS 32), scope := defScope (topS 32), dfl := [] },
  { at_ := ("_law_middle", none), name := "_law_middle", qual := "_law_middle", params := defArgs (topS 33), body := defBody (topS 33), scope := defScope (topS 33), dfl := [] },
  { at_ := ("_law_work", none), name := "_law_work", qual := "_law_work", params := defArgs (topS 34), body := defBody (topS 34), scope := defScope (topS 34), dfl := [] },
  { at_ := ("_law_drawn", none), name := "_law_drawn", qual := "_law_drawn", params := defArgs (topS 35), body := defBody (topS 35), scope := defScope (topS 35), dfl := [] },
  { at_ := ("_law_turned", none), name := "_law_turned", qual := "_law_turned", params := defArgs (topS 36), body := defBody (topS 36), scope := defScope (topS 36), dfl := [] },
  { at_ := ("_law_parts", none), name := "_law_parts", qual := "_law_parts", params := defArgs (topS 37), body := defBody (topS 37), scope := defScope (topS 37), dfl := [] },
  { at_ := ("_law_told", none), name := "_law_told", qual := "_law_told", params := defArgs (topS 38), body := defBody (topS 38), scope := defScope (topS 38), dfl := [] },
  { at_ := ("_law_are", none), name := "_law_are", qual := "_law_are", params := defArgs (topS 39), body := defBody (topS 39), scope := defScope (topS 39), dfl := [] },
  { at_ := ("law", none), name := "law", qual := "law", params := defArgs (topS 40), body := defBody (topS 40), scope := defScope (topS 40), dfl := [] },
  { at_ := ("Asking", some "__init__"), name := "__init__", qual := "Asking.__init__", params := defArgs (inClass (topS 26) 0), body := defBody (inClass (topS 26) 0), scope := defScope (inClass (topS 26) 0), dfl := [.non, .int 0, .non, .int 6, .non] },
  { at_ := ("Asking", some "is_fit"), name := "is_fit", qual := "Asking.is_fit", params := defArgs (inClass (topS 26) 1), body := defBody (inClass (topS 26) 1), scope := defScope (inClass (topS 26) 1), dfl := [] }]
def names0 : List PySem.Str := [
  "ShopError",
  "NoCard",
  "NoBoard",
  "Meet",
  "NoAsking",
  "SIGNS",
  "WIDTH",
  "is_card",
  "card_of",
  "make_board",
  "columns_of",
  "are_apart"]
def names1 : List PySem.Str := [
  "LETTERS",
  "is_name",
  "is_field",
  "is_wide",
  "is_board",
  "are_picks",
  "is_middle",
  "main_field",
  "are_works",
  "Asking",
  "_law_cell_at",
  "_law_whole"]
def names2 : List PySem.Str := [
  "_law_name",
  "_law_other",
  "_law_span",
  "_law_middle",
  "_law_work",
  "_law_drawn",
  "_law_turned",
  "_law_parts",
  "_law_told",
  "_law_are"]
def factsA : List FaB := facts0 ++ facts1 ++ facts2
def fndsA : List He.DefD := fnds0
def namesA : List PySem.Str := names0 ++ names1 ++ names2
abbrev RR : PySem.W.OpenRow := PySem.W.OpenLaw.row PySem.Challenge.rw_cardshop_k40_an_asking
abbrev hkA : PySem.W.Hook := hookB 5 factsA fndsA
def obA (s : PySem.W.SharedT) : He.AlD := obsBG 5 factsA fndsA (HandSHeadRun.getT s)
theorem obA_eq (s : PySem.W.SharedT) : obA s = hkA.obs s.abs := obsBG_eq (HandSHeadRun.getT_eq s)
theorem runA (w : World) : HandSHeadRun.RunEq RR (PySem.W.view RR.prog [40]) hkA obA 20000 namesA w := by
  intro os
  kernel_rfl
end Cd
set_option Elab.async false
set_option linter.all false
set_option maxRecDepth 100000
set_option maxHeartbeats 4000000
/-! ## The ground: data told by heaps, with a ghost heap of what stays -/
namespace PySem
theorem Paired.pImp {α β : Type} {F G : α → β → Prop} (f : ∀ a b, F a b → G a b) : ∀ {l : List α} {m : List β}, Paired F l m → Paired G l m
  | _, _, .nil => .nil
  | _, _, .cons r t => .cons (f _ _ r) (Paired.pImp f t)
theorem Paired.pLen {α β : Type} {F : α → β → Prop} : ∀ {l : List α} {m : List β}, Paired F l m → l.length = m.length
  | _, _, .nil => rfl
  | _, _, .cons _ t => congrArg (· + 1) (Paired.pLen t)
theorem Paired.pApp {α β : Type} {F : α → β → Prop} : ∀ {l : List α} {m : List β} {l' : List α} {m' : List β}, Paired F l m → Paired F l' m' → Paired F (l ++ l') (m ++ m')
  | _, _, _, _, .nil, h => h
  | _, _, _, _, .cons r t, h => .cons r (Paired.pApp t h)
theorem Paired.pDrop {α β : Type} {F : α → β → Prop} : ∀ {l : List α} {m : List β} (n : Nat), Paired F l m → Paired F (l.drop n) (m.drop n)
  | _, _, 0, h => h
  | _, _, _ + 1, .nil => .nil
  | _, _, n + 1, .cons _ t => Paired.pDrop n t
theorem Paired.pTake {α β : Type} {F : α → β → Prop} : ∀ {l : List α} {m : List β} (n : Nat), Paired F l m → Paired F (l.take n) (m.take n)
  | _, _, 0, _ => .nil
  | _, _, _ + 1, .nil => .nil
  | _, _, n + 1, .cons r t => .cons r (Paired.pTake n t)
theorem Paired.pAt {α β : Type} {F : α → β → Prop} : ∀ {l : List α} {m : List β} {i : Nat} {b : β}, Paired F l m → m[i]? = some b → ∃ a, l[i]? = some a ∧ F a b
  | _, _, _, _, .nil, h => by simp at h
  | _, _, 0, _, .cons r _, h => by simp at h; subst h; exact ⟨_, rfl, r⟩
  | _, _, i + 1, _, .cons _ t, h => by
    obtain ⟨a, h1, h2⟩ := Paired.pAt (i := i) t (by simpa using h)
    exact ⟨a, by simpa using h1, h2⟩
end PySem
namespace Cd
open PySem L2
/-! ### what a value tells -/
class Py (α : Type) where
  R : Fr → Hp → V → α → Prop
  mono : ∀ {K : Fr} {Z Z' : Hp} {v : V} {a : α}, Same Z Z' → R K Z v a → R K Z' v a
/-- a value that needs no heap -/
class Sc (α : Type) where
  emb : α → V
instance : Sc Int := ⟨V.int⟩
instance : Sc Bool := ⟨V.bl⟩
instance : Sc Str := ⟨V.str⟩
instance : Sc Unit := ⟨fun _ => V.non⟩
instance (priority := low) {α : Type} [Sc α] : Py α := ⟨fun _ _ v a => v = Sc.emb a, fun _ h => h⟩
instance {α : Type} [Py α] : Py (Option α) where
  R K Z v o := match o with
    | none => v = .non
    | some a => Py.R K Z v a
  mono := fun {K Z Z' v a} s h => by
    cases a with
    | none => exact h
    | some a => exact Py.mono s h
instance {α : Type} [Py α] : Py (List α) where
  R K Z v l := ∃ a xs, v = .ref a ∧ Z a = some (.lst xs) ∧ Paired (Py.R K Z) xs l
  mono := fun {K Z Z' v l} s h => by
    obtain ⟨a, xs, e, hz, p⟩ := h
    exact ⟨a, xs, e, s _ _ hz, Paired.pImp (fun _ _ r => Py.mono s r) p⟩
instance {α β : Type} [Py α] [Py β] : Py (α × β) where
  R K Z v p := ∃ a x y, v = .ref a ∧ Z a = some (.tup [x, y]) ∧ Py.R K Z x p.1 ∧ Py.R K Z y p.2
  mono := fun {K Z Z' v l} s h => by
    obtain ⟨a, x, y, e, hz, p, q⟩ := h
    exact ⟨a, x, y, e, s _ _ hz, Py.mono s p, Py.mono s q⟩
/-- the script -/
structure Scr where
  ns : List Int
instance : Py Scr where
  R K Z v l := ∃ a, v = .ref a ∧ SqL K Z a (l.ns.map V.int)
  mono := fun {K Z Z' v l} s h => by
    obtain ⟨a, e, hz⟩ := h
    exact ⟨a, e, s.seq hz⟩
/-! ### a step of heap and ghost -/
structure Step (Z H Z' H' : Hp) : Prop where
  hh : Same H H'
  zz : Same Z Z'
  zh : Same Z' H'
  fr : ∀ a o, H a = some o → Z' a = Z a
section
variable {K : Fr} {Z H Z' H' Z2 H2 Z0 H0 : Hp}
theorem Step.refl (s : Same Z H) : Step Z H Z H := ⟨Same.refl _, Same.refl _, s, fun _ _ _ => rfl⟩
theorem Step.trans (a : Step Z H Z' H') (b : Step Z' H' Z2 H2) : Step Z H Z2 H2 :=
  ⟨a.hh.trans b.hh, a.zz.trans b.zz, b.zh, fun x o e => (b.fr x o (a.hh x o e)).trans (a.fr x o e)⟩
/-- a new object, told -/
theorem Step.new {p : Addr} {o : HO} (s : Same Z H) (hp : H p = none) : Step Z H (upd Z p o) (upd H p o) := by
  have hz : Z p = none := s.free hp
  refine ⟨fun b u e => ?_, fun b u e => ?_, fun b u e => ?_, fun b u e => ?_⟩
  · rw [upd_ne (ne_of_none e hp)]; exact e
  · rw [upd_ne (ne_of_none e hz)]; exact e
  · by_cases q : b = p
    · subst q; rw [upd_same] at e ⊢; exact e
    · rw [upd_ne q] at e ⊢; exact s b u e
  · rw [upd_ne (ne_of_none e hp)]
/-- a new object, kept for oneself -/
theorem Step.own {p : Addr} {o : HO} (s : Same Z H) (hp : H p = none) : Step Z H Z (upd H p o) := by
  refine ⟨fun b u e => ?_, Same.refl _, fun b u e => ?_, fun _ _ _ => rfl⟩
  · rw [upd_ne (ne_of_none e hp)]; exact e
  · have q := s b u e
    rw [upd_ne (ne_of_none q hp)]; exact q
/-- one's own object, told from now on -/
theorem Step.tell {p : Addr} {o : HO} (c : Step Z0 H0 Z H) (hp : H p = some o) (hz : Z p = none) (h0 : H0 p = none) : Step Z0 H0 (upd Z p o) H ∧ Same Z (upd Z p o) := by
  have s2 : Same Z (upd Z p o) := fun b u e => by rw [upd_ne (ne_of_none e hz)]; exact e
  refine ⟨⟨c.hh, c.zz.trans s2, fun b u e => ?_, fun b u e => ?_⟩, s2⟩
  · by_cases q : b = p
    · subst q; rw [upd_same] at e; rw [hp]; exact e
    · rw [upd_ne q] at e; exact c.zh b u e
  · rw [upd_ne (ne_of_none e h0)]; exact c.fr b u e
/-- one's own object is changed -/
theorem Step.mut {p : Addr} {o : HO} (c : Step Z0 H0 Z H) (hz : Z p = none) (h0 : H0 p = none) : Step Z0 H0 Z (upd H p o) := by
  refine ⟨fun b u e => ?_, c.zz, fun b u e => ?_, c.fr⟩
  · rw [upd_ne (ne_of_none e h0)]; exact c.hh b u e
  · rw [upd_ne (ne_of_none e hz)]; exact c.zh b u e
/-- a list of one's own: it stands in the heap, the ghost knows nothing of it -/
structure Own {α : Type} [Py α] (K : Fr) (H0 Z H : Hp) (l : Addr) (m : List α) : Prop where
  ex : ∃ xs, H l = some (.lst xs) ∧ Paired (Py.R K Z) xs m
  nz : Z l = none
  n0 : H0 l = none
theorem Own.step {α : Type} [Py α] {l : Addr} {m : List α} (o : Own K H0 Z H l m) (st : Step Z H Z' H') : Own K H0 Z' H' l m := by
  obtain ⟨⟨xs, h, p⟩, nz, n0⟩ := o
  exact ⟨⟨xs, st.hh _ _ h, Paired.pImp (fun _ _ r => Py.mono st.zz r) p⟩, (st.fr _ _ h).trans nz, n0⟩
theorem Own.far {α : Type} [Py α] {l q : Addr} {u : HO} {m : List α} (o : Own K H0 Z H l m) (ne : l ≠ q) : Own K H0 Z (upd H q u) l m := by
  obtain ⟨⟨xs, h, p⟩, nz, n0⟩ := o
  exact ⟨⟨xs, by rw [upd_ne ne]; exact h, p⟩, nz, n0⟩
theorem Own.tell {α : Type} [Py α] {l : Addr} {m : List α} (o : Own K H0 Z H l m) (c : Step Z0 H0 Z H) : ∃ Z', Step Z0 H0 Z' H ∧ Same Z Z' ∧ Py.R K Z' (.ref l) m ∧ ∀ q, q ≠ l → Z' q = Z q := by
  obtain ⟨⟨xs, h, p⟩, nz, n0⟩ := o
  obtain ⟨c', s⟩ := c.tell h nz n0
  exact ⟨_, c', s, ⟨l, xs, rfl, upd_same, Paired.pImp (fun _ _ r => Py.mono s r) p⟩, fun q hq => upd_ne hq⟩
theorem Own.zfar {α : Type} [Py α] {l : Addr} {m : List α} (o : Own K H0 Z H l m) (s : Same Z Z') (hz : Z' l = Z l) : Own K H0 Z' H l m := by
  obtain ⟨⟨xs, h, p⟩, nz, n0⟩ := o
  exact ⟨⟨xs, h, Paired.pImp (fun _ _ r => Py.mono s r) p⟩, hz.trans nz, n0⟩
theorem Own.at {α : Type} [Py α] {l : Addr} {m : List α} (o : Own K H0 Z H l m) : ∃ u, H l = some u := let ⟨⟨_, h, _⟩, _, _⟩ := o; ⟨_, h⟩
theorem Own.ne_new {α : Type} [Py α] {l p : Addr} {m : List α} (o : Own K H0 Z H l m) (h : H p = none) : l ≠ p := let ⟨_, h1⟩ := o.at; ne_of_none h1 h
/-- a new list comes: told at once, or kept -/
def New {α : Type} [Py α] (K : Fr) (Z H : Hp) (Q : VK) (m : List α) : Prop :=
  ∀ p xs Z' H', Step Z H Z' H' → H p = none → H' p = some (.lst xs) → Z' p = none → Paired (Py.R K Z') xs m → Q (.ref p) H'
/-- something comes -/
def Tel {α : Type} [Py α] (K : Fr) (Z H : Hp) (Q : VK) (m : α) : Prop :=
  ∀ v Z' H', Step Z H Z' H' → Py.R K Z' v m → Q v H'
theorem New.tel {α : Type} [Py α] {Q : VK} {m : List α} (k : Tel K Z H Q m) : New K Z H Q m := fun p xs Z' H' st hp hl hz pr => by
  obtain ⟨c', s⟩ := st.tell hl hz hp
  exact k _ _ _ c' ⟨p, xs, rfl, upd_same, Paired.pImp (fun _ _ r => Py.mono s r) pr⟩
theorem New.own {α : Type} [Py α] {Q : VK} {m : List α} (c : Step Z0 H0 Z H) (k : ∀ p Z' H', Step Z H Z' H' → H p = none → Own K H0 Z' H' p m → Q (.ref p) H') : New K Z H Q m := fun p xs Z' H' st hp hl hz pr =>
  k p Z' H' st hp ⟨⟨xs, hl, pr⟩, hz, c.hh.free hp⟩
/-- a list laid anew -/
theorem New.lay {α : Type} [Py α] {Q : VK} {m : List α} {xs : List V} (s : Same Z H) (pr : Paired (Py.R K Z) xs m) (k : New K Z H Q m) : ∀ p, H p = none → Q (.ref p) (upd H p (.lst xs)) := fun p hp =>
  k p xs Z _ (Step.own s hp) hp upd_same (s.free hp) pr
end
/-! ### lists of plain values -/
theorem paired_emb {α : Type} [Sc α] {K : Fr} {Z : Hp} : ∀ {xs : List V} {m : List α}, Paired (Py.R K Z) xs m → xs = m.map Sc.emb
  | _, _, .nil => rfl
  | _, _, .cons r t => by
    rw [List.map_cons, ← paired_emb t, show _ = Sc.emb _ from r]
theorem paired_of {α : Type} [Sc α] {K : Fr} {Z : Hp} : ∀ (m : List α), Paired (Py.R K Z) (m.map Sc.emb) m
  | [] => .nil
  | _ :: r => .cons rfl (paired_of r)
end Cd

set_option Elab.async false
set_option linter.all false
set_option maxRecDepth 100000
set_option maxHeartbeats 4000000
namespace Cd
open PySem L2
/-! ### items and pieces -/
def inR (n : Nat) (i : Int) : Prop := -(n : Int) ≤ i ∧ i < n
theorem ixN_some {n : Nat} {i : Int} (h : inR n i) : ∃ j, ixN n i = some j ∧ j < n := by
  obtain ⟨h1, h2⟩ := h
  unfold ixN
  by_cases h0 : 0 ≤ i
  · rw [if_pos h0, if_pos h2]
    exact ⟨_, rfl, by omega⟩
  · rw [if_neg h0, if_pos h1]
    exact ⟨_, rfl, by omega⟩
def getI {α : Type} [Inhabited α] (l : List α) (i : Int) : α := (atI l i).getD default
theorem atI_get {α : Type} [Inhabited α] {l : List α} {i : Int} (h : inR l.length i) : atI l i = some (getI l i) := by
  obtain ⟨j, hj, hl⟩ := ixN_some h
  have e : atI l i = some l[j] := by
    unfold atI
    rw [hj]
    exact List.getElem?_eq_getElem hl
  unfold getI
  rw [e]
  rfl
/-- the sign at a place -/
def chS (z : Str) (i : Int) : Str := ⟨#[(atI z.cps.toList i).getD 0]⟩
def cutL {α : Type} (xs : List α) (lo hi : Option Int) : List α := (xs.drop (HT.sIx xs.length 0 lo)).take (HT.sIx xs.length xs.length hi - HT.sIx xs.length 0 lo)
end Cd
namespace PySem
open L2 Cd
theorem Paired.pCut {α : Type} {F : V → α → Prop} {xs : List V} {m : List α} (p : Paired F xs m) (lo hi : Option Int) : Paired F (cutV xs lo hi) (cutL m lo hi) := by
  unfold cutV cutL
  rw [p.pLen]
  exact (p.pDrop _).pTake _
end PySem
namespace Cd
open PySem L2
theorem atI_paired {α : Type} {F : V → α → Prop} {xs : List V} {m : List α} {i : Int} {a : α} (p : Paired F xs m) (h : atI m i = some a) : ∃ x, atI xs i = some x ∧ F x a := by
  unfold atI at h ⊢
  rw [p.pLen]
  cases e : ixN m.length i with
  | none => rw [e] at h; cases h
  | some j =>
    rw [e] at h
    exact p.pAt h
section
variable {K : Fr} {Z H Z0 H0 : Hp} {Q : VK}
theorem pyL {α : Type} [Py α] {v : V} {l : List α} (h : Py.R K Z v l) : ∃ a xs, v = .ref a ∧ Z a = some (.lst xs) ∧ Paired (Py.R K Z) xs l := h
/-! ### what the operations ask, over data -/
theorem k_eqI {i j : Int} (k : Q (.bl (decide (i = j))) H) : rEq (.int i) (.int j) H Q := by
  refine ⟨rfl, ?_⟩
  have e : decide ((V.int i) = V.int j) = decide (i = j) := decide_eq_decide.mpr ⟨V.int.inj, fun h => by rw [h]⟩
  rw [e]; exact k
theorem k_neI {i j : Int} (k : Q (.bl (!decide (i = j))) H) : rNe (.int i) (.int j) H Q := by
  refine ⟨rfl, ?_⟩
  have e : decide ((V.int i) = V.int j) = decide (i = j) := decide_eq_decide.mpr ⟨V.int.inj, fun h => by rw [h]⟩
  rw [e]; exact k
theorem k_neS {i j : Str} (k : Q (.bl (!decide (i = j))) H) : rNe (.str i) (.str j) H Q := by
  refine ⟨rfl, ?_⟩
  have e : decide ((V.str i) = V.str j) = decide (i = j) := decide_eq_decide.mpr ⟨V.str.inj, fun h => by rw [h]⟩
  rw [e]; exact k
theorem k_ixS {z : Str} {i : Int} (hs : z.length ≤ sizeLine) (hi : inR z.length i) (k : Q (.str (chS z i)) H) : rIxS (.str z) (.int i) H Q := by
  have e : z.length = z.cps.toList.length := by unfold Str.length; simp
  have h : atI z.cps.toList i = some (getI z.cps.toList i) := atI_get (by rw [← e]; exact hi)
  refine ⟨z, i, getI z.cps.toList i, rfl, rfl, hs, h, ?_⟩
  have e2 : chS z i = ⟨#[getI z.cps.toList i]⟩ := by unfold chS; rw [h]; rfl
  rw [← e2]; exact k
theorem k_ixL {α : Type} [Py α] [Inhabited α] {v : V} {l : List α} {i : Int} (zh : Same Z H) (h : Py.R K Z v l) (hi : inR l.length i) (k : ∀ y, Py.R K Z y (getI l i) → Q y H) : rIxL K v (.int i) H Q := by
  obtain ⟨a, xs, rfl, hz, p⟩ := h
  obtain ⟨x, hx, hf⟩ := atI_paired p (atI_get hi)
  exact ⟨a, xs, i, x, rfl, rfl, SqL.of (zh _ _ hz), hx, k x hf⟩
theorem k_ixLs {α : Type} [Sc α] [Inhabited α] {v : V} {l : List α} {i : Int} (zh : Same Z H) (h : Py.R K Z v l) (hi : inR l.length i) (k : Q (Sc.emb (getI l i)) H) : rIxL K v (.int i) H Q :=
  k_ixL zh h hi fun y hy => by
    obtain rfl := (show y = Sc.emb (getI l i) from hy)
    exact k
/-- an item of the script -/
theorem k_ixR {v : V} {l : Scr} {i : Int} (zh : Same Z H) (h : Py.R K Z v l) (hi : inR l.ns.length i) (k : Q (.int (getI l.ns i)) H) : rIxL K v (.int i) H Q := by
  obtain ⟨a, rfl, hz⟩ := h
  refine ⟨a, l.ns.map V.int, i, .int (getI l.ns i), rfl, rfl, zh.seq hz, ?_, k⟩
  have h1 := atI_get hi
  unfold atI at h1 ⊢
  rw [List.length_map]
  cases e : ixN l.ns.length i with
  | none => rw [e] at h1; cases h1
  | some j =>
    rw [e] at h1
    show (l.ns.map V.int)[j]? = _
    have h2 : l.ns[j]? = some (getI l.ns i) := h1
    rw [List.getElem?_map, h2]
    rfl
/-- the first and the second of a pair -/
theorem k_fst {α β : Type} [Py α] [Py β] {v : V} {p : α × β} (zh : Same Z H) (h : Py.R K Z v p) (k : ∀ y, Py.R K Z y p.1 → Q y H) : rIxT K v (.int 0) H Q := by
  obtain ⟨a, x, y, rfl, hz, hx, hy⟩ := h
  exact ⟨a, [x, y], 0, x, rfl, rfl, SqT.of (zh _ _ hz), rfl, k x hx⟩
theorem k_snd {α β : Type} [Py α] [Py β] {v : V} {p : α × β} (zh : Same Z H) (h : Py.R K Z v p) (k : ∀ y, Py.R K Z y p.2 → Q y H) : rIxT K v (.int 1) H Q := by
  obtain ⟨a, x, y, rfl, hz, hx, hy⟩ := h
  exact ⟨a, [x, y], 1, y, rfl, rfl, SqT.of (zh _ _ hz), rfl, k y hy⟩
theorem k_fstS {α β : Type} [Sc α] [Py β] {v : V} {p : α × β} (zh : Same Z H) (h : Py.R K Z v p) (k : Q (Sc.emb p.1) H) : rIxT K v (.int 0) H Q :=
  k_fst zh h fun y hy => by obtain rfl := (show y = Sc.emb p.1 from hy); exact k
theorem k_sndS {α β : Type} [Py α] [Sc β] {v : V} {p : α × β} (zh : Same Z H) (h : Py.R K Z v p) (k : Q (Sc.emb p.2) H) : rIxT K v (.int 1) H Q :=
  k_snd zh h fun y hy => by obtain rfl := (show y = Sc.emb p.2 from hy); exact k
theorem k_len {α : Type} [Py α] {v : V} {l : List α} (zh : Same Z H) (h : Py.R K Z v l) (k : Q (.int (l.length : Int)) H) : ∃ p ys, [v] = [V.ref p] ∧ (SqL K H p ys ∨ SqT K H p ys) ∧ Q (.int ys.length) H := by
  obtain ⟨a, xs, rfl, hz, p⟩ := h
  exact ⟨a, xs, rfl, .inl (SqL.of (zh _ _ hz)), by rw [p.pLen]; exact k⟩
theorem k_lenO {α : Type} [Py α] {p : Addr} {l : List α} (o : Own K H0 Z H p l) (k : Q (.int (l.length : Int)) H) : ∃ q ys, [V.ref p] = [V.ref q] ∧ (SqL K H q ys ∨ SqT K H q ys) ∧ Q (.int ys.length) H := by
  obtain ⟨⟨xs, hz, pr⟩, _, _⟩ := o
  exact ⟨p, xs, rfl, .inl (SqL.of hz), by rw [pr.pLen]; exact k⟩
theorem k_lenR {v : V} {l : Scr} (zh : Same Z H) (h : Py.R K Z v l) (k : Q (.int (l.ns.length : Int)) H) : ∃ p ys, [v] = [V.ref p] ∧ (SqL K H p ys ∨ SqT K H p ys) ∧ Q (.int ys.length) H := by
  obtain ⟨a, rfl, hz⟩ := h
  exact ⟨a, _, rfl, .inl (zh.seq hz), by rw [List.length_map]; exact k⟩
/-- a new pair -/
theorem k_pair {α β : Type} [Py α] [Py β] {x y : V} {a : α} {b : β} (zh : Same Z H) (hx : Py.R K Z x a) (hy : Py.R K Z y b) (k : Tel K Z H Q (a, b)) : ([x, y] : List V).length ≤ sizeLine ∧ ∀ p, H p = none → Q (.ref p) (upd H p (.tup [x, y])) := by
  refine ⟨by show 2 ≤ sizeLine; decide, fun p hp => ?_⟩
  have st := Step.new (o := .tup [x, y]) zh hp
  exact k _ _ _ st ⟨p, x, y, rfl, upd_same, Py.mono st.zz hx, Py.mono st.zz hy⟩
/-- a new list of written items -/
theorem k_list {α : Type} [Py α] {xs : List V} {m : List α} (zh : Same Z H) (pr : Paired (Py.R K Z) xs m) (hs : xs.length ≤ sizeLine) (k : New K Z H Q m) : xs.length ≤ sizeLine ∧ ∀ p, H p = none → Q (.ref p) (upd H p (.lst xs)) :=
  ⟨hs, New.lay zh pr k⟩
theorem k_slL {α : Type} [Py α] {v : V} {l : List α} {lo hi : Option Int} (zh : Same Z H) (h : Py.R K Z v l) (k : New K Z H Q (cutL l lo hi)) : rSlL K v lo hi H Q := by
  obtain ⟨a, xs, rfl, hz, p⟩ := h
  exact ⟨a, xs, rfl, SqL.of (zh _ _ hz), New.lay zh (p.pCut lo hi) k⟩
theorem cutV_map (f : Int → V) (ns : List Int) (lo hi : Option Int) : cutV (ns.map f) lo hi = (cutL ns lo hi).map f := by
  unfold cutV cutL
  rw [List.length_map, List.map_take, List.map_drop]
theorem k_slR {v : V} {l : Scr} {lo hi : Option Int} (zh : Same Z H) (h : Py.R K Z v l) (k : New K Z H Q (cutL l.ns lo hi)) : rSlL K v lo hi H Q := by
  obtain ⟨a, rfl, hz⟩ := h
  refine ⟨a, _, rfl, zh.seq hz, ?_⟩
  rw [cutV_map]
  exact New.lay zh (paired_of (α := Int) _) k
/-- list(..) -/
theorem k_listL {α : Type} [Py α] {v : V} {l : List α} (zh : Same Z H) (h : Py.R K Z v l) (k : New K Z H Q l) : ∃ p ys, [v] = [V.ref p] ∧ (SqL K H p ys ∨ SqT K H p ys) ∧ ∀ q, H q = none → Q (.ref q) (upd H q (.lst ys)) := by
  obtain ⟨a, xs, rfl, hz, p⟩ := h
  exact ⟨a, xs, rfl, .inl (SqL.of (zh _ _ hz)), New.lay zh p k⟩
/-- l.append(x) -/
theorem k_append {α : Type} [Py α] {q : Addr} {v : V} {l : List α} {a : α} (o : Own K H0 Z H q l) (h : Py.R K Z v a) (hs : l.length < sizeLine) (k : ∀ u, Own K H0 Z (upd H q u) q (l ++ [a]) → Q .non (upd H q u)) : rAppend (.ref q) [v] H Q := by
  obtain ⟨⟨xs, hz, pr⟩, nz, n0⟩ := o
  exact ⟨q, xs, v, rfl, rfl, hz, by rw [pr.pLen]; exact hs, k _ ⟨⟨_, upd_same, pr.pApp (.cons h .nil)⟩, nz, n0⟩⟩
/-- l[i] = x -/
def setI {α : Type} (l : List α) (i : Int) (a : α) : List α := match ixN l.length i with | some j => l.set j a | none => l
theorem tyO {α : Type} [Py α] {q : Addr} {l : List α} (o : Own K H0 Z H q l) : tyV K "list" (.ref q) H := let ⟨⟨xs, hz, _⟩, _, _⟩ := o; .inl ⟨rfl, xs, SqL.of hz⟩
theorem tyL {α : Type} [Py α] {v : V} {l : List α} (zh : Same Z H) (h : Py.R K Z v l) : tyV K "list" v H := by
  obtain ⟨a, xs, rfl, hz, p⟩ := h
  exact .inl ⟨rfl, xs, SqL.of (zh _ _ hz)⟩
end
/-! ### tests and values with an open wish -/
theorem ansAnd {t u : TT} {σ : St} {H : Hp} {b1 b2 : Bool} {Q : Bool → Hp → Prop} (h1 : ∀ Q' : Bool → Hp → Prop, Q' b1 H → t σ H Q') (h2 : b1 = true → ∀ Q' : Bool → Hp → Prop, Q' b2 H → u σ H Q') (k : Q (b1 && b2) H) : tAnd t u σ H Q := by
  refine h1 _ ?_
  cases b1 with
  | true => exact iteT (h2 rfl _ k)
  | false => exact iteF k
theorem ansOr {t u : TT} {σ : St} {H : Hp} {b1 b2 : Bool} {Q : Bool → Hp → Prop} (h1 : ∀ Q' : Bool → Hp → Prop, Q' b1 H → t σ H Q') (h2 : b1 = false → ∀ Q' : Bool → Hp → Prop, Q' b2 H → u σ H Q') (k : Q (b1 || b2) H) : tOr t u σ H Q := by
  refine h1 _ ?_
  cases b1 with
  | true => exact iteT k
  | false => exact iteF (h2 rfl _ k)
theorem valAnd {ta tb : TE} {σ : St} {H : Hp} {b1 b2 : Bool} {Q : VK} (h1 : ∀ Q' : VK, Q' (.bl b1) H → ta σ H Q') (h2 : b1 = true → ∀ Q' : VK, Q' (.bl b2) H → tb σ H Q') (k : Q (.bl (b1 && b2)) H) : tAndV ta tb σ H Q := by
  refine h1 _ ⟨b1, rfl, ?_⟩
  cases b1 with
  | true => exact iteT (h2 rfl _ k)
  | false => exact iteF k
theorem valOr {ta tb : TE} {σ : St} {H : Hp} {b1 b2 : Bool} {Q : VK} (h1 : ∀ Q' : VK, Q' (.bl b1) H → ta σ H Q') (h2 : b1 = false → ∀ Q' : VK, Q' (.bl b2) H → tb σ H Q') (k : Q (.bl (b1 || b2)) H) : tOrV ta tb σ H Q := by
  refine h1 _ ⟨b1, rfl, ?_⟩
  cases b1 with
  | true => exact iteT k
  | false => exact iteF (h2 rfl _ k)
/-! ### names -/
theorem storeI {i : Nat} {a : Int} {σ : St} {H : Hp} {Q : St → Hp → Prop} (k : ∀ x, x = a → Q (σ.set i (some (.int x))) H) : gName i (.int a) σ H Q := k a rfl
theorem storeS {i : Nat} {a : Str} {σ : St} {H : Hp} {Q : St → Hp → Prop} (k : ∀ x, x = a → Q (σ.set i (some (.str x))) H) : gName i (.str a) σ H Q := k a rfl
end Cd

set_option Elab.async false
set_option linter.all false
set_option maxRecDepth 100000
set_option maxHeartbeats 4000000
namespace Cd
open PySem L2
/-! ### loops: what is walked, as a list -/
/-- J walks L while the ghost's Z stands; Y tells what a turn hands out -/
structure Src {γ : Type} (J : It) (Z : Hp) (L : List γ) (Y : γ → V → Hp → Hp → Prop) : Prop where
  go : ∀ i a H, L[i]? = some a → Same Z H → J.go i H
  yld : ∀ i a H x H', L[i]? = some a → Same Z H → J.yld i H x H' → Y a x H H'
  stop : ∀ H, Same Z H → J.stop L.length H
def forRest (J : It) (g : TG) (tb : TS) (D : Ends) (σ : St) (H : Hp) : Prop := ∃ W : Nat → Nat → St → Hp → Prop, (∃ m, W 0 m σ H) ∧ ∀ i m σ H, W i m σ H →
  (J.stop i H ∧ D.nx σ H) ∨ (J.go i H ∧ ∃ N : St → Hp → Prop, (∀ σ' H', N σ' H' → ∃ m', m' < m ∧ W (i + 1) m' σ' H') ∧ ∀ x H', J.yld i H x H' → g x σ H' fun σ2 H2 => tb { D with nx := N, ct := N, bk := D.nx } σ2 H2)
section
variable {γ : Type} {J : It} {g : TG} {tb : TS} {D : Ends} {σ : St} {H Z : Hp} {L : List γ} {Y : γ → V → Hp → Hp → Prop}
theorem forK (src : Src J Z L Y) (Pv : List γ → St → Hp → Hp → Prop) (keep : ∀ r σ H' Z', Pv r σ H' Z' → Same Z Z' ∧ Same Z' H') (h0 : ∃ Z', Pv L σ H Z')
    (turn : ∀ a r x σ H' H2 Z', a ∈ L → (∃ d, L = d ++ a :: r) → Pv (a :: r) σ H' Z' → Y a x H' H2 → g x σ H2 fun σ2 H3 => tb { D with nx := fun σ' H' => ∃ Z2, Pv r σ' H' Z2, ct := fun σ' H' => ∃ Z2, Pv r σ' H' Z2, bk := D.nx } σ2 H3)
    (done : ∀ σ H' Z', Pv [] σ H' Z' → D.nx σ H') : forRest J g tb D σ H := by
  refine ⟨fun i m σ H' => i ≤ L.length ∧ m = L.length - i ∧ ∃ Z', Pv (L.drop i) σ H' Z', ⟨L.length, Nat.zero_le _, by omega, h0⟩, ?_⟩
  rintro i m σ H' ⟨hi, rfl, Z', hp⟩
  obtain ⟨k1, k2⟩ := keep _ _ _ _ hp
  have zs : Same Z H' := k1.trans k2
  by_cases hlt : i < L.length
  · have e : L.drop i = L[i] :: L.drop (i + 1) := List.drop_eq_getElem_cons hlt
    have ea : L[i]? = some L[i] := List.getElem?_eq_getElem hlt
    rw [e] at hp
    refine .inr ⟨src.go i _ H' ea zs, fun σ' H' => ∃ Z2, Pv (L.drop (i + 1)) σ' H' Z2, fun σ' H2 q => ⟨L.length - (i + 1), by omega, hlt, rfl, q⟩, fun x H2 y => ?_⟩
    exact turn _ _ x σ H' H2 Z' (List.getElem_mem hlt) ⟨L.take i, by rw [← e, List.take_append_drop]⟩ hp (src.yld i _ H' x H2 ea zs y)
  · have e : i = L.length := by omega
    subst e
    rw [List.drop_length] at hp
    exact .inl ⟨src.stop H' zs, done σ H' Z' hp⟩
end
section
variable {K : Fr} {Z H : Hp}
/-- a list's items -/
theorem src_list {α : Type} [Py α] {a : Addr} {xs : List V} {l : List α} (hz : Z a = some (.lst xs)) (p : Paired (Py.R K Z) xs l) : Src (Itl K a) Z l (fun b x H H' => H' = H ∧ Py.R K Z x b) := by
  refine ⟨fun i b H' e s => ?_, fun i b H' x H2 e s y => ?_, fun H' s => ?_⟩
  · obtain ⟨x, h1, h2⟩ := p.pAt e
    exact ⟨xs, x, SqL.of (s _ _ hz), h1⟩
  · obtain ⟨rfl, y⟩ := y
    obtain ⟨x', h1, h2⟩ := p.pAt e
    have h3 := y xs (SqL.of (s _ _ hz))
    rw [h1] at h3
    cases h3
    exact ⟨rfl, h2⟩
  · exact ⟨xs, SqL.of (s _ _ hz), by rw [p.pLen]; exact Nat.le_refl _⟩
/-- lo, lo + 1, .. -/
def rangeL (lo : Int) (n : Nat) : List Int := (List.range n).map fun (i : Nat) => lo + (i : Int)
theorem rangeL_len (lo : Int) (n : Nat) : (rangeL lo n).length = n := by unfold rangeL; rw [List.length_map, List.length_range]
theorem rangeL_at {lo : Int} {n i : Nat} {a : Int} (h : (rangeL lo n)[i]? = some a) : i < n ∧ a = lo + (i : Int) := by
  unfold rangeL at h
  rw [List.getElem?_map] at h
  by_cases hi : i < n
  · rw [List.getElem?_range hi] at h
    cases h
    exact ⟨hi, rfl⟩
  · rw [List.getElem?_eq_none (by rw [List.length_range]; omega)] at h
    cases h
theorem src_range (lo : Int) (n : Nat) : Src (Itr lo n) Z (rangeL lo n) (fun b x H H' => H' = H ∧ x = V.int b) := by
  refine ⟨fun i b H' e s => (rangeL_at e).1, fun i b H' x H2 e s y => ?_, fun H' s => ?_⟩
  · obtain ⟨rfl, rfl⟩ := y
    rw [(rangeL_at e).2]
    exact ⟨rfl, rfl⟩
  · rw [rangeL_len]
    exact Nat.le_refl n
/-- range with a step -/
def rangeC (lo c : Int) (n : Nat) : List Int := (List.range n).map fun (i : Nat) => lo + (i : Int) * c
/-- a text's signs -/
def chars (z : Str) : List Str := z.cps.toList.map fun c => ⟨#[c]⟩
theorem chars_len (z : Str) : (chars z).length = z.cps.size := by unfold chars; rw [List.length_map]; simp
theorem src_str (z : Str) : Src (Its z) Z (chars z) (fun b x H H' => H' = H ∧ x = V.str b) := by
  refine ⟨fun i b H' e s => ?_, fun i b H' x H2 e s y => ?_, fun H' s => ?_⟩
  · have h := (List.getElem?_eq_some_iff.mp e).1
    rw [chars_len] at h
    exact h
  · obtain ⟨rfl, c, hc, rfl⟩ := y
    unfold chars at e
    rw [List.getElem?_map] at e
    have h2 : z.cps.toList[i]? = some c := by rw [← hc]; simp
    rw [h2] at e
    cases e
    exact ⟨rfl, rfl⟩
  · rw [chars_len]
    exact Nat.le_refl _
/-- pairs: a turn lays a new tuple -/
def YP {α β : Type} (RA : V → α → Prop) (RB : V → β → Prop) : (α × β) → V → Hp → Hp → Prop := fun p x H H' => ∃ T u v, x = V.ref T ∧ H T = none ∧ H' = upd H T (.tup [u, v]) ∧ RA u p.1 ∧ RB v p.2
def enumL {α : Type} (k : Int) (l : List α) : List (Int × α) := (rangeL k l.length).zip l
theorem src_enum {α : Type} [Py α] {a : Addr} {xs : List V} {l : List α} (hz : Z a = some (.lst xs)) (p : Paired (Py.R K Z) xs l) : Src (Ite K a) Z (enumL 0 l) (YP (fun u (i : Int) => u = V.int i) (Py.R K Z)) := by
  have hl : (enumL 0 l).length = l.length := by unfold enumL; rw [List.length_zip, rangeL_len]; omega
  have hat : ∀ (i : Nat) (q : Int × α), (enumL 0 l)[i]? = some q → q.1 = (i : Int) ∧ l[i]? = some q.2 := fun i q h => by
    unfold enumL at h
    rw [List.getElem?_zip_eq_some] at h
    obtain ⟨h1, h2⟩ := h
    have h3 := (rangeL_at h1).2
    exact ⟨by rw [h3]; omega, h2⟩
  refine ⟨fun i b H' e s => ?_, fun i b H' x H2 e s y => ?_, fun H' s => ?_⟩
  · obtain ⟨x, h1, h2⟩ := p.pAt (hat _ _ e).2
    exact ⟨xs, x, SqL.of (s _ _ hz), h1⟩
  · obtain ⟨T, u, rfl, hT, rfl, hu⟩ := y
    obtain ⟨e1, e2⟩ := hat _ _ e
    obtain ⟨x', h1, h2⟩ := p.pAt e2
    have h3 := hu xs (SqL.of (s _ _ hz))
    rw [h1] at h3
    cases h3
    exact ⟨T, _, _, rfl, hT, rfl, by rw [e1], h2⟩
  · exact ⟨xs, SqL.of (s _ _ hz), by rw [hl, p.pLen]; exact Nat.le_refl _⟩
/-! ### one turn's target -/
theorem tgt1 {i : Nat} {x : V} {σ : St} {H : Hp} {Q : St → Hp → Prop} (k : Q (σ.set i (some x)) H) : gName i x σ H Q := k
theorem tgt2 {α β : Type} {RA : V → α → Prop} {RB : V → β → Prop} {p : α × β} {i j : Nat} {x : V} {σ : St} {H H' Z : Hp} {Q : St → Hp → Prop} (zh : Same Z H) (y : YP RA RB p x H H') (k : ∀ u v, RA u p.1 → RB v p.2 → Step Z H Z H' → Q ((σ.set i (some u)).set j (some v)) H') :
    gTup K 2 (gCons (gName i) (gCons (gName j) gNil)) x σ H' Q := by
  obtain ⟨T, u, v, rfl, hT, rfl, h1, h2⟩ := y
  exact ⟨T, [u, v], rfl, SqT.of upd_same, rfl, u, [v], rfl, v, [], rfl, rfl, k u v h1 h2 (Step.own zh hT)⟩
end
/-! ### the mirrors' loops -/
inductive LR (S R : Type) where
  | nxt (s : S) | brk (s : S) | ret (r : R)
def LR.bind {S R : Type} (x : LR S R) (k : S → R) : R := match x with
  | .nxt s => k s
  | .brk s => k s
  | .ret r => r
def loopR {α S R : Type} (f : S → α → LR S R) : S → List α → LR S R
  | s, [] => .nxt s
  | s, x :: r => match f s x with
    | .nxt s' => loopR f s' r
    | .brk s' => .brk s'
    | .ret v => .ret v
def loopS {α S : Type} (f : S → α → S) : S → List α → S
  | s, [] => s
  | s, x :: r => loopS f (f s x) r
/-! ### comprehensions -/
section
variable {γ β : Type} [Py β] {K : Fr} {J : It} {g : TG} {tt : TT} {te : TE} {σ : St} {H Z : Hp} {L : List γ} {Y : γ → V → Hp → Hp → Prop} {vs : List Nat} {Q : VK}
theorem lcK (src : Src J Z L Y) (zh : Same Z H) (f : γ → β) (p : γ → Bool) (hs : L.length < sizeLine)
    (el : ∀ a x Z' H' H2 (C : VK) (N : Hp → Prop), a ∈ L → Step Z H Z' H' → Y a x H' H2 →
      (∀ y Z2 H3, Step Z' H' Z2 H3 → p a = true → Py.R K Z2 y (f a) → C y H3) → (∀ Z2 H3, Step Z' H' Z2 H3 → p a = false → N H3) →
      g x (wipe σ vs) H2 fun σ2 H3 => wipe σ2 vs = wipe σ vs ∧ tt σ2 H3 fun b H4 => if b = true then te σ2 H4 C else N H4)
    (k : New K Z H Q ((L.filter p).map f)) :
    ∀ D, H D = none → ∃ W : Nat → Nat → Hp → Prop, (∃ m, W 0 m (upd H D (.lst []))) ∧ ∀ i m H, W i m H →
      (J.stop i H ∧ Q (.ref D)  H) ∨ (J.go i H ∧ ∃ Nx : Hp → Prop, (∀ H', Nx H' → ∃ m', m' < m ∧ W (i + 1) m' H') ∧ ∀ x H', J.yld i H x H' → g x (wipe σ vs) H' fun σ2 H2 => wipe σ2 vs = wipe σ vs ∧ tt σ2 H2 fun b H3 =>
        if b = true then te σ2 H3 fun y H4 => ∃ acc, H4 D = some (.lst acc) ∧ acc.length < sizeLine ∧ Nx (upd H4 D (.lst (acc ++ [y]))) else Nx H3) := by
  intro D hD
  let Pv : Nat → Hp → Prop := fun i H' => i ≤ L.length ∧ ∃ Z', Step Z H Z' H' ∧ Own K H Z' H' D (((L.take i).filter p).map f)
  have s0 : Step Z H Z (upd H D (.lst [])) := Step.own zh hD
  refine ⟨fun i m H' => m = L.length - i ∧ Pv i H', ⟨L.length, by omega, Nat.zero_le _, Z, s0, ⟨[], upd_same, .nil⟩, zh.free hD, hD⟩, ?_⟩
  rintro i m H' ⟨rfl, hi, Z', st, ow⟩
  have zs : Same Z H' := st.zz.trans st.zh
  by_cases hlt : i < L.length
  · have ea : L[i]? = some L[i] := List.getElem?_eq_getElem hlt
    refine .inr ⟨src.go i _ H' ea zs, Pv (i + 1), fun H2 q => ⟨L.length - (i + 1), by omega, rfl, q⟩, fun x H2 y => ?_⟩
    have et : L.take (i + 1) = L.take i ++ [L[i]] := by rw [List.take_add_one, ea]; rfl
    refine el L[i] x Z' H' H2 _ _ (List.getElem_mem hlt) st (src.yld i _ H' x H2 ea zs y) (fun y Z2 H3 st2 hp hr => ?_) (fun Z2 H3 st2 hp => ?_)
    · have ow2 := ow.step st2
      obtain ⟨⟨acc, h1, p1⟩, nz, n0⟩ := ow2
      refine ⟨acc, h1, ?_, hlt, Z2, (st.trans st2).mut nz n0, ⟨acc ++ [y], upd_same, ?_⟩, nz, n0⟩
      · rw [p1.pLen, List.length_map]
        have := List.length_filter_le p (L.take i)
        rw [List.length_take] at this
        omega
      · rw [et, List.filter_append, List.map_append, List.filter_cons_of_pos hp]
        exact p1.pApp (.cons hr .nil)
    · refine ⟨hlt, Z2, st.trans st2, ?_⟩
      have e : ((L.take (i + 1)).filter p).map f = ((L.take i).filter p).map f := by
        rw [et, List.filter_append, List.filter_cons_of_neg (by rw [hp]; exact Bool.false_ne_true)]
        simp
      rw [e]
      exact ow.step st2
  · have e : i = L.length := by omega
    subst e
    rw [List.take_length] at ow
    refine .inl ⟨src.stop H' zs, ?_⟩
    obtain ⟨⟨acc, h1, p1⟩, nz, n0⟩ := ow
    exact k D acc Z' H' st hD h1 nz p1
end
/-! ### a def of the text, as it is called -/
structure Cal (P : Program) (w : World) (K : Fr) (mg : Str → Option Value) (base : Heap) (CX : CXT) (x : Str) (k : Nat) (ps : List Str) (sp : Sp) : Prop where
  ex : ∃ f fd, FnOk P w K mg base CX k f fd ps sp ∧ mg x = some (.ref f) ∧ PySem.W.keepIn K (.ref f) = true ∧ Binds K fd ps []
section
variable {X : Cx} {CX : CXT} {x : Str} {k : Nat} {ps : List Str} {sp : Sp} {E : XK} {t : TA} {e : Expr} {es : List Expr} {p pos : Pos}
theorem pe_cal (c : Cal X.prog X.w X.K X.mg X.base CX x k ps sp) (hr : Room k X.A) (hx : Passes CX X E) (ha : PA X (e :: es) t) (hg : Gl X x := by rfl) (hdb : (x == ("__debug__" : Str)) = false := by decide)
    (he : starEach (e :: es) X.env = (false, eval e X.env) :: starEach es X.env := by rfl) (hpl : (backTo pos (starEach es X.env)).any (·.1) = false := by rfl) : PE X (.Call (.Name x p) (e :: es) [] pos) (tCall sp [] E t) := by
  obtain ⟨f, fd, F, hm, hk, hb⟩ := c.ex
  exact pe_call F hr hg hm hk hb .nil hx ha hdb he hpl
end
end Cd

set_option Elab.async false
set_option linter.all false
set_option maxRecDepth 100000
set_option maxHeartbeats 4000000
namespace Cd
open PySem L2
section
variable {K : Fr} {Z H Z0 H0 Z' H' : Hp} {Q : VK}
/-! ### wishes handed on -/
theorem Tel.sc {α : Type} [Sc α] {m : α} (k : ∀ Z' H', Step Z H Z' H' → Q (Sc.emb m) H') : Tel K Z H Q m := fun v Z' H' st h => by
  obtain rfl := (show v = Sc.emb m from h)
  exact k Z' H' st
theorem Tel.gen {α : Type} [Py α] {m : α} (k : ∀ n, n = m → Tel K Z H Q n) : Tel K Z H Q m := k m rfl
theorem New.gen {α : Type} [Py α] {m : List α} (k : ∀ n, n = m → New K Z H Q n) : New K Z H Q m := k m rfl
theorem New.after {α : Type} [Py α] {m : List α} (c : Step Z0 H0 Z H) (k : New K Z0 H0 Q m) : New K Z H Q m := fun p xs Z' H' st hp hl hz pr => k p xs Z' H' (c.trans st) (c.hh.free hp) hl hz pr
theorem Own.ret {α : Type} [Py α] {p : Addr} {m : List α} (o : Own K H0 Z H p m) (c : Step Z0 H0 Z H) (k : New K Z0 H0 Q m) : Q (.ref p) H := by
  obtain ⟨⟨xs, hl, pr⟩, nz, n0⟩ := o
  exact k p xs Z H c n0 hl nz pr
theorem tgtP {α β : Type} [Py α] [Py β] {v : V} {p : α × β} {i j : Nat} {σ : St} {R : St → Hp → Prop} (zh : Same Z H) (h : Py.R K Z v p) (k : ∀ a, a = p.1 → ∀ b, b = p.2 → ∀ x y, Py.R K Z x a → Py.R K Z y b → R ((σ.set i (some x)).set j (some y)) H) :
    gTup K 2 (gCons (gName i) (gCons (gName j) gNil)) v σ H R := by
  obtain ⟨a, x, y, rfl, hz, hx, hy⟩ := h
  exact ⟨a, [x, y], rfl, SqT.of (zh _ _ hz), rfl, x, [y], rfl, y, [], rfl, rfl, k _ rfl _ rfl x y hx hy⟩
/-- readings that begin with a pair, so that what follows is seen at once -/
def tK (v : V) : TE := fun _ H Q => True ∧ Q v H
theorem pcK {X : Cx} {e : Expr} {v : V} (h : PE X e (tC v)) : PE X e (tK v) := ⟨fun pins s σ H Q I q => h.run pins s σ H Q I q.2⟩
def tNilK : TA := fun _ H Q => True ∧ Q [] H
theorem pnK {X : Cx} : PA X [] tNilK := ⟨fun p pins s σ H Q I q => pa_nil.run p pins s σ H Q I q.2⟩
def tU (t : TE) : TE := fun σ H Q => True ∧ t σ H Q
theorem puK {X : Cx} {e : Expr} {t : TE} (h : PE X e t) : PE X e (tU t) := ⟨fun pins s σ H Q I q => h.run pins s σ H Q I q.2⟩
def tUT (t : TT) : TT := fun σ H Q => True ∧ t σ H Q
theorem ptK {X : Cx} {e : Expr} {t : TT} (h : PT X e t) : PT X e (tUT t) := ⟨fun pins s σ H Q I q => h.run pins s σ H Q I q.2⟩
/-! ### None -/
def optB {α R : Type} (o : Option α) (n : R) (s : α → R) : R := match o with
  | none => n
  | some a => s a
/-- a value that is not None -/
class Nn (α : Type) [Py α] where
  nn : ∀ {K : Fr} {Z : Hp} {v : V} {a : α}, Py.R K Z v a → v ≠ .non
instance : Nn Int := ⟨fun h e => by cases (show _ = V.int _ from h); cases e⟩
instance : Nn Bool := ⟨fun h e => by cases (show _ = V.bl _ from h); cases e⟩
instance : Nn Str := ⟨fun h e => by cases (show _ = V.str _ from h); cases e⟩
instance {α : Type} [Py α] : Nn (List α) := ⟨fun h e => by obtain ⟨a, xs, e2, _⟩ := h; rw [e2] at e; cases e⟩
instance {α β : Type} [Py α] [Py β] : Nn (α × β) := ⟨fun h e => by obtain ⟨a, xs, y, e2, _⟩ := h; rw [e2] at e; cases e⟩
/-! ### comparisons -/
def inS (a b : Str) : Bool := !(Builtin.Str.occurrences b a 0 b.length 1).isEmpty
/-- a list read: told, or one's own -/
def RO {α : Type} [Py α] (K : Fr) (Z H : Hp) (v : V) (l : List α) : Prop := ∃ a xs, v = .ref a ∧ H a = some (.lst xs) ∧ Paired (Py.R K Z) xs l
theorem RO.own {α : Type} [Py α] {p : Addr} {l : List α} (o : Own K H0 Z H p l) : RO K Z H (.ref p) l := let ⟨⟨xs, h, pr⟩, _, _⟩ := o; ⟨p, xs, rfl, h, pr⟩
theorem RO.tell {α : Type} [Py α] {v : V} {l : List α} (zh : Same Z H) (h : Py.R K Z v l) : RO K Z H v l := let ⟨a, xs, e, hz, pr⟩ := h; ⟨a, xs, e, zh _ _ hz, pr⟩
theorem inV_int {ns : List Int} {i : Int} : inV (.int i) (ns.map V.int) = decide (i ∈ ns) := by
  unfold inV
  induction ns with
  | nil => simp
  | cons n r ih =>
    rw [List.map_cons, List.any_cons, ih]
    show ((n == i) || decide (i ∈ r)) = decide (i ∈ n :: r)
    by_cases e : n = i
    · subst e; simp
    · have e2 : ¬ i = n := fun z => e z.symm
      simp [e, e2]
theorem inV_str {ns : List Str} {i : Str} : inV (.str i) (ns.map V.str) = decide (i ∈ ns) := by
  unfold inV
  induction ns with
  | nil => simp
  | cons n r ih =>
    rw [List.map_cons, List.any_cons, ih]
    show ((n == i) || decide (i ∈ r)) = decide (i ∈ n :: r)
    by_cases e : n = i
    · subst e; simp
    · have e2 : ¬ i = n := fun z => e z.symm
      simp [e, e2]
/-- values that stand in lists and are compared plainly -/
class Fl (α : Type) [Sc α] [DecidableEq α] where
  flat : ∀ a : α, flatV (Sc.emb a) = true
  isIn : ∀ (l : List α) (a : α), inV (Sc.emb a) (l.map Sc.emb) = decide (a ∈ l)
instance : Fl Int := ⟨fun _ => rfl, fun l a => inV_int⟩
instance : Fl Str := ⟨fun _ => rfl, fun l a => inV_str⟩
theorem allFlat {α : Type} [Sc α] [DecidableEq α] [Fl α] : ∀ l : List α, (l.map Sc.emb).all flatV = true
  | [] => rfl
  | a :: r => by rw [List.map_cons, List.all_cons, Fl.flat, allFlat r]; rfl
theorem k_ninL {α : Type} [Sc α] [DecidableEq α] [Fl α] {v : V} {a : α} {l : List α} (h : RO K Z H v l) (k : Q (.bl (!decide (a ∈ l))) H) : rIn K true (Sc.emb a) v H Q := by
  obtain ⟨p, xs, rfl, hl, pr⟩ := h
  obtain rfl := paired_emb pr
  refine ⟨p, _, rfl, .inl (SqL.of hl), Fl.flat a, allFlat l, ?_⟩
  rw [Fl.isIn]
  exact k
/-! ### == of data -/
class PyD (α : Type) [Py α] [DecidableEq α] where
  d : α → PyData
  dp : ∀ {K : Fr} {Z H : Hp} {v : V} {a : α}, Same Z H → Py.R K Z v a → Dp K H v (d a)
  eqv : ∀ a b : α, PyData.eqv (d a) (d b) = decide (a = b)
  dep : Nat
  depth : ∀ a : α, (d a).depth ≤ dep
instance : PyD Int := ⟨.int, fun _ h => by cases (show _ = V.int _ from h); exact .int _, fun a b => by simp [PyData.eqv]; rfl, 0, fun _ => by simp [PyData.depth]⟩
instance : PyD Bool := ⟨.bool, fun _ h => by cases (show _ = V.bl _ from h); exact .bl _, fun a b => by cases a <;> cases b <;> simp [PyData.eqv], 0, fun _ => by simp [PyData.depth]⟩
instance : PyD Str := ⟨.str, fun _ h => by cases (show _ = V.str _ from h); exact .str _, fun a b => by
  show (a == b) = decide (a = b)
  by_cases e : a = b
  · subst e; simp
  · simp [e], 0, fun _ => by simp [PyData.depth]⟩
theorem dpAll {α : Type} [Py α] [DecidableEq α] [PyD α] (zh : Same Z H) : ∀ {xs : List V} {l : List α}, Paired (Py.R K Z) xs l → DpAll K H xs (l.map PyD.d)
  | _, _, .nil => .nil
  | _, _, .cons r t => .cons (PyD.dp zh r) (dpAll zh t)
theorem eqvAll_map {α : Type} [Py α] [DecidableEq α] [PyD α] : ∀ l m : List α, PyData.eqvAll (l.map PyD.d) (m.map PyD.d) = decide (l = m)
  | [], [] => by simp [PyData.eqvAll]
  | [], _ :: _ => by simp [PyData.eqvAll]
  | _ :: _, [] => by simp [PyData.eqvAll]
  | a :: r, b :: s => by
    rw [List.map_cons, List.map_cons]
    show (PyData.eqv (PyD.d a) (PyD.d b) && PyData.eqvAll (r.map PyD.d) (s.map PyD.d)) = _
    rw [PyD.eqv, eqvAll_map r s]
    by_cases e : a = b
    · subst e; by_cases e2 : r = s
      · subst e2; simp
      · simp [e2]
    · simp [e]
theorem depthAll_map {α : Type} [Py α] [DecidableEq α] [PyD α] : ∀ l : List α, PyData.depthAll (l.map PyD.d) ≤ PyD.dep α
  | [] => Nat.zero_le _
  | a :: r => by
    rw [List.map_cons]
    show max (PyD.d a).depth (PyData.depthAll (r.map PyD.d)) ≤ _
    exact Nat.max_le.mpr ⟨PyD.depth a, depthAll_map r⟩
instance {α : Type} [Py α] [DecidableEq α] [PyD α] : PyD (List α) where
  d l := .list (l.map PyD.d)
  dp := fun zh h => by
    obtain ⟨a, xs, rfl, hz, p⟩ := h
    exact .lst (SqL.of (zh _ _ hz)) (dpAll zh p)
  eqv := fun l m => eqvAll_map l m
  dep := PyD.dep α + 1
  depth := fun l => Nat.succ_le_succ (depthAll_map l)
instance {α β : Type} [Py α] [DecidableEq α] [PyD α] [Py β] [DecidableEq β] [PyD β] : PyD (α × β) where
  d p := .tuple [PyD.d p.1, PyD.d p.2]
  dp := fun zh h => by
    obtain ⟨a, x, y, rfl, hz, hx, hy⟩ := h
    exact .tup (SqT.of (zh _ _ hz)) (.cons (PyD.dp zh hx) (.cons (PyD.dp zh hy) .nil))
  eqv := fun p q => by
    show (PyData.eqv (PyD.d p.1) (PyD.d q.1) && (PyData.eqv (PyD.d p.2) (PyD.d q.2) && PyData.eqvAll [] [])) = _
    rw [PyD.eqv, PyD.eqv]
    obtain ⟨a, b⟩ := p
    obtain ⟨a', b'⟩ := q
    by_cases e : a = a'
    · subst e; by_cases e2 : b = b'
      · subst e2; simp [PyData.eqvAll]
      · simp [e2]
    · simp [e]
  dep := max (PyD.dep α) (PyD.dep β) + 1
  depth := fun p => by
    show max (PyD.d p.1).depth (max (PyD.d p.2).depth 0) + 1 ≤ _
    have h1 := PyD.depth p.1
    have h2 := PyD.depth p.2
    omega
/-- a value that may be None, beside data that is never None -/
class PyN (α : Type) [Py α] [DecidableEq α] [PyD α] where
  n1 : ∀ a : α, PyData.eqv .none (PyD.d a) = false
  n2 : ∀ a : α, PyData.eqv (PyD.d a) .none = false
instance : PyN Int := ⟨fun _ => by simp [PyD.d, PyData.eqv], fun _ => by simp [PyD.d, PyData.eqv]⟩
instance : PyN Bool := ⟨fun _ => by simp [PyD.d, PyData.eqv], fun _ => by simp [PyD.d, PyData.eqv]⟩
instance : PyN Str := ⟨fun _ => by simp [PyD.d, PyData.eqv], fun _ => by simp [PyD.d, PyData.eqv]⟩
instance {α : Type} [Py α] [DecidableEq α] [PyD α] : PyN (List α) := ⟨fun _ => by simp [PyD.d, PyData.eqv], fun _ => by simp [PyD.d, PyData.eqv]⟩
instance {α β : Type} [Py α] [DecidableEq α] [PyD α] [Py β] [DecidableEq β] [PyD β] : PyN (α × β) := ⟨fun _ => by simp [PyD.d, PyData.eqv], fun _ => by simp [PyD.d, PyData.eqv]⟩
instance {α : Type} [Py α] [DecidableEq α] [PyD α] [PyN α] : PyD (Option α) where
  d o := match o with
    | none => .none
    | some a => PyD.d a
  dp := fun {K Z H v a} zh h => by
    cases a with
    | none => cases (show v = V.non from h); exact .non
    | some a => exact PyD.dp zh (show Py.R K Z v a from h)
  eqv := fun a b => by
    cases a with
    | none => cases b with
      | none => simp [PyData.eqv]
      | some b => simp [PyN.n1]
    | some a => cases b with
      | none => simp [PyN.n2]
      | some b => show PyData.eqv (PyD.d a) (PyD.d b) = _; rw [PyD.eqv]; simp
  dep := PyD.dep α
  depth := fun a => by
    cases a with
    | none => simp [PyData.depth]
    | some a => exact PyD.depth a
/-- x tells the data a -/
def Pd {α : Type} [Py α] [DecidableEq α] [PyD α] (K : Fr) (H : Hp) (x : V) (a : α) : Prop := Dp K H x (PyD.d a)
theorem Pd.ref {α : Type} [Py α] [DecidableEq α] [PyD α] {v : V} {a : α} (zh : Same Z H) (h : Py.R K Z v a) : Pd K H v a := PyD.dp zh h
theorem Pd.int (i : Int) : Pd K H (.int i) i := Dp.int i
theorem Pd.str (i : Str) : Pd K H (.str i) i := Dp.str i
theorem Pd.bl (i : Bool) : Pd K H (.bl i) i := Dp.bl i
theorem Pd.none {α : Type} [Py α] [DecidableEq α] [PyD α] [PyN α] : Pd K H .non (none : Option α) := .non
theorem Pd.some {α : Type} [Py α] [DecidableEq α] [PyD α] [PyN α] {v : V} {a : α} (h : Pd K H v a) : Pd K H v (some a) := h
theorem Pd.own {α : Type} [Py α] [DecidableEq α] [PyD α] {p : Addr} {l : List α} (c : Step Z0 H0 Z H) (o : Own K H0 Z H p l) : Pd K H (.ref p) l := by
  obtain ⟨⟨xs, h, pr⟩, _, _⟩ := o
  exact .lst (SqL.of h) (dpAll c.zh pr)
def okD {α : Type} [Py α] [DecidableEq α] [PyD α] (a : α) : Bool := (PyD.d a).canLay0
@[simp] theorem okD_int (i : Int) : okD i = true := by simp [okD, PyD.d, PyData.canLay0]
@[simp] theorem okD_bool (i : Bool) : okD i = true := by simp [okD, PyD.d, PyData.canLay0]
theorem okD_str (i : Str) : okD i = i.cps.all (· < 0x110000) := by simp [okD, PyD.d, PyData.canLay0, PyData.strOk]
theorem okD_list {α : Type} [Py α] [DecidableEq α] [PyD α] : ∀ l : List α, okD l = l.all okD
  | [] => by simp [okD, PyD.d, PyData.canLay0, PyData.canLayAll0]
  | a :: r => by
    have ih := okD_list r
    unfold okD at ih ⊢
    show PyData.canLayAll0 (PyD.d a :: r.map PyD.d) = _
    show ((PyD.d a).canLay0 && PyData.canLayAll0 (r.map PyD.d)) = _
    rw [List.all_cons, ← ih]
    rfl
theorem okD_pair {α β : Type} [Py α] [DecidableEq α] [PyD α] [Py β] [DecidableEq β] [PyD β] (p : α × β) : okD p = (okD p.1 && okD p.2) := by
  unfold okD
  show ((PyD.d p.1).canLay0 && ((PyD.d p.2).canLay0 && true)) = _
  rw [Bool.and_true]
@[simp] theorem okD_none {α : Type} [Py α] [DecidableEq α] [PyD α] [PyN α] : okD (none : Option α) = true := by simp [okD, PyD.d, PyData.canLay0]
@[simp] theorem okD_some {α : Type} [Py α] [DecidableEq α] [PyD α] [PyN α] (a : α) : okD (some a) = okD a := rfl
/-! ### isinstance of a built-in class -/
inductive Pt (K : Fr) (H : Hp) : V → String → Prop where
  | of {v : V} {t : String} (h : TyX K H v (.type t)) : Pt K H v t
theorem Pt.int (i : Int) : Pt K H (.int i) "int" := .of (.base (.int i))
theorem Pt.bl (i : Bool) : Pt K H (.bl i) "bool" := .of (.base (.bl i))
theorem Pt.str (i : Str) : Pt K H (.str i) "str" := .of (.base (.str i))
theorem Pt.non (i : Unit) : Pt K H .non "NoneType" := .of (.base .non)
theorem Pt.own {α : Type} [Py α] {p : Addr} {l : List α} (o : Own K H0 Z H p l) : Pt K H (.ref p) "list" := let ⟨⟨_, h, _⟩, _, _⟩ := o; .of (.base (.lst h))
theorem Pt.list {α : Type} [Py α] {v : V} {l : List α} (zh : Same Z H) (h : Py.R K Z v l) : Pt K H v "list" := by
  obtain ⟨a, xs, rfl, hz, p⟩ := h
  exact .of (.base (.lst (zh _ _ hz)))
theorem Pt.tuple {α β : Type} [Py α] [Py β] {v : V} {l : α × β} (zh : Same Z H) (h : Py.R K Z v l) : Pt K H v "tuple" := by
  obtain ⟨a, x, y, rfl, hz, p⟩ := h
  exact .of (.base (.tup (zh _ _ hz)))
theorem k_isi {v : V} {t c : String} {b : Bool} (h : Pt K H v t) (hk : kitB t c = some b) (k : Q (.bl b) H) : rIsi K [v, .ty c] H Q := by
  obtain ⟨h⟩ := h
  exact ⟨v, .ty c, .type t, .type c, b, rfl, .ty c, h, kit_ty hk, k⟩
/-! ### relations by name -/
def rLenQ (K : Fr) : List V → Hp → VK → Prop := fun xs H Q => ∃ p ys, xs = [V.ref p] ∧ (SqL K H p ys ∨ SqT K H p ys) ∧ Q (.int ys.length) H
def rListQ (K : Fr) : List V → Hp → VK → Prop := fun xs H Q => ∃ p ys, xs = [V.ref p] ∧ (SqL K H p ys ∨ SqT K H p ys) ∧ ∀ l, H l = none → Q (.ref l) (upd H l (.lst ys))
def rIntQ : List V → Hp → VK → Prop := fun xs H Q => ∃ a n, xs = [V.str a] ∧ PySem.intText? a = some n ∧ a.length ≤ 640 ∧ Q (.int n) H
def rJoinQ (K : Fr) : V → List V → Hp → VK → Prop := fun x xs H Q => ∃ a p, ∃ ys : List Str, x = .str a ∧ xs = [.ref p] ∧ (SqL K H p (ys.map V.str) ∨ SqT K H p (ys.map V.str)) ∧ (ys.map (·.length)).sum + ys.length * a.length ≤ 16777216 ∧ Q (.str (Txt.join a ys)) H
def rLstQ : List V → Hp → VK → Prop := fun xs H Q => xs.length ≤ sizeLine ∧ ∀ p, H p = none → Q (.ref p) (upd H p (.lst xs))
def rTupQ : List V → Hp → VK → Prop := fun xs H Q => xs.length ≤ sizeLine ∧ ∀ p, H p = none → Q (.ref p) (upd H p (.tup xs))
def tLstQ (t : TA) : TE := fun σ H Q => t σ H fun xs H1 => rLstQ xs H1 Q
def tTupQ (t : TA) : TE := fun σ H Q => t σ H fun xs H1 => rTupQ xs H1 Q
section
variable {X : Cx} {es : List Expr} {t : TA} {pos : Pos}
theorem call_lenQ : CallR X (.builtin "len") (rLenQ X.K) := call_len_seq
theorem call_listQ : CallR X (.type "list") (rListQ X.K) := call_list_of
theorem mt_joinQ : MtR X "str.join" (rJoinQ X.K) := mt_join
theorem pe_lstQ (h : PA X es t) : PE X (.List es pos) (tLstQ t) := pe_lst h
theorem pe_tupQ {x1} (h : PA X es t) : PE X (.Tuple es x1 pos) (tTupQ t) := pe_tup h
end
theorem k_lenQ {α : Type} [Py α] {v : V} {l : List α} (zh : Same Z H) (h : Py.R K Z v l) (k : Q (.int (l.length : Int)) H) : rLenQ K [v] H Q := k_len zh h k
theorem k_lenOQ {α : Type} [Py α] {p : Addr} {l : List α} (o : Own K H0 Z H p l) (k : Q (.int (l.length : Int)) H) : rLenQ K [.ref p] H Q := k_lenO o k
theorem k_lenRQ {v : V} {l : Scr} (zh : Same Z H) (h : Py.R K Z v l) (k : Q (.int (l.ns.length : Int)) H) : rLenQ K [v] H Q := k_lenR zh h k
theorem k_listQ {α : Type} [Py α] {v : V} {l : List α} (zh : Same Z H) (h : Py.R K Z v l) (k : New K Z H Q l) : rListQ K [v] H Q := k_listL zh h k
theorem k_lst {α : Type} [Py α] {xs : List V} {m : List α} (zh : Same Z H) (pr : Paired (Py.R K Z) xs m) (hs : xs.length ≤ sizeLine) (k : New K Z H Q m) : rLstQ xs H Q := k_list zh pr hs k
theorem k_tup {α β : Type} [Py α] [Py β] {x y : V} {a : α} {b : β} (zh : Same Z H) (hx : Py.R K Z x a) (hy : Py.R K Z y b) (k : Tel K Z H Q (a, b)) : rTupQ [x, y] H Q := k_pair zh hx hy k
/-! ### more operations -/
def min2 (i j : Int) : Int := if j < i then j else i
def max2 (i j : Int) : Int := if j > i then j else i
def intS (s : Str) : Int := (PySem.intText? s).getD 0
def toStr (i : Int) : Str := (toString i : String)
theorem k_join {v : V} {a : Str} {l : List Str} (zh : Same Z H) (h : Py.R K Z v l) (hs : (l.map (·.length)).sum + l.length * a.length ≤ 16777216) (k : Q (.str (Txt.join a l)) H) : rJoinQ K (.str a) [v] H Q := by
  obtain ⟨p, xs, rfl, hz, pr⟩ := h
  obtain rfl := paired_emb pr
  exact ⟨a, p, l, rfl, rfl, .inl (SqL.of (zh _ _ hz)), hs, k⟩
def insI {α : Type} (l : List α) (i : Int) (a : α) : List α := l.take i.toNat ++ [a] ++ l.drop i.toNat
end
/-! ### loops by their kinds -/
section
variable {K : Fr} {J : It} {tb : TS} {D : Ends} {σ : St} {H Z : Hp}
end
end Cd

set_option Elab.async false
set_option linter.all false
set_option maxRecDepth 100000
set_option maxHeartbeats 4000000
/-! ## Plain facts of texts, lists and loops -/
namespace Cd
open PySem L2
def codes (s : Str) : List Nat := s.cps.toList
def sg (c : Nat) : Str := ⟨#[c]⟩
def mk (l : List Nat) : Str := ⟨l.toArray⟩
theorem codes_mk (l : List Nat) : codes (mk l) = l := by simp [codes, mk]
theorem mk_codes (s : Str) : mk (codes s) = s := by simp [codes, mk]
theorem codes_inj {a b : Str} (h : codes a = codes b) : a = b := by rw [← mk_codes a, h, mk_codes]
theorem len_codes (s : Str) : s.length = (codes s).length := by simp [codes, Str.length]
theorem codes_app (a b : Str) : codes (a ++ b) = codes a ++ codes b := by
  show ((a.cps ++ b.cps).toList) = _
  simp [codes]
theorem len_app (a b : Str) : (a ++ b).length = a.length + b.length := Str.length_append a b
theorem len_chS (z : Str) (i : Int) : (chS z i).length = 1 := rfl
/-! ### places -/
theorem atI_nat {α : Type} {l : List α} {i : Int} (h0 : 0 ≤ i) (h1 : i < l.length) : atI l i = l[i.toNat]? := by
  unfold atI ixN
  rw [if_pos h0, if_pos h1]
  rfl
theorem getI_nat {α : Type} [Inhabited α] {l : List α} {i : Int} (h0 : 0 ≤ i) (h1 : i < l.length) : getI l i = l[i.toNat]'(by omega) := by
  unfold getI
  rw [atI_nat h0 h1, List.getElem?_eq_getElem (by omega)]
  rfl
theorem getI_mem {α : Type} [Inhabited α] {l : List α} {i : Int} (h : inR l.length i) : getI l i ∈ l := by
  have e := atI_get h
  unfold atI at e
  obtain ⟨j, hj, hl⟩ := ixN_some h
  rw [hj] at e
  exact List.mem_of_getElem? e
theorem chS_nat {z : Str} {i : Int} (h0 : 0 ≤ i) (h1 : i < (z.length : Int)) : chS z i = sg ((codes z)[i.toNat]'(by rw [← len_codes]; omega)) := by
  have h2 : i < ((codes z).length : Int) := by rw [← len_codes]; exact h1
  unfold chS sg
  rw [show z.cps.toList = codes z from rfl, atI_nat h0 h2, List.getElem?_eq_getElem (by omega)]
  rfl
theorem chS_mem {z : Str} {i : Int} (h0 : 0 ≤ i) (h1 : i < (z.length : Int)) : ∃ c ∈ codes z, chS z i = sg c := ⟨_, List.getElem_mem _, chS_nat h0 h1⟩
theorem chars_codes (z : Str) : chars z = (codes z).map sg := rfl
/-! ### pieces -/
theorem sIx_some {n d : Nat} {i : Int} (h : 0 ≤ i) : HT.sIx n d (some i) = min i.toNat n := by
  obtain ⟨k, rfl⟩ := Int.eq_ofNat_of_zero_le h
  rw [HT.sIx_nat]
  rfl
theorem codes_cut (z : Str) (lo hi : Option Int) : codes (cutS z lo hi) = cutL (codes z) lo hi := by
  unfold cutS cutL codes
  simp [Str.length]
theorem cutL_from {α : Type} {l : List α} {i : Int} (hi : 0 ≤ i) : cutL l (some i) none = l.drop i.toNat := by
  unfold cutL
  rw [sIx_some hi, HT.sIx_none]
  by_cases h1 : i.toNat ≤ l.length
  · rw [Nat.min_eq_left h1, List.take_of_length_le (by rw [List.length_drop]; exact Nat.le_refl _)]
  · rw [Nat.min_eq_right (by omega), List.drop_length, List.drop_eq_nil_of_le (by omega)]
    simp
theorem cutL_to {α : Type} {l : List α} {j : Int} (hj : 0 ≤ j) : cutL l none (some j) = l.take j.toNat := by
  unfold cutL
  rw [sIx_some hj, HT.sIx_none]
  show (l.drop 0).take (min j.toNat l.length - 0) = _
  rw [List.drop_zero, Nat.sub_zero]
  by_cases h1 : j.toNat ≤ l.length
  · rw [Nat.min_eq_left h1]
  · rw [Nat.min_eq_right (by omega), List.take_length, List.take_of_length_le (by omega)]
theorem cutL_len_le {α : Type} (l : List α) (lo hi : Option Int) : (cutL l lo hi).length ≤ l.length := by
  unfold cutL
  rw [List.length_take, List.length_drop]
  omega
theorem len_cut_le (z : Str) (lo hi : Option Int) : (cutS z lo hi).length ≤ z.length := by
  rw [len_codes, codes_cut, len_codes]
  exact cutL_len_le _ _ _
/-! ### one sign in a text -/
theorem inS_sg (c : Nat) (z : Str) : inS (sg c) z = decide (c ∈ codes z) := PySem.StrLaws.found_one z c
theorem idxOf_first {c : Nat} : ∀ {l : List Nat} {i : Nat}, l[i]? = some c → (∀ k, k < i → ¬ l[k]? = some c) → l.idxOf c = i
  | [], _, h, _ => by simp at h
  | a :: r, 0, h, _ => by
    have e : a = c := by simpa using h
    subst e
    exact List.idxOf_cons_self
  | a :: r, i + 1, h, hn => by
    have h0 : ¬ a = c := fun e => hn 0 (Nat.succ_pos i) (by simp [e])
    rw [List.idxOf_cons, show (a == c) = false by simpa using h0]
    show r.idxOf c + 1 = i + 1
    rw [idxOf_first (l := r) (i := i) (by simpa using h) fun k hk => by simpa using hn (k + 1) (Nat.succ_lt_succ hk)]
theorem find_sg (z : Str) (c : Nat) : Txt.find z (sg c) = if c ∈ codes z then (((codes z).idxOf c : Nat) : Int) else -1 := by
  have key : ∀ i, PySem.StrLaws.At z (sg c) z.length i ↔ (codes z)[i]? = some c := fun i => PySem.StrLaws.subAt_one z c i
  unfold Txt.find
  rcases PySem.StrLaws.occ_head z (sg c) 1 (Nat.le_refl 1) with ⟨h0, hn⟩ | ⟨i, r, h0, hi, hn⟩
  · rw [h0, if_neg]
    intro hm
    obtain ⟨k, hk⟩ := List.getElem?_of_mem hm
    exact hn k ((key k).mpr hk)
  · rw [h0]
    have hi2 := (key i).mp hi
    rw [if_pos (List.mem_of_getElem? hi2)]
    have hlt := (List.getElem?_eq_some_iff.mp hi2).1
    rw [idxOf_first hi2 fun k hk z => hn k hk ((key k).mpr z)]
/-! ### loops -/
theorem rangeL_succ (lo : Int) (n : Nat) : rangeL lo (n + 1) = lo :: rangeL (lo + 1) n := by
  unfold rangeL
  rw [List.range_succ_eq_map, List.map_cons, List.map_map]
  congr 1
  · omega
  · apply List.map_congr_left
    intro i _
    show lo + ((i + 1 : Nat) : Int) = lo + 1 + (i : Int)
    omega
theorem enumL_cons {α : Type} (k : Int) (a : α) (r : List α) : enumL k (a :: r) = (k, a) :: enumL (k + 1) r := by
  unfold enumL
  rw [List.length_cons, rangeL_succ]
  rfl
end Cd

set_option Elab.async false
set_option linter.all false
set_option maxRecDepth 100000
set_option maxHeartbeats 4000000
/-! ## Comprehensions by their kinds, more operations -/
namespace Cd
open PySem L2 PyProof.Rows
def lcRest (J : It) (g : TG) (tt : TT) (te : TE) (vs : List Nat) (Q : VK) (σ : L2.St) (H1 : Hp) : Prop := ∀ D, H1 D = none → ∃ W : Nat → Nat → Hp → Prop, (∃ m, W 0 m (upd H1 D (.lst []))) ∧ ∀ i m H, W i m H →
  (J.stop i H ∧ Q (.ref D) H) ∨ (J.go i H ∧ ∃ Nx : Hp → Prop, (∀ H', Nx H' → ∃ m', m' < m ∧ W (i + 1) m' H') ∧ ∀ x H', J.yld i H x H' → g x (wipe σ vs) H' fun σ2 H2 => wipe σ2 vs = wipe σ vs ∧ tt σ2 H2 fun b H3 =>
    if b = true then te σ2 H3 fun y H4 => ∃ acc, H4 D = some (.lst acc) ∧ acc.length < sizeLine ∧ Nx (upd H4 D (.lst (acc ++ [y]))) else Nx H3)
def tLcQ (wi : TI) (g : TG) (tt : TT) (te : TE) (vs : List Nat) : TE := fun σ H Q => wi σ H fun J H1 => lcRest J g tt te vs Q σ H1
section
variable {X : Cx}
theorem pe_lcQ {elt tg iter : Expr} {ifs : List Expr} {scope : Scope} {own : List (Str × Nat)} {pos : Pos} {wi : TI} {g : TG} {tt : TT} {te : TE} (hc : X.calm = true) (hN : X.N.Nodup) (hi : PI X tg iter wi) (ok : BlkOk X.N X.env.scope scope own)
    (hg : ∀ (s : Shared) (H : Hp) (C : Addr) (cl : List (Str × Addr)) (fp : List Addr), PG (X.blk s H scope (compEnvC scope cl C X.env) fp) tg g) (ht : ∀ (s : Shared) (H : Hp) (C : Addr) (cl : List (Str × Addr)) (fp : List Addr), PTs (X.blk s H scope (compEnvC scope cl C X.env) fp) ifs tt)
    (he : ∀ (s : Shared) (H : Hp) (C : Addr) (cl : List (Str × Addr)) (fp : List Addr), PE (X.blk s H scope (compEnvC scope cl C X.env) fp) elt te) (hs : ∀ x, foldedSetIterable iter X.env x = pure x := by intro _; rfl) :
    PE X (.ListComp elt [⟨tg, iter, ifs, 0⟩] scope pos) (tLcQ wi g tt te (own.map (·.2))) := pe_lc hc hN hi ok hg ht he hs
theorem ps_setLcQ {i : Nat} {y : Str} {py : Pos} {elt tg iter : Expr} {ifs : List Expr} {scope : Scope} {own : List (Str × Nat)} {pos spos : Pos} {wi : TI} {g : TG} {tt : TT} {te : TE} (hc : X.calm = true) (hN : X.N.Nodup) (hy : X.N[i]? = some y) (hyl : X.env.scope.names.lookup y = some .local)
    (hsw : swapsWith (.ListComp elt [⟨tg, iter, ifs, 0⟩] scope pos) (some (.Name y py)) spos.line X.env = pure true) (hi : PI X tg iter wi) (ok : BlkOk X.N X.env.scope scope own)
    (hg : ∀ (s : Shared) (H : Hp) (C : Addr) (cl : List (Str × Addr)) (fp : List Addr), PG (X.blk s H scope (compEnvC scope cl C X.env) fp) tg g) (ht : ∀ (s : Shared) (H : Hp) (C : Addr) (cl : List (Str × Addr)) (fp : List Addr), PTs (X.blk s H scope (compEnvC scope cl C X.env) fp) ifs tt)
    (he : ∀ (s : Shared) (H : Hp) (C : Addr) (cl : List (Str × Addr)) (fp : List Addr), PE (X.blk s H scope (compEnvC scope cl C X.env) fp) elt te) (hs : ∀ x, foldedSetIterable iter X.env x = pure x := by intro _; rfl) :
    PS X (.Assign [.Name y py] (.ListComp elt [⟨tg, iter, ifs, 0⟩] scope pos) spos) (tAsg (tLcQ wi g tt te (own.map (·.2))) (gName i)) := ps_setLc hc hN hy hyl hsw hi ok hg ht he hs
end
section
variable {K : Fr} {J : It} {tt : TT} {te : TE} {σ : L2.St} {H Z : Hp} {vs : List Nat} {Q : VK}
theorem New.all {γ β : Type} [Py β] {L : List γ} {f : γ → β} (k : New K Z H Q (L.map f)) : New K Z H Q ((L.filter fun _ => true).map f) := by
  rw [show (L.filter fun _ => true) = L from List.filter_eq_self.mpr fun _ _ => rfl]
  exact k
end
section
variable {K : Fr} {Z H Z0 H0 : Hp} {Q : VK}
theorem join_ok {l : List Str} {a : Str} {n : Nat} (h : ∀ x ∈ l, x.length ≤ n) (h2 : l.length * n + l.length * a.length ≤ 16777216) : (l.map (·.length)).sum + l.length * a.length ≤ 16777216 := by
  have := PySem.StrLaws.sumLen_le l h
  omega
theorem yesK {te : TE} {σ : L2.St} {H : Hp} {C : VK} {N : Hp → Prop} (h : te σ H C) : tYes σ H fun b H4 => if b = true then te σ H4 C else N H4 := by
  show (if true = true then te σ H C else N H)
  rw [if_pos rfl]
  exact h
theorem setI_nat {α : Type} {l : List α} {i : Int} {a : α} (h0 : 0 ≤ i) (h1 : i < l.length) : setI l i a = l.set i.toNat a := by
  unfold setI ixN
  rw [if_pos h0, if_pos h1]
/-! ### join -/
theorem join_nil : ∀ l : List Str, codes (Txt.join "" l) = (l.map codes).flatten := by
  have e : codes "" = [] := by decide +kernel
  have key : ∀ l : List Str, codes (Str.join "" l) = (l.map codes).flatten := by
    intro l
    induction l with
    | nil => rfl
    | cons x r ih =>
      cases r with
      | nil => simp [Str.join]
      | cons y r =>
        show codes (x ++ "" ++ Str.join "" (y :: r)) = _
        rw [codes_app, codes_app, ih, e, List.append_nil]
        simp
  intro l
  rw [show Txt.join "" l = Str.join "" l from PySem.StrLaws.glued_eq_join "" l]
  exact key l
theorem join_sg (l : List Nat) : Txt.join "" (l.map sg) = mk l := by
  apply codes_inj
  rw [join_nil, codes_mk, List.map_map]
  induction l with
  | nil => rfl
  | cons c r ih => rw [List.map_cons, List.flatten_cons, ih]; rfl
/-! ### xs[::-1] -/
def rRevQ (K : Fr) : V → Hp → VK → Prop := fun x H Q => ∃ a xs, x = .ref a ∧ SqL K H a xs ∧ ∀ p, H p = none → Q (.ref p) (upd H p (.lst xs.reverse))
def tRevQ (K : Fr) (te : TE) : TE := fun σ H Q => te σ H fun x H1 => rRevQ K x H1 Q
/-! ### divmod -/
def rDmQ : List V → Hp → VK → Prop := fun xs H Q => ∃ i j, xs = [.int i, .int j] ∧ CDiv i j ∧ ∀ p, H p = none → Q (.ref p) (upd H p (.tup [.int (i / j), .int (i % j)]))
/-! ### str(n) -/
def rStrQ : List V → Hp → VK → Prop := fun xs H Q => ∃ i, xs = [V.int i] ∧ i.natAbs.log2 < 1920 ∧ Q (.str (toStr i)) H
/-! ### great numbers -/
/-! ### [x] * n -/
def repL {α : Type} (l : List α) (n : Int) : List α := (List.replicate n.toNat l).flatten
/-! ### insert, pop, l[i] += x -/
end
/-! ### while -/
/-- the mirror's while: n bounds the turns -/
def whileS {S : Type} (c : S → Bool) (f : S → S) : Nat → S → S
  | 0, s => s
  | n + 1, s => if c s = true then whileS c f n (f s) else s
def whRest (c : TT) (tb : TS) (D : Ends) (σ : L2.St) (H : Hp) : Prop := ∃ W : Nat → L2.St → Hp → Prop, (∃ m, W m σ H) ∧ ∀ m σ H, W m σ H →
  c σ H fun b H1 => if b = true then ∃ N : L2.St → Hp → Prop, (∀ σ' H', N σ' H' → ∃ m', m' < m ∧ W m' σ' H') ∧ tb { D with nx := N, ct := N, bk := D.nx } σ H1 else D.nx σ H1
end Cd
namespace Cd
open PySem L2 PyProof.Rows
section
variable {K : Fr} {J : It} {tb : TS} {D : Ends} {σ : L2.St} {H Z : Hp}
end
section
variable {K : Fr} {J : It} {tt : TT} {te : TE} {σ : L2.St} {H Z : Hp} {vs : List Nat} {Q : VK}
end
end Cd
namespace Cd
open PySem L2
end Cd

set_option Elab.async false
set_option linter.all false
set_option maxRecDepth 100000
set_option maxHeartbeats 4000000
namespace Cd
open PySem L2 PyProof.Rows
/-! ### times -/
theorem op_mulC {X : Cx} : OpR X (binaryOp .Mult) (rI IntMulOk fun i j => .int (i * j)) := opI fun _ _ _ _ _ _ _ hc q => mul_int q hc
theorem mulL {i j : Int} (h : -(2 ^ 64) < i ∧ i < 2 ^ 64) : IntMulOk i j := CMul.ok (.inl h)
theorem mulR {i j : Int} (h : -(2 ^ 64) < j ∧ j < 2 ^ 64) : IntMulOk i j := CMul.ok (.inr h)
/-- a text times a number -/
def rMulS : R2 := fun x y H Q => ∃ (a : Str) (n : Int), x = .str a ∧ y = .int n ∧ -(2 ^ 31) ≤ n ∧ n < 2 ^ 31 ∧ a.length * n.toNat ≤ 16777216 ∧ Q (.str (Txt.mul a n)) H
/-! ### int(true) -/
def b2i (b : Bool) : Int := if b then 1 else 0
def rIntB : List V → Hp → VK → Prop := fun xs H Q => ∃ k, xs = [.bl k] ∧ Q (.int (b2i k)) H
theorem call_intB {X : Cx} : CallR X (.type "int") rIntB := by
  intro pins s σ H xs us Q I r h
  obtain ⟨k, e, q⟩ := h
  exact call_int1 pins s σ H xs us Q I r (.inr ⟨k, e, q⟩)
section
variable {K : Fr} {Z H Z0 H0 : Hp} {Q : VK}
/-! ### pop -/
def delI {α : Type} (l : List α) (i : Int) : List α := match ixN l.length i with | some j => l.eraseIdx j | none => l
end
end Cd
namespace PySem
open L2 Cd
end PySem
namespace Cd
open PySem L2 PyProof.Rows
section
variable {K : Fr} {Z H Z0 H0 : Hp} {Q : VK}
end
/-! ### tuples of three and four -/
structure T3 (α β γ : Type) where
  x1 : α
  x2 : β
  x3 : γ
deriving DecidableEq, Inhabited
structure T4 (α β γ δ : Type) where
  x1 : α
  x2 : β
  x3 : γ
  x4 : δ
deriving DecidableEq, Inhabited
instance {α β γ : Type} [Py α] [Py β] [Py γ] : Py (T3 α β γ) where
  R K Z v p := ∃ a x y z, v = .ref a ∧ Z a = some (.tup [x, y, z]) ∧ Py.R K Z x p.x1 ∧ Py.R K Z y p.x2 ∧ Py.R K Z z p.x3
  mono := fun {K Z Z' v l} s h => by
    obtain ⟨a, x, y, z, e, hz, p, q, r⟩ := h
    exact ⟨a, x, y, z, e, s _ _ hz, Py.mono s p, Py.mono s q, Py.mono s r⟩
instance {α β γ δ : Type} [Py α] [Py β] [Py γ] [Py δ] : Py (T4 α β γ δ) where
  R K Z v p := ∃ a x y z w, v = .ref a ∧ Z a = some (.tup [x, y, z, w]) ∧ Py.R K Z x p.x1 ∧ Py.R K Z y p.x2 ∧ Py.R K Z z p.x3 ∧ Py.R K Z w p.x4
  mono := fun {K Z Z' v l} s h => by
    obtain ⟨a, x, y, z, w, e, hz, p, q, r, t⟩ := h
    exact ⟨a, x, y, z, w, e, s _ _ hz, Py.mono s p, Py.mono s q, Py.mono s r, Py.mono s t⟩
/-- a pick or a deal: the third item may be lacking -/
structure TO (α β γ : Type) where
  x1 : α
  x2 : β
  x3 : Option γ
deriving DecidableEq, Inhabited
instance {α β γ : Type} [Py α] [Py β] [Py γ] : Py (TO α β γ) where
  R K Z v p := ∃ a x y, v = .ref a ∧ Py.R K Z x p.x1 ∧ Py.R K Z y p.x2 ∧ match p.x3 with
    | none => Z a = some (.tup [x, y])
    | some c => ∃ z, Z a = some (.tup [x, y, z]) ∧ Py.R K Z z c
  mono := fun {K Z Z' v l} s h => by
    obtain ⟨x1, x2, x3⟩ := l
    obtain ⟨a, x, y, e, p, q, r⟩ := h
    refine ⟨a, x, y, e, Py.mono s p, Py.mono s q, ?_⟩
    cases x3 with
    | none => exact s _ _ r
    | some c =>
      obtain ⟨z, hz, h⟩ := r
      exact ⟨z, s _ _ hz, Py.mono s h⟩
section
variable {K : Fr} {Z H Z0 H0 : Hp} {Q : VK} {α β γ δ : Type} [Py α] [Py β] [Py γ] [Py δ]
theorem k_t41 {v : V} {p : T4 α β γ δ} (zh : Same Z H) (h : Py.R K Z v p) (k : ∀ y, Py.R K Z y p.x1 → Q y H) : rIxT K v (.int 0) H Q := by
  obtain ⟨a, x, y, z, w, rfl, hz, h1, h2, h3, h4⟩ := h
  exact ⟨a, [x, y, z, w], 0, x, rfl, rfl, SqT.of (zh _ _ hz), rfl, k x h1⟩
theorem k_t42 {v : V} {p : T4 α β γ δ} (zh : Same Z H) (h : Py.R K Z v p) (k : ∀ y, Py.R K Z y p.x2 → Q y H) : rIxT K v (.int 1) H Q := by
  obtain ⟨a, x, y, z, w, rfl, hz, h1, h2, h3, h4⟩ := h
  exact ⟨a, [x, y, z, w], 1, y, rfl, rfl, SqT.of (zh _ _ hz), rfl, k y h2⟩
theorem k_t44 {v : V} {p : T4 α β γ δ} (zh : Same Z H) (h : Py.R K Z v p) (k : ∀ y, Py.R K Z y p.x4 → Q y H) : rIxT K v (.int 3) H Q := by
  obtain ⟨a, x, y, z, w, rfl, hz, h1, h2, h3, h4⟩ := h
  exact ⟨a, [x, y, z, w], 3, w, rfl, rfl, SqT.of (zh _ _ hz), rfl, k w h4⟩
theorem k_tup4 {x y z w : V} {a : α} {b : β} {c : γ} {d : δ} (zh : Same Z H) (hx : Py.R K Z x a) (hy : Py.R K Z y b) (hz : Py.R K Z z c) (hw : Py.R K Z w d) (k : Tel K Z H Q (⟨a, b, c, d⟩ : T4 α β γ δ)) : rTupQ [x, y, z, w] H Q := by
  refine ⟨by show 4 ≤ sizeLine; decide, fun p hp => ?_⟩
  have st := Step.new (o := .tup [x, y, z, w]) zh hp
  exact k _ _ _ st ⟨p, x, y, z, w, rfl, upd_same, Py.mono st.zz hx, Py.mono st.zz hy, Py.mono st.zz hz, Py.mono st.zz hw⟩
end
/-! ### data equality of these -/
theorem Pt.t3 {K : Fr} {Z H : Hp} {α β γ : Type} [Py α] [Py β] [Py γ] {v : V} {l : T3 α β γ} (zh : Same Z H) (h : Py.R K Z v l) : Pt K H v "tuple" := by
  obtain ⟨a, x, y, z, rfl, hz, p⟩ := h
  exact .of (.base (.tup (zh _ _ hz)))
theorem Pt.t4 {K : Fr} {Z H : Hp} {α β γ δ : Type} [Py α] [Py β] [Py γ] [Py δ] {v : V} {l : T4 α β γ δ} (zh : Same Z H) (h : Py.R K Z v l) : Pt K H v "tuple" := by
  obtain ⟨a, x, y, z, w, rfl, hz, p⟩ := h
  exact .of (.base (.tup (zh _ _ hz)))
section
variable {α β γ δ : Type} [Py α] [DecidableEq α] [PyD α] [Py β] [DecidableEq β] [PyD β] [Py γ] [DecidableEq γ] [PyD γ] [Py δ] [DecidableEq δ] [PyD δ]
theorem andD {a b : Prop} [Decidable a] [Decidable b] : (decide a && decide b) = decide (a ∧ b) := by simp
instance : PyD (T3 α β γ) where
  d p := .tuple [PyD.d p.x1, PyD.d p.x2, PyD.d p.x3]
  dp := fun zh h => by
    obtain ⟨a, x, y, z, rfl, hz, hx, hy, hw⟩ := h
    exact .tup (SqT.of (zh _ _ hz)) (.cons (PyD.dp zh hx) (.cons (PyD.dp zh hy) (.cons (PyD.dp zh hw) .nil)))
  eqv := fun p q => by
    show (PyData.eqv (PyD.d p.x1) (PyD.d q.x1) && (PyData.eqv (PyD.d p.x2) (PyD.d q.x2) && (PyData.eqv (PyD.d p.x3) (PyD.d q.x3) && PyData.eqvAll [] []))) = _
    rw [PyD.eqv, PyD.eqv, PyD.eqv, show PyData.eqvAll [] [] = true by simp [PyData.eqvAll], Bool.and_true, andD, andD]
    obtain ⟨a, b, c⟩ := p
    obtain ⟨a', b', c'⟩ := q
    simp
  dep := max (PyD.dep α) (max (PyD.dep β) (PyD.dep γ)) + 1
  depth := fun p => by
    show max (PyD.d p.x1).depth (max (PyD.d p.x2).depth (max (PyD.d p.x3).depth 0)) + 1 ≤ _
    have h1 := PyD.depth p.x1
    have h2 := PyD.depth p.x2
    have h3 := PyD.depth p.x3
    omega
instance : PyD (T4 α β γ δ) where
  d p := .tuple [PyD.d p.x1, PyD.d p.x2, PyD.d p.x3, PyD.d p.x4]
  dp := fun zh h => by
    obtain ⟨a, x, y, z, w, rfl, hz, hx, hy, hw, hv⟩ := h
    exact .tup (SqT.of (zh _ _ hz)) (.cons (PyD.dp zh hx) (.cons (PyD.dp zh hy) (.cons (PyD.dp zh hw) (.cons (PyD.dp zh hv) .nil))))
  eqv := fun p q => by
    show (PyData.eqv (PyD.d p.x1) (PyD.d q.x1) && (PyData.eqv (PyD.d p.x2) (PyD.d q.x2) && (PyData.eqv (PyD.d p.x3) (PyD.d q.x3) && (PyData.eqv (PyD.d p.x4) (PyD.d q.x4) && PyData.eqvAll [] [])))) = _
    rw [PyD.eqv, PyD.eqv, PyD.eqv, PyD.eqv, show PyData.eqvAll [] [] = true by simp [PyData.eqvAll], Bool.and_true, andD, andD, andD]
    obtain ⟨a, b, c⟩ := p
    obtain ⟨a', b', c'⟩ := q
    simp
  dep := max (PyD.dep α) (max (PyD.dep β) (max (PyD.dep γ) (PyD.dep δ))) + 1
  depth := fun p => by
    show max (PyD.d p.x1).depth (max (PyD.d p.x2).depth (max (PyD.d p.x3).depth (max (PyD.d p.x4).depth 0))) + 1 ≤ _
    have h1 := PyD.depth p.x1
    have h2 := PyD.depth p.x2
    have h3 := PyD.depth p.x3
    have h4 := PyD.depth p.x4
    omega
instance : PyD (TO α β γ) where
  d p := .tuple (PyD.d p.x1 :: PyD.d p.x2 :: (match p.x3 with | none => [] | some c => [PyD.d c]))
  dp := fun {K Z H v p} zh h => by
    obtain ⟨x1, x2, x3⟩ := p
    obtain ⟨a, x, y, rfl, hx, hy, h3⟩ := h
    cases x3 with
    | none => exact .tup (SqT.of (zh _ _ h3)) (.cons (PyD.dp zh hx) (.cons (PyD.dp zh hy) .nil))
    | some c =>
      obtain ⟨z, hz, hw⟩ := h3
      exact .tup (SqT.of (zh _ _ hz)) (.cons (PyD.dp zh hx) (.cons (PyD.dp zh hy) (.cons (PyD.dp zh hw) .nil)))
  eqv := fun p q => by
    obtain ⟨a, b, c⟩ := p
    obtain ⟨a', b', c'⟩ := q
    cases c with
    | none => cases c' with
      | none =>
        show (PyData.eqv (PyD.d a) (PyD.d a') && (PyData.eqv (PyD.d b) (PyD.d b') && PyData.eqvAll [] [])) = _
        rw [PyD.eqv, PyD.eqv, show PyData.eqvAll [] [] = true by simp [PyData.eqvAll], Bool.and_true, andD]
        simp
      | some c' =>
        show (PyData.eqv (PyD.d a) (PyD.d a') && (PyData.eqv (PyD.d b) (PyD.d b') && PyData.eqvAll [] [PyD.d c'])) = _
        simp [PyData.eqvAll]
    | some c => cases c' with
      | none =>
        show (PyData.eqv (PyD.d a) (PyD.d a') && (PyData.eqv (PyD.d b) (PyD.d b') && PyData.eqvAll [PyD.d c] [])) = _
        simp [PyData.eqvAll]
      | some c' =>
        show (PyData.eqv (PyD.d a) (PyD.d a') && (PyData.eqv (PyD.d b) (PyD.d b') && (PyData.eqv (PyD.d c) (PyD.d c') && PyData.eqvAll [] []))) = _
        rw [PyD.eqv, PyD.eqv, PyD.eqv, show PyData.eqvAll [] [] = true by simp [PyData.eqvAll], Bool.and_true, andD, andD]
        simp
  dep := max (PyD.dep α) (max (PyD.dep β) (PyD.dep γ)) + 1
  depth := fun p => by
    obtain ⟨a, b, c⟩ := p
    have h1 := PyD.depth a
    have h2 := PyD.depth b
    cases c with
    | none =>
      show max (PyD.d a).depth (max (PyD.d b).depth 0) + 1 ≤ _
      omega
    | some c =>
      have h3 := PyD.depth c
      show max (PyD.d a).depth (max (PyD.d b).depth (max (PyD.d c).depth 0)) + 1 ≤ _
      omega
instance : PyN (T3 α β γ) := ⟨fun _ => by simp [PyD.d, PyData.eqv], fun _ => by simp [PyD.d, PyData.eqv]⟩
instance : PyN (T4 α β γ δ) := ⟨fun _ => by simp [PyD.d, PyData.eqv], fun _ => by simp [PyD.d, PyData.eqv]⟩
instance : PyN (TO α β γ) := ⟨fun _ => by simp [PyD.d, PyData.eqv], fun _ => by simp [PyD.d, PyData.eqv]⟩
theorem okD_t4 (p : T4 α β γ δ) : okD p = (okD p.x1 && (okD p.x2 && (okD p.x3 && okD p.x4))) := by
  unfold okD
  show ((PyD.d p.x1).canLay0 && ((PyD.d p.x2).canLay0 && ((PyD.d p.x3).canLay0 && ((PyD.d p.x4).canLay0 && true)))) = _
  rw [Bool.and_true]
end
section
variable {K : Fr} {Z H : Hp} {α β γ δ : Type} [Py α] [Py β] [Py γ] [Py δ]
theorem tgt4 {v : V} {p : T4 α β γ δ} {i j l m : Nat} {σ : L2.St} {R : L2.St → Hp → Prop} (zh : Same Z H) (h : Py.R K Z v p) (k : ∀ a, a = p.x1 → ∀ b, b = p.x2 → ∀ c, c = p.x3 → ∀ d, d = p.x4 → ∀ x y z w, Py.R K Z x a → Py.R K Z y b → Py.R K Z z c → Py.R K Z w d → R ((((σ.set i (some x)).set j (some y)).set l (some z)).set m (some w)) H) :
    gTup K 4 (gCons (gName i) (gCons (gName j) (gCons (gName l) (gCons (gName m) gNil)))) v σ H R := by
  obtain ⟨a, x, y, z, w, rfl, hz, h1, h2, h3, h4⟩ := h
  exact ⟨a, [x, y, z, w], rfl, SqT.of (zh _ _ hz), rfl, x, [y, z, w], rfl, y, [z, w], rfl, z, [w], rfl, w, [], rfl, rfl, k _ rfl _ rfl _ rfl _ rfl x y z w h1 h2 h3 h4⟩
end
end Cd

set_option Elab.async false
set_option linter.all false
set_option maxRecDepth 100000
set_option maxHeartbeats 4000000
namespace Cd
open PySem L2 PyProof.Rows
/-! ### texts that may be laid -/
theorem ok_iff {z : Str} : okD z = true ↔ ∀ c ∈ codes z, c < 1114112 := by
  rw [okD_str]
  rw [Array.all_eq_true_iff_forall_mem]
  constructor
  · intro h c hc
    have := h c (by unfold codes at hc; simpa using hc)
    simpa using this
  · intro h c hc
    have := h c (by unfold codes; simpa using hc)
    simpa using this
theorem ok_list {α : Type} [Py α] [DecidableEq α] [PyD α] {l : List α} (h : ∀ x ∈ l, okD x = true) : okD l = true := by
  rw [okD_list]
  exact List.all_eq_true.mpr h
end Cd
namespace Cd
open PySem L2
/-! ### own lists lent to a call -/
class NoZ (α : Type) [Py α] : Prop where
  back : ∀ {K : Fr} {Z Z' : Hp} {v : V} {a : α}, Py.R K Z v a → Py.R K Z' v a
instance (priority := low) {α : Type} [Sc α] : NoZ α := ⟨fun h => h⟩
instance {α : Type} [Py α] [NoZ α] : NoZ (Option α) := ⟨fun {K Z Z' v a} h => by
  cases a with
  | none => exact h
  | some a => exact NoZ.back (α := α) (Z := Z) h⟩
section
variable {K : Fr} {Z H Zb Z2 H2 : Hp} {Q : VK}
theorem Step.bor (zh : Same Z H) (s : Same Z Zb) (st : Step Zb H Z2 H2) : Step Z H Z H2 := ⟨st.hh, Same.refl _, s.trans (st.zz.trans st.zh), fun _ _ _ => rfl⟩
theorem Tel.bor {α : Type} [Py α] [NoZ α] {m : α} (s : Same Z Zb) (zh : Same Zb H) (k : Tel K Z H Q m) : Tel K Zb H Q m := fun v Z' H' st h =>
  k v Z H' (Step.bor (s.trans zh) s st) (NoZ.back h)
theorem New.bor {α : Type} [Py α] [NoZ α] {m : List α} (s : Same Z Zb) (zh : Same Zb H) (k : New K Z H Q m) : New K Zb H Q m := fun p xs Z' H' st hp hl hz pr =>
  k p xs Z H' (Step.bor (s.trans zh) s st) hp hl ((s.trans zh).free hp) (Paired.pImp (fun _ _ r => NoZ.back r) pr)
end
end Cd
namespace Cd
open PySem L2
section
variable {K : Fr} {Z H : Hp} {Q : VK}
def rIsNQ : R2 := fun x y H Q => y = .non ∧ Q (.bl (decide (x = .non))) H
def rNotNQ : R2 := fun x y H Q => y = .non ∧ Q (.bl (!decide (x = .non))) H
theorem op_isNQ {X : Cx} : OpR X (compareOp .Is) rIsNQ := op_isN
theorem op_notNQ {X : Cx} : OpR X (compareOp .IsNot) rNotNQ := op_notN
end
end Cd
namespace Cd
open PySem L2
def rInsQ : V → List V → Hp → VK → Prop := fun x vs H Q => ∃ (l : Addr) (xs : List V) (i : Int) (y : V), x = .ref l ∧ vs = [.int i, y] ∧ H l = some (.lst xs) ∧ xs.length < sizeLine ∧ 0 ≤ i ∧ i < 2 ^ 63 ∧ Q .non (upd H l (.lst (xs.take i.toNat ++ [y] ++ xs.drop i.toNat)))
end Cd
namespace Cd
open PySem L2
class PtT (α : Type) [Py α] where
  t : String
  pt : ∀ {K : Fr} {Z H : Hp} {v : V} {a : α}, Same Z H → Py.R K Z v a → Pt K H v t
instance : PtT Int := ⟨"int", fun _ h => by cases (show _ = V.int _ from h); exact Pt.int _⟩
instance : PtT Bool := ⟨"bool", fun _ h => by cases (show _ = V.bl _ from h); exact Pt.bl _⟩
instance : PtT Str := ⟨"str", fun _ h => by cases (show _ = V.str _ from h); exact Pt.str _⟩
instance {α : Type} [Py α] : PtT (List α) := ⟨"list", fun zh h => Pt.list zh h⟩
instance {α β : Type} [Py α] [Py β] : PtT (α × β) := ⟨"tuple", fun zh h => Pt.tuple zh h⟩
instance {α β γ : Type} [Py α] [Py β] [Py γ] : PtT (T3 α β γ) := ⟨"tuple", fun zh h => Pt.t3 zh h⟩
instance {α β γ δ : Type} [Py α] [Py β] [Py γ] [Py δ] : PtT (T4 α β γ δ) := ⟨"tuple", fun zh h => Pt.t4 zh h⟩
section
variable {K : Fr} {Z H : Hp} {Q : VK}
end
end Cd
namespace Cd
end Cd

set_option Elab.async false
set_option linter.all false
set_option maxRecDepth 100000
set_option maxHeartbeats 4000000
namespace Cd
open PySem L2 PyProof.Rows
section
variable {K : Fr} {Z H Z' H' Z2 H2 Z0 H0 : Hp} {Q : VK}
/-- a list of lists of one's own -/
structure OwnN {α : Type} [Py α] (K : Fr) (H0 Z H : Hp) (p : Addr) (ps : List Addr) (m : List (List α)) : Prop where
  top : H p = some (.lst (ps.map V.ref))
  inn : Paired (fun a l => ∃ xs, H a = some (.lst xs) ∧ Paired (Py.R K Z) xs l) ps m
  nd : (p :: ps).Nodup
  nz : ∀ a ∈ p :: ps, Z a = none
  n0 : ∀ a ∈ p :: ps, H0 a = none
theorem OwnN.stands {α : Type} [Py α] {p : Addr} {ps : List Addr} {m : List (List α)} (o : OwnN K H0 Z H p ps m) : ∀ a ∈ p :: ps, ∃ u, H a = some u := by
  intro a ha
  rcases List.mem_cons.mp ha with rfl | ha
  · exact ⟨_, o.top⟩
  · have key : ∀ {ps : List Addr} {m : List (List α)}, Paired (fun a l => ∃ xs, H a = some (.lst xs) ∧ Paired (Py.R K Z) xs l) ps m → ∀ a ∈ ps, ∃ u, H a = some u := by
      intro ps m h
      induction h with
      | nil => intro a ha; cases ha
      | cons r t ih =>
        intro a ha
        rcases List.mem_cons.mp ha with rfl | ha
        · obtain ⟨xs, hx, _⟩ := r; exact ⟨_, hx⟩
        · exact ih a ha
    exact key o.inn a ha
theorem OwnN.step {α : Type} [Py α] {p : Addr} {ps : List Addr} {m : List (List α)} (o : OwnN K H0 Z H p ps m) (st : Step Z H Z' H') : OwnN K H0 Z' H' p ps m :=
  ⟨st.hh _ _ o.top, Paired.pImp (fun a l ⟨xs, h, pr⟩ => ⟨xs, st.hh _ _ h, Paired.pImp (fun _ _ r => Py.mono st.zz r) pr⟩) o.inn, o.nd,
   fun a ha => let ⟨u, hu⟩ := o.stands a ha; (st.fr _ _ hu).trans (o.nz a ha), o.n0⟩
theorem pairFar {α : Type} [Py α] {q : Addr} {u : HO} : ∀ {ps : List Addr} {m : List (List α)}, (∀ a ∈ ps, a ≠ q) → Paired (fun a l => ∃ xs, H a = some (.lst xs) ∧ Paired (Py.R K Z) xs l) ps m → Paired (fun a l => ∃ xs, upd H q u a = some (.lst xs) ∧ Paired (Py.R K Z) xs l) ps m
  | _, _, _, .nil => .nil
  | _, _, h, .cons ⟨xs, h1, h2⟩ t => .cons ⟨xs, by rw [upd_ne (h _ List.mem_cons_self)]; exact h1, h2⟩ (pairFar (fun a ha => h a (List.mem_cons_of_mem _ ha)) t)
theorem OwnN.far {α : Type} [Py α] {p q : Addr} {ps : List Addr} {u : HO} {m : List (List α)} (o : OwnN K H0 Z H p ps m) (ne : ∀ a ∈ p :: ps, a ≠ q) : OwnN K H0 Z (upd H q u) p ps m :=
  ⟨by rw [upd_ne (ne p List.mem_cons_self)]; exact o.top, pairFar (fun a ha => ne a (List.mem_cons_of_mem _ ha)) o.inn, o.nd, o.nz, o.n0⟩
theorem OwnN.len {α : Type} [Py α] {p : Addr} {ps : List Addr} {m : List (List α)} (o : OwnN K H0 Z H p ps m) : ps.length = m.length := o.inn.pLen
theorem pairSet {α : Type} [Py α] {a : Addr} {u : HO} {l' : List α} (hl : ∃ xs, upd H a u a = some (.lst xs) ∧ Paired (Py.R K Z) xs l') : ∀ (ps : List Addr) (m : List (List α)) (j : Nat), ps.Nodup → ps[j]? = some a → Paired (fun a l => ∃ xs, H a = some (.lst xs) ∧ Paired (Py.R K Z) xs l) ps m → Paired (fun b l => ∃ xs, upd H a u b = some (.lst xs) ∧ Paired (Py.R K Z) xs l) ps (m.set j l')
  | _, _, _, _, _, .nil => .nil
  | b :: r, l :: n, 0, hn, hj, .cons h t => by
    have e : b = a := by simpa using hj
    subst e
    exact .cons hl (pairFar (fun c hb e => (List.nodup_cons.mp hn).1 (e ▸ hb)) t)
  | b :: r, l :: n, j + 1, hn, hj, .cons h t => by
    have hj2 : r[j]? = some a := by simpa using hj
    have ne : b ≠ a := fun e => (List.nodup_cons.mp hn).1 (e ▸ List.mem_of_getElem? hj2)
    obtain ⟨xs, h1, h2⟩ := h
    exact .cons ⟨xs, by rw [upd_ne ne]; exact h1, h2⟩ (pairSet hl r n j (List.nodup_cons.mp hn).2 hj2 t)
theorem OwnN.at {α : Type} [Py α] {p : Addr} {ps : List Addr} {m : List (List α)} {i : Int} (o : OwnN K H0 Z H p ps m) (hi : inR m.length i) :
    ∃ a, a ∈ ps ∧ atI (ps.map V.ref) i = some (.ref a) ∧ Own K H0 Z H a (getI m i) ∧ ∀ u l', Own K H0 Z (upd H a u) a l' → OwnN K H0 Z (upd H a u) p ps (setI m i l') := by
  obtain ⟨j, hj, hl⟩ := ixN_some hi
  have hps : j < ps.length := by rw [o.len]; exact hl
  have e1 : ps[j]? = some ps[j] := List.getElem?_eq_getElem hps
  have em : m[j]? = some (getI m i) := by
    have h := atI_get hi
    unfold atI at h
    rw [hj] at h
    exact h
  refine ⟨ps[j], List.getElem_mem hps, ?_, ?_, fun u l' ow => ?_⟩
  · unfold atI
    rw [List.length_map, o.len, hj]
    show (ps.map V.ref)[j]? = _
    rw [List.getElem?_map, e1]
    rfl
  · obtain ⟨b, hb, xs, h1, h2⟩ := o.inn.pAt em
    rw [e1] at hb
    cases hb
    exact ⟨⟨xs, h1, h2⟩, o.nz _ (List.mem_cons_of_mem _ (List.getElem_mem hps)), o.n0 _ (List.mem_cons_of_mem _ (List.getElem_mem hps))⟩
  · have hn := List.nodup_cons.mp o.nd
    have e2 : setI m i l' = m.set j l' := by unfold setI; rw [hj]
    rw [e2]
    exact ⟨by rw [upd_ne (fun e => hn.1 (by rw [e]; exact List.getElem_mem hps))]; exact o.top, pairSet ow.ex ps m j hn.2 e1 o.inn, o.nd, o.nz, o.n0⟩
/-- the inner lists told, the outer one's own -/
def tellL (Z H : Hp) (ps : List Addr) : Hp := fun q => if q ∈ ps then H q else Z q
theorem tellL_same {ps : List Addr} (h : ∀ a ∈ ps, Z a = none) : Same Z (tellL Z H ps) := fun b u e => by
  unfold tellL
  rw [if_neg (fun hb => by rw [h b hb] at e; cases e)]
  exact e
theorem tellL_step {ps : List Addr} (c : Step Z0 H0 Z H) (h : ∀ a ∈ ps, Z a = none) (h0 : ∀ a ∈ ps, H0 a = none) : Step Z0 H0 (tellL Z H ps) H :=
  ⟨c.hh, c.zz.trans (tellL_same h), fun b u e => by
    unfold tellL at e
    split at e
    · exact e
    · exact c.zh b u e, fun a o e => by
    unfold tellL
    rw [if_neg (fun ha => by rw [h0 a ha] at e; cases e)]
    exact c.fr a o e⟩
theorem pairTell {α : Type} [Py α] {qs : List Addr} (s : Same Z (tellL Z H qs)) : ∀ {ps : List Addr} {m : List (List α)}, (∀ a ∈ ps, a ∈ qs) → Paired (fun a l => ∃ xs, H a = some (.lst xs) ∧ Paired (Py.R K Z) xs l) ps m → Paired (Py.R K (tellL Z H qs)) (ps.map V.ref) m
  | _, _, _, .nil => .nil
  | a :: _, _, h, .cons ⟨xs, h1, h2⟩ t => .cons ⟨a, xs, rfl, by unfold tellL; rw [if_pos (h a List.mem_cons_self)]; exact h1, Paired.pImp (fun _ _ r => Py.mono s r) h2⟩ (pairTell s (fun b hb => h b (List.mem_cons_of_mem _ hb)) t)
theorem OwnN.own {α : Type} [Py α] {p : Addr} {ps : List Addr} {m : List (List α)} (o : OwnN K H0 Z H p ps m) (c : Step Z0 H0 Z H) : ∃ Z', Step Z0 H0 Z' H ∧ Same Z Z' ∧ Own K H0 Z' H p m ∧ ∀ q, q ∉ ps → Z' q = Z q := by
  have hz : ∀ a ∈ ps, Z a = none := fun a ha => o.nz a (List.mem_cons_of_mem _ ha)
  have s := tellL_same (H := H) hz
  refine ⟨tellL Z H ps, tellL_step c hz (fun a ha => o.n0 a (List.mem_cons_of_mem _ ha)), s, ⟨⟨_, o.top, pairTell s (fun _ h => h) o.inn⟩, ?_, o.n0 p List.mem_cons_self⟩, fun q hq => ?_⟩
  · unfold tellL
    rw [if_neg (List.nodup_cons.mp o.nd).1]
    exact o.nz p List.mem_cons_self
  · unfold tellL
    rw [if_neg hq]
theorem OwnN.tell {α : Type} [Py α] {p : Addr} {ps : List Addr} {m : List (List α)} (o : OwnN K H0 Z H p ps m) (c : Step Z0 H0 Z H) : ∃ Z', Step Z0 H0 Z' H ∧ Same Z Z' ∧ Py.R K Z' (.ref p) m ∧ ∀ q, q ∉ p :: ps → Z' q = Z q := by
  obtain ⟨Z1, c1, s1, o1, f1⟩ := o.own c
  obtain ⟨Z2, c2, s2, r, f2⟩ := o1.tell c1
  refine ⟨Z2, c2, s1.trans s2, r, fun q hq => ?_⟩
  rw [List.mem_cons, not_or] at hq
  rw [f2 q hq.1, f1 q hq.2]
theorem OwnN.ret {α : Type} [Py α] {p : Addr} {ps : List Addr} {m : List (List α)} (o : OwnN K H0 Z H p ps m) (c : Step Z0 H0 Z H) (k : New K Z0 H0 Q m) : Q (.ref p) H := by
  obtain ⟨Z1, c1, s1, o1, f1⟩ := o.own c
  exact o1.ret c1 k
/-- a new list of new lists comes -/
def NewN {α : Type} [Py α] (K : Fr) (Z H : Hp) (Q : VK) (m : List (List α)) : Prop :=
  ∀ p ps Z' H', Step Z H Z' H' → (∀ a ∈ p :: ps, H a = none) → OwnN K H Z' H' p ps m → Q (.ref p) H'
theorem NewN.own {α : Type} [Py α] {m : List (List α)} (c : Step Z0 H0 Z H) (k : ∀ p ps Z' H', Step Z H Z' H' → (∀ a ∈ p :: ps, H a = none) → OwnN K H0 Z' H' p ps m → Q (.ref p) H') : NewN K Z H Q m := fun p ps Z' H' st hn o =>
  k p ps Z' H' st hn ⟨o.top, o.inn, o.nd, o.nz, fun a ha => c.hh.free (hn a ha)⟩
theorem NewN.new {α : Type} [Py α] {m : List (List α)} (zh : Same Z H) (k : New K Z H Q m) : NewN K Z H Q m := fun p ps Z' H' st hn o => o.ret st k
theorem NewN.gen {α : Type} [Py α] {m : List (List α)} (k : ∀ n, n = m → NewN K Z H Q n) : NewN K Z H Q m := k m rfl
theorem NewN.after {α : Type} [Py α] {m : List (List α)} (c : Step Z0 H0 Z H) (k : NewN K Z0 H0 Q m) : NewN K Z H Q m := fun p ps Z' H' st hn o =>
  k p ps Z' H' (c.trans st) (fun a ha => c.hh.free (hn a ha)) ⟨o.top, o.inn, o.nd, o.nz, fun a ha => c.hh.free (hn a ha)⟩
theorem OwnN.ne_old {α : Type} [Py α] {p q : Addr} {ps : List Addr} {m : List (List α)} {u : HO} (o : OwnN K H0 Z H p ps m) (h : H q = none) : ∀ a ∈ p :: ps, a ≠ q := fun a ha e => by
  obtain ⟨u, hu⟩ := o.stands a ha
  rw [e, h] at hu; cases hu
end
/-! ### [[] for ..] : a comprehension of new lists -/
section
variable {γ β : Type} [Py β] {K : Fr} {J : It} {g : TG} {te : TE} {σ : L2.St} {H Z : Hp} {L : List γ} {Y : γ → V → Hp → Hp → Prop} {vs : List Nat} {Q : VK}
end
end Cd
namespace Cd
open PySem L2
theorem OwnN.zfar {K : Fr} {Z H Z' H0 : Hp} {α : Type} [Py α] {p : Addr} {ps : List Addr} {m : List (List α)} (o : OwnN K H0 Z H p ps m) (s : Same Z Z') (hz : ∀ a ∈ p :: ps, Z' a = Z a) : OwnN K H0 Z' H p ps m :=
  ⟨o.top, Paired.pImp (fun a l ⟨xs, h, pr⟩ => ⟨xs, h, Paired.pImp (fun _ _ r => Py.mono s r) pr⟩) o.inn, o.nd, fun a ha => (hz a ha).trans (o.nz a ha), o.n0⟩
end Cd

set_option Elab.async false
set_option linter.all false
set_option maxRecDepth 100000
set_option maxHeartbeats 4000000
namespace Cd
open PySem L2

/-! ### stable sorting -/
section
variable {α : Type} (key : α → List Nat)
def Srt (l : List α) : Prop := l.Pairwise (fun a b => ¬ key b < key a)
def cls (k : List Nat) (l : List α) : List α := l.filter (fun z => decide (key z = k))
end


end Cd
namespace Cd
open PySem L2
section
variable {X : Cx} {K : Fr}
theorem ix_listK (e : X.K = K) : IxR X (rIxL K) := by subst e; exact ix_list
theorem ix_tupK (e : X.K = K) : IxR X (rIxT K) := by subst e; exact ix_tup
theorem call_lenK (e : X.K = K) : CallR X (.builtin "len") (rLenQ K) := by subst e; exact call_lenQ
theorem call_listK (e : X.K = K) : CallR X (.type "list") (rListQ K) := by subst e; exact call_listQ
theorem mt_joinK (e : X.K = K) : MtR X "str.join" (rJoinQ K) := by subst e; exact mt_joinQ
theorem op_ninK (e : X.K = K) : OpR X (compareOp .NotIn) (rIn K true) := by subst e; exact op_notIn_seq
end
end Cd
namespace Cd
open PySem L2
end Cd
namespace Cd
open PySem L2
def tNoK : L2.TO := fun _ H Q => True ∧ Q none H
theorem po_noK {X : Cx} : PO X none tNoK := ⟨fun pins s σ H Q I h => po_none.run pins s σ H Q I h.2⟩
end Cd
namespace Cd
open PySem L2 PyProof.Rows
/-! ### bits -/
def bitsOk (s : Scr) : Prop := ∀ z ∈ s.ns, Builtin.Int.intBits z ≤ 1048576
end Cd
namespace Cd
end Cd
namespace Cd
open PySem L2 PyProof.Rows
/-! ### // by a divisor of any small length -/
def CDivC (_ j : Int) : Prop := 0 < j ∧ j.natAbs.log2 < 9000
theorem op_fdivC {X : Cx} : OpR X (binaryOp .FloorDiv) (rI CDivC fun i j => .int (i / j)) := opI fun i j _ _ _ _ _ hc q => by
  have h1 : (0 : Int) < j := hc.1
  exact floordiv_int (by omega) (by rw [Int.fdiv_eq_ediv_of_nonneg i (by omega)]; exact q) (.inl (PyProof.noPylong_of_log2 hc.2))
end Cd

set_option Elab.async false
set_option linter.all false
set_option maxRecDepth 100000
set_option maxHeartbeats 4000000
namespace Cd
open PySem L2 PyProof.Rows
/-! ### sorted pairs of whole numbers -/
def leP (p q : Int × Int) : Bool := decide (p.1 < q.1 ∨ (p.1 = q.1 ∧ p.2 ≤ q.2))
def sortP (l : List (Int × Int)) : List (Int × Int) := l.mergeSort leP
theorem leP_tr (a b c : Int × Int) (h : leP a b = true) (h2 : leP b c = true) : leP a c = true := by
  unfold leP at *
  simp only [decide_eq_true_eq] at *
  omega
theorem leP_tot (a b : Int × Int) : (leP a b || leP b a) = true := by
  unfold leP
  simp only [Bool.or_eq_true, decide_eq_true_eq]
  omega
theorem sortP_perm (l : List (Int × Int)) : (sortP l).Perm l := List.mergeSort_perm l leP
theorem sortP_srt (l : List (Int × Int)) : (sortP l).Pairwise (fun a b => leP a b = true) := List.pairwise_mergeSort leP_tr leP_tot l
theorem sortP_len (l : List (Int × Int)) : (sortP l).length = l.length := (sortP_perm l).length_eq
theorem sorted_uniq : ∀ {l m : List (Int × Int)}, l.Perm m → l.Pairwise (fun a b => leP a b = true) → m.Pairwise (fun a b => leP a b = true) → l = m
  | [], m, h, _, _ => (List.nil_perm.mp h).symm ▸ rfl
  | a :: s, [], h, _, _ => absurd h.length_eq (by simp)
  | a :: s, b :: t, h, h1, h2 => by
    obtain ⟨p1, q1⟩ := List.pairwise_cons.mp h1
    obtain ⟨p2, q2⟩ := List.pairwise_cons.mp h2
    have ma : a ∈ b :: t := h.mem_iff.mp List.mem_cons_self
    have mb : b ∈ a :: s := h.mem_iff.mpr List.mem_cons_self
    have e : a = b := by
      rcases List.mem_cons.mp ma with e | ma
      · exact e
      · rcases List.mem_cons.mp mb with e | mb
        · exact e.symm
        · have x := p1 b mb
          have y := p2 a ma
          unfold leP at x y
          simp only [decide_eq_true_eq] at x y
          obtain ⟨a1, a2⟩ := a
          obtain ⟨b1, b2⟩ := b
          simp only [Prod.mk.injEq] at *
          omega
    subst e
    rw [sorted_uniq h.cons_inv q1 q2]
section
variable {K : Fr} {Z H : Hp} {Q : VK}
open Classical in
/-- what a pair stands for -/
noncomputable def kOf (K : Fr) (Z : Hp) (v : V) : Int × Int := if h : ∃ p : Int × Int, Py.R K Z v p then h.choose else (0, 0)
theorem pair_det {v : V} {p q : Int × Int} (hp : Py.R K Z v p) (hq : Py.R K Z v q) : p = q := by
  obtain ⟨a, x, y, rfl, hz, h1, h2⟩ := hp
  obtain ⟨b, x', y', e, hz', h1', h2'⟩ := hq
  cases e
  rw [hz] at hz'
  cases hz'
  cases (show x = V.int p.1 from h1)
  cases (show y = V.int p.2 from h2)
  have e1 : V.int p.1 = V.int q.1 := h1'
  have e2 : V.int p.2 = V.int q.2 := h2'
  cases p; cases q
  simp only [V.int.injEq] at e1 e2
  rw [e1, e2]
theorem kOf_is {v : V} {p : Int × Int} (h : Py.R K Z v p) : kOf K Z v = p := by
  unfold kOf
  have he : ∃ p : Int × Int, Py.R K Z v p := ⟨p, h⟩
  rw [dif_pos he]
  exact pair_det he.choose_spec h
theorem paired_k : ∀ {xs : List V} {l : List (Int × Int)}, Paired (Py.R K Z) xs l → xs.map (kOf K Z) = l ∧ ∀ x ∈ xs, Py.R K Z x (kOf K Z x)
  | _, _, .nil => ⟨rfl, fun x h => nomatch h⟩
  | x :: r, p :: l, .cons h t => by
    obtain ⟨a, b⟩ := paired_k t
    refine ⟨by rw [List.map_cons, kOf_is h, a], fun y hy => ?_⟩
    rcases List.mem_cons.mp hy with rfl | hy
    · rw [kOf_is h]; exact h
    · exact b y hy
theorem paired_mk : ∀ {ys : List V}, (∀ x ∈ ys, Py.R K Z x (kOf K Z x)) → Paired (Py.R K Z) ys (ys.map (kOf K Z))
  | [], _ => .nil
  | y :: r, h => .cons (h y List.mem_cons_self) (paired_mk fun x hx => h x (List.mem_cons_of_mem _ hx))
theorem k_sortP {v : V} {l : List (Int × Int)} (zh : Same Z H) (h : RO K Z H v l) (k : New K Z H Q (sortP l)) : rSortedPO K [v] H Q := by
  obtain ⟨a, xs, rfl, hl, pr⟩ := h
  obtain ⟨e, hr⟩ := paired_k pr
  refine ⟨a, xs, kOf K Z, rfl, SqL.of hl, fun x hx => ?_, fun ys p hs hb hp => ?_⟩
  · obtain ⟨t, x1, x2, e1, hz, h1, h2⟩ := hr x hx
    cases (show x1 = V.int _ from h1)
    cases (show x2 = V.int _ from h2)
    exact ⟨t, e1, zh _ _ hz⟩
  · have hy : ∀ x ∈ ys, Py.R K Z x (kOf K Z x) := fun x hx => hr x (hb.perm.mem_iff.mp hx)
    have pm := paired_mk hy
    have e2 : ys.map (kOf K Z) = sortP l := by
      refine sorted_uniq ((hb.perm.map _).trans (by rw [e]; exact (sortP_perm l).symm)) ?_ (sortP_srt l)
      rw [List.pairwise_map]
      refine List.Pairwise.imp (fun {x y} hxy => ?_) hs
      have := SrtO.lexB_no.mp hxy
      unfold leP
      simp only [decide_eq_true_eq]
      omega
    rw [e2] at pm
    exact New.lay zh pm k p hp
end
theorem call_sortK {X : Cx} {K : Fr} (e : X.K = K) : CallR X (.builtin "sorted") (rSortedPO K) := by subst e; exact cr_sortedPO
end Cd

set_option Elab.async false
set_option linter.all false
set_option maxRecDepth 100000
set_option maxHeartbeats 4000000
namespace Cd
open PySem L2 PyProof.Rows
/-! ### lists of a written length whose items are of unlike kinds -/
structure HL2 (α β : Type) where
  x1 : α
  x2 : β
deriving DecidableEq, Inhabited
instance {α β : Type} [Py α] [Py β] : Py (HL2 α β) where
  R K Z v p := ∃ a y1 y2, v = .ref a ∧ Z a = some (.lst [y1, y2]) ∧ Py.R K Z y1 p.x1 ∧ Py.R K Z y2 p.x2
  mono := fun {K Z Z' v l} s h => by
    obtain ⟨a, y1, y2, e, hz, h1, h2⟩ := h
    exact ⟨a, y1, y2, e, s _ _ hz, Py.mono s h1, Py.mono s h2⟩
section
variable {K : Fr} {Z H : Hp} {Q : VK} {α β : Type} [Py α] [Py β]
theorem Pt.hl2 {v : V} {l : HL2 α β} (zh : Same Z H) (h : Py.R K Z v l) : Pt K H v "list" := by
  obtain ⟨a, y1, y2, rfl, hz, _⟩ := h
  exact .of (.base (.lst (zh _ _ hz)))
end
section
variable {α β : Type} [Py α] [DecidableEq α] [PyD α] [Py β] [DecidableEq β] [PyD β]
instance : PyD (HL2 α β) where
  d p := .list [PyD.d p.x1, PyD.d p.x2]
  dp := fun zh h => by
    obtain ⟨a, y1, y2, rfl, hz, h1, h2⟩ := h
    exact .lst (SqL.of (zh _ _ hz)) (.cons (PyD.dp zh h1) (.cons (PyD.dp zh h2) .nil))
  eqv := fun p q => by
    show (PyData.eqv (PyD.d p.x1) (PyD.d q.x1) && (PyData.eqv (PyD.d p.x2) (PyD.d q.x2) && PyData.eqvAll [] [])) = _
    rw [PyD.eqv, PyD.eqv, show PyData.eqvAll [] [] = true by simp [PyData.eqvAll], Bool.and_true, andD]
    obtain ⟨c0, c1⟩ := p
    obtain ⟨e0, e1⟩ := q
    simp
  dep := (max (PyD.dep α) (PyD.dep β)) + 1
  depth := fun p => by
    show (max (PyD.d p.x1).depth (max (PyD.d p.x2).depth 0)) + 1 ≤ _
    have h1 := PyD.depth p.x1
    have h2 := PyD.depth p.x2
    omega
instance : PyN (HL2 α β) := ⟨fun _ => by simp [PyD.d, PyData.eqv], fun _ => by simp [PyD.d, PyData.eqv]⟩
end
instance {α β : Type} [Py α] [Py β] : PtT (HL2 α β) := ⟨"list", fun zh h => Pt.hl2 zh h⟩
structure HL3 (α β γ : Type) where
  x1 : α
  x2 : β
  x3 : γ
deriving DecidableEq, Inhabited
instance {α β γ : Type} [Py α] [Py β] [Py γ] : Py (HL3 α β γ) where
  R K Z v p := ∃ a y1 y2 y3, v = .ref a ∧ Z a = some (.lst [y1, y2, y3]) ∧ Py.R K Z y1 p.x1 ∧ Py.R K Z y2 p.x2 ∧ Py.R K Z y3 p.x3
  mono := fun {K Z Z' v l} s h => by
    obtain ⟨a, y1, y2, y3, e, hz, h1, h2, h3⟩ := h
    exact ⟨a, y1, y2, y3, e, s _ _ hz, Py.mono s h1, Py.mono s h2, Py.mono s h3⟩
section
variable {K : Fr} {Z H : Hp} {Q : VK} {α β γ : Type} [Py α] [Py β] [Py γ]
theorem Pt.hl3 {v : V} {l : HL3 α β γ} (zh : Same Z H) (h : Py.R K Z v l) : Pt K H v "list" := by
  obtain ⟨a, y1, y2, y3, rfl, hz, _⟩ := h
  exact .of (.base (.lst (zh _ _ hz)))
end
section
variable {α β γ : Type} [Py α] [DecidableEq α] [PyD α] [Py β] [DecidableEq β] [PyD β] [Py γ] [DecidableEq γ] [PyD γ]
instance : PyD (HL3 α β γ) where
  d p := .list [PyD.d p.x1, PyD.d p.x2, PyD.d p.x3]
  dp := fun zh h => by
    obtain ⟨a, y1, y2, y3, rfl, hz, h1, h2, h3⟩ := h
    exact .lst (SqL.of (zh _ _ hz)) (.cons (PyD.dp zh h1) (.cons (PyD.dp zh h2) (.cons (PyD.dp zh h3) .nil)))
  eqv := fun p q => by
    show (PyData.eqv (PyD.d p.x1) (PyD.d q.x1) && (PyData.eqv (PyD.d p.x2) (PyD.d q.x2) && (PyData.eqv (PyD.d p.x3) (PyD.d q.x3) && PyData.eqvAll [] []))) = _
    rw [PyD.eqv, PyD.eqv, PyD.eqv, show PyData.eqvAll [] [] = true by simp [PyData.eqvAll], Bool.and_true, andD, andD]
    obtain ⟨c0, c1, c2⟩ := p
    obtain ⟨e0, e1, e2⟩ := q
    simp
  dep := (max (PyD.dep α) (max (PyD.dep β) (PyD.dep γ))) + 1
  depth := fun p => by
    show (max (PyD.d p.x1).depth (max (PyD.d p.x2).depth (max (PyD.d p.x3).depth 0))) + 1 ≤ _
    have h1 := PyD.depth p.x1
    have h2 := PyD.depth p.x2
    have h3 := PyD.depth p.x3
    omega
instance : PyN (HL3 α β γ) := ⟨fun _ => by simp [PyD.d, PyData.eqv], fun _ => by simp [PyD.d, PyData.eqv]⟩
end
instance {α β γ : Type} [Py α] [Py β] [Py γ] : PtT (HL3 α β γ) := ⟨"list", fun zh h => Pt.hl3 zh h⟩
structure HL4 (α β γ δ : Type) where
  x1 : α
  x2 : β
  x3 : γ
  x4 : δ
deriving DecidableEq, Inhabited
instance {α β γ δ : Type} [Py α] [Py β] [Py γ] [Py δ] : Py (HL4 α β γ δ) where
  R K Z v p := ∃ a y1 y2 y3 y4, v = .ref a ∧ Z a = some (.lst [y1, y2, y3, y4]) ∧ Py.R K Z y1 p.x1 ∧ Py.R K Z y2 p.x2 ∧ Py.R K Z y3 p.x3 ∧ Py.R K Z y4 p.x4
  mono := fun {K Z Z' v l} s h => by
    obtain ⟨a, y1, y2, y3, y4, e, hz, h1, h2, h3, h4⟩ := h
    exact ⟨a, y1, y2, y3, y4, e, s _ _ hz, Py.mono s h1, Py.mono s h2, Py.mono s h3, Py.mono s h4⟩
section
variable {K : Fr} {Z H : Hp} {Q : VK} {α β γ δ : Type} [Py α] [Py β] [Py γ] [Py δ]
theorem Pt.hl4 {v : V} {l : HL4 α β γ δ} (zh : Same Z H) (h : Py.R K Z v l) : Pt K H v "list" := by
  obtain ⟨a, y1, y2, y3, y4, rfl, hz, _⟩ := h
  exact .of (.base (.lst (zh _ _ hz)))
end
section
variable {α β γ δ : Type} [Py α] [DecidableEq α] [PyD α] [Py β] [DecidableEq β] [PyD β] [Py γ] [DecidableEq γ] [PyD γ] [Py δ] [DecidableEq δ] [PyD δ]
instance : PyD (HL4 α β γ δ) where
  d p := .list [PyD.d p.x1, PyD.d p.x2, PyD.d p.x3, PyD.d p.x4]
  dp := fun zh h => by
    obtain ⟨a, y1, y2, y3, y4, rfl, hz, h1, h2, h3, h4⟩ := h
    exact .lst (SqL.of (zh _ _ hz)) (.cons (PyD.dp zh h1) (.cons (PyD.dp zh h2) (.cons (PyD.dp zh h3) (.cons (PyD.dp zh h4) .nil))))
  eqv := fun p q => by
    show (PyData.eqv (PyD.d p.x1) (PyD.d q.x1) && (PyData.eqv (PyD.d p.x2) (PyD.d q.x2) && (PyData.eqv (PyD.d p.x3) (PyD.d q.x3) && (PyData.eqv (PyD.d p.x4) (PyD.d q.x4) && PyData.eqvAll [] [])))) = _
    rw [PyD.eqv, PyD.eqv, PyD.eqv, PyD.eqv, show PyData.eqvAll [] [] = true by simp [PyData.eqvAll], Bool.and_true, andD, andD, andD]
    obtain ⟨c0, c1, c2, c3⟩ := p
    obtain ⟨e0, e1, e2, e3⟩ := q
    simp
  dep := (max (PyD.dep α) (max (PyD.dep β) (max (PyD.dep γ) (PyD.dep δ)))) + 1
  depth := fun p => by
    show (max (PyD.d p.x1).depth (max (PyD.d p.x2).depth (max (PyD.d p.x3).depth (max (PyD.d p.x4).depth 0)))) + 1 ≤ _
    have h1 := PyD.depth p.x1
    have h2 := PyD.depth p.x2
    have h3 := PyD.depth p.x3
    have h4 := PyD.depth p.x4
    omega
instance : PyN (HL4 α β γ δ) := ⟨fun _ => by simp [PyD.d, PyData.eqv], fun _ => by simp [PyD.d, PyData.eqv]⟩
end
instance {α β γ δ : Type} [Py α] [Py β] [Py γ] [Py δ] : PtT (HL4 α β γ δ) := ⟨"list", fun zh h => Pt.hl4 zh h⟩
structure HL5 (α β γ δ ε : Type) where
  x1 : α
  x2 : β
  x3 : γ
  x4 : δ
  x5 : ε
deriving DecidableEq, Inhabited
instance {α β γ δ ε : Type} [Py α] [Py β] [Py γ] [Py δ] [Py ε] : Py (HL5 α β γ δ ε) where
  R K Z v p := ∃ a y1 y2 y3 y4 y5, v = .ref a ∧ Z a = some (.lst [y1, y2, y3, y4, y5]) ∧ Py.R K Z y1 p.x1 ∧ Py.R K Z y2 p.x2 ∧ Py.R K Z y3 p.x3 ∧ Py.R K Z y4 p.x4 ∧ Py.R K Z y5 p.x5
  mono := fun {K Z Z' v l} s h => by
    obtain ⟨a, y1, y2, y3, y4, y5, e, hz, h1, h2, h3, h4, h5⟩ := h
    exact ⟨a, y1, y2, y3, y4, y5, e, s _ _ hz, Py.mono s h1, Py.mono s h2, Py.mono s h3, Py.mono s h4, Py.mono s h5⟩
section
variable {K : Fr} {Z H : Hp} {Q : VK} {α β γ δ ε : Type} [Py α] [Py β] [Py γ] [Py δ] [Py ε]
theorem Pt.hl5 {v : V} {l : HL5 α β γ δ ε} (zh : Same Z H) (h : Py.R K Z v l) : Pt K H v "list" := by
  obtain ⟨a, y1, y2, y3, y4, y5, rfl, hz, _⟩ := h
  exact .of (.base (.lst (zh _ _ hz)))
end
section
variable {α β γ δ ε : Type} [Py α] [DecidableEq α] [PyD α] [Py β] [DecidableEq β] [PyD β] [Py γ] [DecidableEq γ] [PyD γ] [Py δ] [DecidableEq δ] [PyD δ] [Py ε] [DecidableEq ε] [PyD ε]
instance : PyD (HL5 α β γ δ ε) where
  d p := .list [PyD.d p.x1, PyD.d p.x2, PyD.d p.x3, PyD.d p.x4, PyD.d p.x5]
  dp := fun zh h => by
    obtain ⟨a, y1, y2, y3, y4, y5, rfl, hz, h1, h2, h3, h4, h5⟩ := h
    exact .lst (SqL.of (zh _ _ hz)) (.cons (PyD.dp zh h1) (.cons (PyD.dp zh h2) (.cons (PyD.dp zh h3) (.cons (PyD.dp zh h4) (.cons (PyD.dp zh h5) .nil)))))
  eqv := fun p q => by
    show (PyData.eqv (PyD.d p.x1) (PyD.d q.x1) && (PyData.eqv (PyD.d p.x2) (PyD.d q.x2) && (PyData.eqv (PyD.d p.x3) (PyD.d q.x3) && (PyData.eqv (PyD.d p.x4) (PyD.d q.x4) && (PyData.eqv (PyD.d p.x5) (PyD.d q.x5) && PyData.eqvAll [] []))))) = _
    rw [PyD.eqv, PyD.eqv, PyD.eqv, PyD.eqv, PyD.eqv, show PyData.eqvAll [] [] = true by simp [PyData.eqvAll], Bool.and_true, andD, andD, andD, andD]
    obtain ⟨c0, c1, c2, c3, c4⟩ := p
    obtain ⟨e0, e1, e2, e3, e4⟩ := q
    simp
  dep := (max (PyD.dep α) (max (PyD.dep β) (max (PyD.dep γ) (max (PyD.dep δ) (PyD.dep ε))))) + 1
  depth := fun p => by
    show (max (PyD.d p.x1).depth (max (PyD.d p.x2).depth (max (PyD.d p.x3).depth (max (PyD.d p.x4).depth (max (PyD.d p.x5).depth 0))))) + 1 ≤ _
    have h1 := PyD.depth p.x1
    have h2 := PyD.depth p.x2
    have h3 := PyD.depth p.x3
    have h4 := PyD.depth p.x4
    have h5 := PyD.depth p.x5
    omega
instance : PyN (HL5 α β γ δ ε) := ⟨fun _ => by simp [PyD.d, PyData.eqv], fun _ => by simp [PyD.d, PyData.eqv]⟩
end
instance {α β γ δ ε : Type} [Py α] [Py β] [Py γ] [Py δ] [Py ε] : PtT (HL5 α β γ δ ε) := ⟨"list", fun zh h => Pt.hl5 zh h⟩
end Cd

set_option Elab.async false
set_option linter.all false
set_option maxRecDepth 100000
set_option maxHeartbeats 4000000
namespace Cd
open PySem L2 PyProof.Rows
/-! ### walks over one's own list (the body leaves it) -/
section
variable {K : Fr} {tb : TS} {D : Ends} {σ : L2.St} {H Z H0 : Hp}
end
end Cd

set_option Elab.async false
set_option linter.all false
set_option maxRecDepth 100000
set_option maxHeartbeats 4000000
namespace Cd
open PySem L2 PyProof.Rows
/-! ### dicts: keys are whole numbers or texts -/
section
variable {κ α : Type} [DecidableEq κ]
def dGet (m : List (κ × α)) (k : κ) : Option α := (m.find? fun p => decide (p.1 = k)).map (·.2)
def dPut (m : List (κ × α)) (k : κ) (a : α) : List (κ × α) := if (m.any fun p => decide (p.1 = k)) = true then m.map (fun p => if p.1 = k then (p.1, a) else p) else m ++ [(k, a)]
def dDrop (m : List (κ × α)) (k : κ) : List (κ × α) := m.filter fun p => decide (p.1 ≠ k)
theorem dGet_pos {p : κ × α} {r : List (κ × α)} {k : κ} (e : p.1 = k) : dGet (p :: r) k = some p.2 := by simp [dGet, List.find?_cons, e]
theorem dGet_neg {p : κ × α} {r : List (κ × α)} {k : κ} (e : ¬ p.1 = k) : dGet (p :: r) k = dGet r k := by simp [dGet, List.find?_cons, e]
theorem dGet_any (k : κ) : ∀ m : List (κ × α), (m.any fun p => decide (p.1 = k)) = (dGet m k).isSome
  | [] => rfl
  | p :: r => by
    rw [List.any_cons]
    by_cases e : p.1 = k
    · simp only [dGet_pos e, decide_eq_true e, Bool.true_or, Option.isSome_some]
    · rw [dGet_neg e, decide_eq_false e, Bool.false_or]; exact dGet_any k r
theorem dGet_isSome (m : List (κ × α)) (k : κ) : (dGet m k).isSome = decide (k ∈ m.map (·.1)) := by
  induction m with
  | nil => simp [dGet]
  | cons p r ih =>
    by_cases e : p.1 = k
    · rw [dGet_pos e]; simp [e]
    · rw [dGet_neg e, ih]
      have e2 : ¬ k = p.1 := fun z => e z.symm
      simp [e2]
theorem dGet_mem {m : List (κ × α)} {k : κ} {a : α} (h : dGet m k = some a) : (k, a) ∈ m := by
  induction m with
  | nil => cases h
  | cons p r ih =>
    by_cases e : p.1 = k
    · rw [dGet_pos e] at h
      cases h
      rw [← e]
      exact List.mem_cons_self
    · rw [dGet_neg e] at h
      exact List.mem_cons_of_mem _ (ih h)
theorem dPut_keys (m : List (κ × α)) (k : κ) (a : α) : (dPut m k a).map (·.1) = if k ∈ m.map (·.1) then m.map (·.1) else m.map (·.1) ++ [k] := by
  unfold dPut
  rw [dGet_any, dGet_isSome]
  by_cases h : k ∈ m.map (·.1)
  · rw [if_pos (decide_eq_true h), if_pos h, List.map_map]
    apply List.map_congr_left
    intro p _
    show (if p.1 = k then (p.1, a) else p).1 = p.1
    split <;> rfl
  · rw [if_neg (by simpa using h), if_neg h, List.map_append]
    rfl
theorem dPut_nodup {m : List (κ × α)} {k : κ} {a : α} (h : (m.map (·.1)).Nodup) : ((dPut m k a).map (·.1)).Nodup := by
  rw [dPut_keys]
  split
  · exact h
  · rename_i hk
    rw [List.nodup_append]
    refine ⟨h, by simp, fun x hx y hy => ?_⟩
    rw [List.mem_singleton] at hy
    subst hy
    exact fun e => hk (e ▸ hx)
theorem dPut_new {m : List (κ × α)} {k : κ} {a : α} (h : ¬ k ∈ m.map (·.1)) : dPut m k a = m ++ [(k, a)] := by
  unfold dPut
  rw [dGet_any, dGet_isSome, if_neg (by simpa using h)]
/-- a dict, its entries by their coming -/
structure Dct (κ α : Type) where
  kv : List (κ × α)
deriving DecidableEq, Inhabited
end
class Kt (κ : Type) [Sc κ] where
  key : κ → Key
  inj : ∀ {a b : κ}, key a = key b → a = b
  emb_is : ∀ k : κ, kV (key k) = Sc.emb k
instance : Kt Int := { key := Sum.inl, inj := fun h => Sum.inl.inj h, emb_is := fun _ => rfl }
instance : Kt Str := { key := Sum.inr, inj := fun h => Sum.inr.inj h, emb_is := fun _ => rfl }
section
variable {κ α : Type} [Sc κ] [DecidableEq κ] [Kt κ] [Py α]
def EntK (K : Fr) (Z : Hp) (p : Key × V) (q : κ × α) : Prop := p.1 = Kt.key q.1 ∧ Py.R K Z p.2 q.2
theorem EntK.mono {K : Fr} {Z Z' : Hp} (s : Same Z Z') {p : Key × V} {q : κ × α} (h : EntK K Z p q) : EntK K Z' p q := ⟨h.1, Py.mono s h.2⟩
instance : Py (Dct κ α) where
  R K Z v d := ∃ a kvs, v = .ref a ∧ Z a = some (.dK kvs) ∧ Paired (EntK K Z) kvs d.kv
  mono := fun {K Z Z' v l} s h => by
    obtain ⟨a, xs, e, hz, p⟩ := h
    exact ⟨a, xs, e, s _ _ hz, Paired.pImp (fun _ _ r => r.mono s) p⟩
theorem ent_get {K : Fr} {Z : Hp} : ∀ {kvs : List (Key × V)} {m : List (κ × α)} (k : κ), Paired (EntK K Z) kvs m → (valV kvs (Kt.key k) = none ∧ dGet m k = none) ∨ ∃ v a, valV kvs (Kt.key k) = some v ∧ dGet m k = some a ∧ Py.R K Z v a
  | _, _, k, .nil => .inl ⟨rfl, rfl⟩
  | p :: _, q :: _, k, .cons r t => by
    by_cases e : q.1 = k
    · exact .inr ⟨p.2, q.2, valV_pos (r.1.trans (by rw [e])), dGet_pos e, r.2⟩
    · rw [valV_neg (fun h => e (Kt.inj (r.1.symm.trans h))), dGet_neg e]
      exact ent_get k t
theorem ent_isSome {K : Fr} {Z : Hp} {kvs : List (Key × V)} {m : List (κ × α)} (k : κ) (p : Paired (EntK K Z) kvs m) : (valV kvs (Kt.key k)).isSome = (dGet m k).isSome := by
  rcases ent_get k p with ⟨h1, h2⟩ | ⟨v, a, h1, h2, _⟩ <;> rw [h1, h2] <;> rfl
theorem ent_set {K : Fr} {Z : Hp} {k : κ} {v : V} {a : α} (hv : Py.R K Z v a) : ∀ {kvs : List (Key × V)} {m : List (κ × α)}, Paired (EntK K Z) kvs m → Paired (EntK K Z) (kvs.map fun p => if p.1 = Kt.key k then (p.1, v) else p) (m.map fun p => if p.1 = k then (p.1, a) else p)
  | _, _, .nil => .nil
  | p :: _, q :: _, .cons r t => by
    rw [List.map_cons, List.map_cons]
    refine .cons ?_ (ent_set hv t)
    by_cases e : q.1 = k
    · rw [if_pos e, if_pos (r.1.trans (by rw [e]))]
      exact ⟨r.1, hv⟩
    · rw [if_neg e, if_neg (fun h => e (Kt.inj (r.1.symm.trans h)))]
      exact r
theorem ent_put {K : Fr} {Z : Hp} {kvs : List (Key × V)} {m : List (κ × α)} {k : κ} {v : V} {a : α} (p : Paired (EntK K Z) kvs m) (hv : Py.R K Z v a) : Paired (EntK K Z) (putK kvs (Kt.key k) v) (dPut m k a) := by
  unfold putK dPut
  rw [valV_any, dGet_any, ent_isSome k p]
  split
  · exact ent_set hv p
  · exact p.pApp (.cons ⟨rfl, hv⟩ .nil)
theorem ent_keys {K : Fr} {Z : Hp} : ∀ {kvs : List (Key × V)} {m : List (κ × α)}, Paired (EntK K Z) kvs m → kvs.map (·.1) = m.map fun q => Kt.key q.1
  | _, _, .nil => rfl
  | _, _, .cons r t => by rw [List.map_cons, List.map_cons, r.1, ent_keys t]
end
/-! ### a dict of one's own -/
section
variable {κ α : Type} [Sc κ] [DecidableEq κ] [Kt κ] [Py α] {K : Fr} {Z H Z0 H0 Z' H' : Hp} {Q : VK}
structure OwnD (K : Fr) (H0 Z H : Hp) (l : Addr) (m : Dct κ α) : Prop where
  ex : ∃ kvs, H l = some (.dK kvs) ∧ Paired (EntK K Z) kvs m.kv
  nz : Z l = none
  n0 : H0 l = none
theorem OwnD.step {l : Addr} {m : Dct κ α} (o : OwnD K H0 Z H l m) (st : Step Z H Z' H') : OwnD K H0 Z' H' l m := by
  obtain ⟨⟨xs, h, p⟩, nz, n0⟩ := o
  exact ⟨⟨xs, st.hh _ _ h, Paired.pImp (fun _ _ r => r.mono st.zz) p⟩, (st.fr _ _ h).trans nz, n0⟩
theorem OwnD.far {l q : Addr} {u : HO} {m : Dct κ α} (o : OwnD K H0 Z H l m) (ne : l ≠ q) : OwnD K H0 Z (upd H q u) l m := by
  obtain ⟨⟨xs, h, p⟩, nz, n0⟩ := o
  exact ⟨⟨xs, by rw [upd_ne ne]; exact h, p⟩, nz, n0⟩
theorem OwnD.tell {l : Addr} {m : Dct κ α} (o : OwnD K H0 Z H l m) (c : Step Z0 H0 Z H) : ∃ Z', Step Z0 H0 Z' H ∧ Same Z Z' ∧ Py.R K Z' (.ref l) m ∧ ∀ q, q ≠ l → Z' q = Z q := by
  obtain ⟨⟨xs, h, p⟩, nz, n0⟩ := o
  obtain ⟨c', s⟩ := c.tell h nz n0
  exact ⟨_, c', s, ⟨l, xs, rfl, upd_same, Paired.pImp (fun _ _ r => r.mono s) p⟩, fun q hq => upd_ne hq⟩
theorem OwnD.zfar {l : Addr} {m : Dct κ α} (o : OwnD K H0 Z H l m) (s : Same Z Z') (hz : Z' l = Z l) : OwnD K H0 Z' H l m := by
  obtain ⟨⟨xs, h, p⟩, nz, n0⟩ := o
  exact ⟨⟨xs, h, Paired.pImp (fun _ _ r => r.mono s) p⟩, hz.trans nz, n0⟩
theorem OwnD.at {l : Addr} {m : Dct κ α} (o : OwnD K H0 Z H l m) : ∃ u, H l = some u := let ⟨⟨_, h, _⟩, _, _⟩ := o; ⟨_, h⟩
theorem OwnD.ne_new {l p : Addr} {m : Dct κ α} (o : OwnD K H0 Z H l m) (h : H p = none) : l ≠ p := let ⟨_, h1⟩ := o.at; ne_of_none h1 h
/-- a new dict comes -/
def NewD (K : Fr) (Z H : Hp) (Q : VK) (m : Dct κ α) : Prop :=
  ∀ p xs Z' H', Step Z H Z' H' → H p = none → H' p = some (.dK xs) → Z' p = none → Paired (EntK K Z') xs m.kv → Q (.ref p) H'
theorem NewD.tel {m : Dct κ α} (k : Tel K Z H Q m) : NewD K Z H Q m := fun p xs Z' H' st hp hl hz pr => by
  obtain ⟨c', s⟩ := st.tell hl hz hp
  exact k _ _ _ c' ⟨p, xs, rfl, upd_same, Paired.pImp (fun _ _ r => r.mono s) pr⟩
theorem NewD.own {m : Dct κ α} (c : Step Z0 H0 Z H) (k : ∀ p Z' H', Step Z H Z' H' → H p = none → OwnD K H0 Z' H' p m → Q (.ref p) H') : NewD K Z H Q m := fun p xs Z' H' st hp hl hz pr =>
  k p Z' H' st hp ⟨⟨xs, hl, pr⟩, hz, c.hh.free hp⟩
theorem NewD.gen {m : Dct κ α} (k : ∀ n, n = m → NewD K Z H Q n) : NewD K Z H Q m := k m rfl
theorem NewD.after {m : Dct κ α} (c : Step Z0 H0 Z H) (k : NewD K Z0 H0 Q m) : NewD K Z H Q m := fun p xs Z' H' st hp hl hz pr => k p xs Z' H' (c.trans st) (c.hh.free hp) hl hz pr
theorem NewD.lay {m : Dct κ α} {xs : List (Key × V)} (s : Same Z H) (pr : Paired (EntK K Z) xs m.kv) (k : NewD K Z H Q m) : ∀ p, H p = none → Q (.ref p) (upd H p (.dK xs)) := fun p hp =>
  k p xs Z _ (Step.own s hp) hp upd_same (s.free hp) pr
theorem OwnD.ret {p : Addr} {m : Dct κ α} (o : OwnD K H0 Z H p m) (c : Step Z0 H0 Z H) (k : NewD K Z0 H0 Q m) : Q (.ref p) H := by
  obtain ⟨⟨xs, hl, pr⟩, nz, n0⟩ := o
  exact k p xs Z H c n0 hl nz pr
/-- a dict read: told, or one's own -/
theorem DGet.r {H : Hp} {a : Addr} {kvs : List (Key × V)} {k : Key} (e : Rd H a (.dK kvs)) : DGet H a (kV k) (valV kvs k) := .inl ⟨kvs, k, e, rfl, rfl⟩
def RD (K : Fr) (Z H : Hp) (v : V) (m : Dct κ α) : Prop := ∃ a kvs, v = .ref a ∧ Rd H a (.dK kvs) ∧ Paired (EntK K Z) kvs m.kv
def RDx (K : Fr) (Z H : Hp) (v : V) (m : Dct κ α) : Prop := ∃ a kvs, v = .ref a ∧ H a = some (.dK kvs) ∧ Paired (EntK K Z) kvs m.kv
theorem RDx.own {p : Addr} {m : Dct κ α} (o : OwnD K H0 Z H p m) : RDx K Z H (.ref p) m := let ⟨⟨xs, h, pr⟩, _, _⟩ := o; ⟨p, xs, rfl, h, pr⟩
theorem RDx.tell {v : V} {m : Dct κ α} (zh : Same Z H) (h : Py.R K Z v m) : RDx K Z H v m := let ⟨a, xs, e, hz, pr⟩ := h; ⟨a, xs, e, zh _ _ hz, pr⟩
theorem RD.own {p : Addr} {m : Dct κ α} (o : OwnD K H0 Z H p m) : RD K Z H (.ref p) m := let ⟨⟨xs, h, pr⟩, _, _⟩ := o; ⟨p, xs, rfl, .inl h, pr⟩
theorem RD.tell {v : V} {m : Dct κ α} (zh : Same Z H) (h : Py.R K Z v m) : RD K Z H v m := let ⟨a, xs, e, hz, pr⟩ := h; ⟨a, xs, e, .inl (zh _ _ hz), pr⟩
/-! what the operations ask -/
def rDNewQ : Hp → VK → Prop := fun H Q => ∀ p, H p = none → Q (.ref p) (upd H p (.dK []))
def tDNewQ : TE := fun _ H Q => rDNewQ H Q
theorem pe_dnewQ {X : Cx} {pos : Pos} : PE X (.Dict [] [] pos) tDNewQ := pe_dnewK
theorem k_dnew (zh : Same Z H) (k : NewD K Z H Q (⟨[]⟩ : Dct κ α)) : rDNewQ H Q := NewD.lay zh .nil k
def rDInQ (neg : Bool) : V → V → Hp → VK → Prop := fun y x H Q => ∃ a o, x = .ref a ∧ DGet H a y o ∧ Q (.bl (if neg = true then !o.isSome else o.isSome)) H
def tDInQ (neg : Bool) (ty td : TE) : TE := fun σ H Q => ty σ H fun y H1 => td σ H1 fun x H2 => rDInQ neg y x H2 Q
theorem pc_dinQ {X : Cx} {i o : Expr} {ty td : TE} (hu : X.A.units + 1 < cLine) (hi : PE X i ty) (ho : PE X o td) : PC X .In i o (tDInQ false ty td) := pc_din hu hi ho
theorem k_din {m : Dct κ α} {v : V} {k0 : κ} (h : RD K Z H v m) (k : Q (.bl (decide (k0 ∈ m.kv.map (·.1)))) H) : rDInQ false (Sc.emb k0) v H Q := by
  obtain ⟨a, kvs, rfl, hl, pr⟩ := h
  refine ⟨a, valV kvs (Kt.key k0), rfl, by rw [← Kt.emb_is]; exact DGet.r hl, ?_⟩
  rw [if_neg (by decide), ent_isSome k0 pr, dGet_isSome]
  exact k
def rDGetQ : V → V → Hp → VK → Prop := fun x y H Q => ∃ a v, x = .ref a ∧ DGet H a y (some v) ∧ Q v H
def tDGetQ (td ty : TE) : TE := fun σ H Q => td σ H fun x H1 => ty σ H1 fun y H2 => rDGetQ x y H2 Q
theorem pe_dgetQ {X : Cx} {o i : Expr} {td ty : TE} {pos : Pos} (hu : X.A.units + 1 < cLine) (ho : PE X o td) (hi : PE X i ty) (hs : NoSl i) : PE X (.Subscript o i pos) (tDGetQ td ty) := pe_dget hu ho hi hs
/-- the value at a key that is there -/
def dAt [Inhabited α] (m : Dct κ α) (k : κ) : α := (dGet m.kv k).getD default
theorem k_dget [Inhabited α] {m : Dct κ α} {v : V} {k0 : κ} (h : RD K Z H v m) (hk : k0 ∈ m.kv.map (·.1)) (k : ∀ y, Py.R K Z y (dAt m k0) → Q y H) : rDGetQ v (Sc.emb k0) H Q := by
  obtain ⟨a, kvs, rfl, hl, pr⟩ := h
  have hs : (dGet m.kv k0).isSome = true := by rw [dGet_isSome]; exact decide_eq_true hk
  rcases ent_get k0 pr with ⟨h1, h2⟩ | ⟨w, b, h1, h2, h3⟩
  · rw [h2] at hs; cases hs
  · refine ⟨a, w, rfl, by rw [← Kt.emb_is, ← h1]; exact DGet.r hl, k w ?_⟩
    unfold dAt
    rw [h2]
    exact h3
def rIsD (x : V) (H : Hp) (R : Addr → Prop) : Prop := ∃ a, x = .ref a ∧ IsD H a ∧ R a
def rDGet2Q (a : Addr) : V → V → Hp → VK → Prop := fun y z H Q => ∃ o, DGet H a y o ∧ Q (o.getD z) H
def tDGet2Q (td ty tx : TE) : TE := fun σ H Q => td σ H fun x H1 => rIsD x H1 fun a => ty σ H1 fun y H2 => tx σ H2 fun z H3 => rDGet2Q a y z H3 Q
/-! stores -/
def rDPutQ : V → V → V → Hp → (Hp → Prop) → Prop := fun v x y H R => ∃ a H4, x = .ref a ∧ DPut H a y v H4 ∧ R H4
def sDPutQ (td ty tv : TE) : TS := fun D σ H => tv σ H fun v H1 => td σ H1 fun x H2 => ty σ H2 fun y H3 => rDPutQ v x y H3 fun H4 => D.nx σ H4
theorem ps_dputQ {X : Cx} {o i value : Expr} {td ty tv : TE} {pos' pos : Pos} (hu : X.A.units + 1 < cLine) (ho : PE X o td) (hi : PE X i ty) (hv : PE X value tv) (hs : swapsWith value (some (.Subscript o i pos')) pos.line X.env = pure false) : PS X (.Assign [.Subscript o i pos'] value pos) (sDPutQ td ty tv) := ps_dput hu ho hi hv hs
theorem k_dput {m : Dct κ α} {q : Addr} {v : V} {k0 : κ} {a : α} {R : Hp → Prop} (o : OwnD K H0 Z H q m) (h : Py.R K Z v a) (hs : m.kv.length < sizeLine) (k : ∀ u, OwnD K H0 Z (upd H q u) q (⟨dPut m.kv k0 a⟩ : Dct κ α) → R (upd H q u)) : rDPutQ v (.ref q) (Sc.emb k0) H R := by
  obtain ⟨⟨xs, hz, pr⟩, nz, n0⟩ := o
  exact ⟨q, _, rfl, by rw [← Kt.emb_is]; exact DPut.k hz (by rw [pr.pLen]; exact hs), k _ ⟨⟨_, upd_same, ent_put pr h⟩, nz, n0⟩⟩
theorem upd_self {H : Hp} {q : Addr} {u : HO} (h : H q = some u) : upd H q u = H := by
  funext b
  by_cases e : b = q
  · subst e; rw [upd_same, h]
  · rw [upd_ne e]
def rDSetQ (a : Addr) : V → V → Hp → VK → Prop := fun y z H Q => ∃ (kvs : List (Key × V)) (k : Key), H a = some (.dK kvs) ∧ y = kV k ∧ kvs.length < sizeLine ∧ (∀ v, valV kvs k = some v → Q v H) ∧ (valV kvs k = none → Q z (upd H a (.dK (putK kvs k z))))
def tDSetQ (td ty tx : TE) : TE := fun σ H Q => td σ H fun x H1 => rIsD x H1 fun a => ty σ H1 fun y H2 => tx σ H2 fun z H3 => rDSetQ a y z H3 Q
theorem pe_dsetQ {X : Cx} {o e f : Expr} {td ty tx : TE} {apos cpos : Pos} (ho : PE X o td) (he : PE X e ty) (hf : PE X f tx) (m : M2 X o "setdefault" apos e f cpos) : PE X (.Call (.Attribute o "setdefault" apos) [e, f] [] cpos) (tDSetQ td ty tx) := pe_dsetd ho he hf m
/-- d.setdefault(k, b): the dict behind it -/
def dSet (m : List (κ × α)) (k : κ) (b : α) : List (κ × α) := if k ∈ m.map (·.1) then m else dPut m k b
theorem k_dset {m : Dct κ α} {q : Addr} {z : V} {k0 : κ} {b : α} (o : OwnD K H0 Z H q m) (h : Py.R K Z z b) (hs : m.kv.length < sizeLine) (k : ∀ y u, Py.R K Z y ((dGet m.kv k0).getD b) → OwnD K H0 Z (upd H q u) q (⟨dSet m.kv k0 b⟩ : Dct κ α) → Q y (upd H q u)) : rDSetQ q (Sc.emb k0) z H Q := by
  have o2 := o
  obtain ⟨⟨xs, hz, pr⟩, nz, n0⟩ := o
  refine ⟨xs, Kt.key k0, hz, (Kt.emb_is k0).symm, by rw [pr.pLen]; exact hs, fun v hv => ?_, fun hv => ?_⟩
  · have e := upd_self hz
    rw [← e]
    rcases ent_get k0 pr with ⟨h1, h2⟩ | ⟨w, c, h1, h2, h3⟩
    · rw [h1] at hv; cases hv
    · rw [h1] at hv
      cases hv
      refine k _ _ (by rw [h2]; exact h3) ?_
      unfold dSet
      rw [if_pos (of_decide_eq_true (by rw [← dGet_isSome, h2]; rfl)), e]
      exact o2
  · rcases ent_get k0 pr with ⟨h1, h2⟩ | ⟨w, c, h1, h2, h3⟩
    · refine k _ _ (by rw [h2]; exact h) ⟨⟨_, upd_same, ?_⟩, nz, n0⟩
      unfold dSet
      rw [if_neg (fun hm => by have q := decide_eq_true hm; rw [← dGet_isSome, h2] at q; cases q)]
      exact ent_put pr h
    · rw [h1] at hv; cases hv
/-! len, copies, sorted -/
def rDLenQ : List V → Hp → VK → Prop := fun xs H Q => ∃ a kvs, xs = [V.ref a] ∧ H a = some (.dK kvs) ∧ Q (.int kvs.length) H
def rDCopyQ : List V → Hp → VK → Prop := fun xs H Q => ∃ (a : Addr) (kvs : List (Key × V)), xs = [.ref a] ∧ Rd H a (.dK kvs) ∧ ∀ p, H p = none → Q (.ref p) (upd H p (.dK kvs))
theorem tyD {q : Addr} {m : Dct κ α} (o : OwnD K H0 Z H q m) : IsD H q := let ⟨⟨xs, h, _⟩, _, _⟩ := o; .inl ⟨xs, .inl h⟩
theorem Pt.dct {v : V} {m : Dct κ α} (zh : Same Z H) (h : Py.R K Z v m) : Pt K H v "dict" := by
  obtain ⟨a, xs, rfl, hz, p⟩ := h
  exact .of (.base (.dK (zh _ _ hz)))
instance : PtT (Dct κ α) := ⟨"dict", fun zh h => Pt.dct zh h⟩
instance : Nn (Dct κ α) := ⟨fun h e => by obtain ⟨a, xs, e2, _⟩ := h; rw [e2] at e; cases e⟩
end
/-! sorted(d), keys whole numbers -/
section
variable {α : Type} [Py α] {K : Fr} {Z H Z0 H0 : Hp} {Q : VK}
def sortI (l : List Int) : List Int := l.mergeSort (fun a b => decide (a ≤ b))
theorem sortI_perm (l : List Int) : (sortI l).Perm l := List.mergeSort_perm l _
theorem sortI_srt (l : List Int) : (sortI l).Pairwise (· ≤ ·) := by
  have h := List.pairwise_mergeSort (le := fun a b : Int => decide (a ≤ b)) (fun a b c h1 h2 => by simp only [decide_eq_true_eq] at *; omega) (fun a b => by simp only [Bool.or_eq_true, decide_eq_true_eq]; omega) l
  exact h.imp fun h => of_decide_eq_true h
theorem sortI_len (l : List Int) : (sortI l).length = l.length := (sortI_perm l).length_eq
theorem sortI_mem {l : List Int} {x : Int} : x ∈ sortI l ↔ x ∈ l := (sortI_perm l).mem_iff
theorem sortI_uniq : ∀ {l m : List Int}, l.Perm m → l.Pairwise (· ≤ ·) → m.Pairwise (· ≤ ·) → l = m
  | [], m, h, _, _ => (List.nil_perm.mp h).symm ▸ rfl
  | a :: s, [], h, _, _ => absurd h.length_eq (by simp)
  | a :: s, b :: t, h, h1, h2 => by
    obtain ⟨p1, q1⟩ := List.pairwise_cons.mp h1
    obtain ⟨p2, q2⟩ := List.pairwise_cons.mp h2
    have ma : a ∈ b :: t := h.mem_iff.mp List.mem_cons_self
    have mb : b ∈ a :: s := h.mem_iff.mpr List.mem_cons_self
    have e : a = b := by
      rcases List.mem_cons.mp ma with e | ma
      · exact e
      · rcases List.mem_cons.mp mb with e | mb
        · exact e.symm
        · have x := p1 b mb
          have y := p2 a ma
          omega
    subst e
    rw [sortI_uniq h.cons_inv q1 q2]
def rSortDIQ : List V → Hp → VK → Prop := fun xs H Q => ∃ (a : Addr) (kvs : List (Key × V)) (ks : List Int), xs = [.ref a] ∧ Rd H a (.dK kvs) ∧ kvs.map (·.1) = ks.map Sum.inl ∧ ks.length < 64 ∧ ∀ (ys : List Int) (p : Addr), ys.Perm ks → ys.Pairwise (· ≤ ·) → H p = none → Q (.ref p) (upd H p (.lst (ys.map V.int)))
theorem call_sortDIQ {X : Cx} (hcalm : X.calm = true) : CallR X (.builtin "sorted") rSortDIQ := call_sortedDI hcalm
theorem k_sortDI {m : Dct Int α} {v : V} (zh : Same Z H) (h : RD K Z H v m) (hs : m.kv.length < 64) (k : New K Z H Q (sortI (m.kv.map (·.1)))) : rSortDIQ [v] H Q := by
  obtain ⟨a, kvs, rfl, hl, pr⟩ := h
  refine ⟨a, kvs, m.kv.map (·.1), rfl, hl, by rw [ent_keys pr, List.map_map]; rfl, by rw [List.length_map]; exact hs, fun ys p hp hq hn => ?_⟩
  obtain rfl := sortI_uniq (hp.trans (sortI_perm _).symm) hq (sortI_srt _)
  exact New.lay zh (paired_of (α := Int) _) k p hn
def rSortIQ (K : Fr) : List V → Hp → VK → Prop := fun vs H Q => ∃ (a : Addr) (ns : List Int), vs = [V.ref a] ∧ SqL K H a (ns.map V.int) ∧ ∀ (ns' : List Int) (p : Addr), ns'.Perm ns → ns'.Pairwise (· ≤ ·) → H p = none → Q (.ref p) (upd H p (.lst (ns'.map V.int)))
end
end Cd

set_option Elab.async false
set_option linter.all false
set_option maxRecDepth 100000
set_option maxHeartbeats 4000000
namespace Cd
open PySem L2 PyProof.Rows
/-! ### own lists and dicts lent to a call: what comes back holds no list and no dict -/
def BrO (Z : Hp) (p : Addr) : Prop := (∃ xs, Z p = some (.lst xs)) ∨ ∃ kvs, Z p = some (.dK kvs)
def delL (Z : Hp) (ps : List Addr) : Hp := fun q => if q ∈ ps then none else Z q
class NL (α : Type) [Py α] : Prop where
  back : ∀ {K : Fr} {Z : Hp} {v : V} {a : α} {ps : List Addr}, (∀ p ∈ ps, BrO Z p) → Py.R K Z v a → Py.R K (delL Z ps) v a
instance (priority := low) {α : Type} [Py α] [NoZ α] : NL α := ⟨fun _ h => NoZ.back h⟩
theorem delL_tup {Z : Hp} {ps : List Addr} {a : Addr} {xs : List V} (h : ∀ p ∈ ps, BrO Z p) (e : Z a = some (.tup xs)) : delL Z ps a = some (.tup xs) := by
  unfold delL
  rw [if_neg]
  · exact e
  · intro hm
    rcases h a hm with ⟨x, h⟩ | ⟨x, h⟩ <;> rw [h] at e <;> cases e
instance {α β : Type} [Py α] [Py β] [NL α] [NL β] : NL (α × β) := ⟨fun h r => by
  obtain ⟨a, x, y, e, hz, h1, h2⟩ := r
  exact ⟨a, x, y, e, delL_tup h hz, NL.back h h1, NL.back h h2⟩⟩
instance {α β γ : Type} [Py α] [Py β] [Py γ] [NL α] [NL β] [NL γ] : NL (T3 α β γ) := ⟨fun h r => by
  obtain ⟨a, x, y, z, e, hz, h1, h2, h3⟩ := r
  exact ⟨a, x, y, z, e, delL_tup h hz, NL.back h h1, NL.back h h2, NL.back h h3⟩⟩
instance {α β γ δ : Type} [Py α] [Py β] [Py γ] [Py δ] [NL α] [NL β] [NL γ] [NL δ] : NL (T4 α β γ δ) := ⟨fun h r => by
  obtain ⟨a, x, y, z, w, e, hz, h1, h2, h3, h4⟩ := r
  exact ⟨a, x, y, z, w, e, delL_tup h hz, NL.back h h1, NL.back h h2, NL.back h h3, NL.back h h4⟩⟩
instance {α β γ : Type} [Py α] [Py β] [Py γ] [NL α] [NL β] [NL γ] : NL (TO α β γ) := ⟨fun {K Z v p ps} h r => by
  obtain ⟨x1, x2, x3⟩ := p
  obtain ⟨a, x, y, e, h1, h2, h3⟩ := r
  refine ⟨a, x, y, e, NL.back h h1, NL.back h h2, ?_⟩
  cases x3 with
  | none => exact delL_tup h h3
  | some c =>
    obtain ⟨z, hz, h4⟩ := h3
    exact ⟨z, delL_tup h hz, NL.back h h4⟩⟩
instance {α : Type} [Py α] [NL α] : NL (Option α) := ⟨fun {K Z v a ps} h r => by
  cases a with
  | none => exact r
  | some a => exact NL.back (α := α) h r⟩
structure Brw (Z Zb : Hp) (ps : List Addr) : Prop where
  s : Same Z Zb
  zf : ∀ q, q ∉ ps → Zb q = Z q
  hl : ∀ p ∈ ps, BrO Zb p
  hz : ∀ p ∈ ps, Z p = none
theorem Brw.nil (Z : Hp) : Brw Z Z [] := ⟨Same.refl _, fun _ _ => rfl, (fun _ h => nomatch h), (fun _ h => nomatch h)⟩
section
variable {K : Fr} {Z Zb Zc H H0 Z2 H2 : Hp} {Q : VK} {ps : List Addr}
theorem BrO.mono {p : Addr} (s : Same Zb Zc) (h : BrO Zb p) : BrO Zc p := by
  rcases h with ⟨x, h⟩ | ⟨x, h⟩
  · exact .inl ⟨x, s _ _ h⟩
  · exact .inr ⟨x, s _ _ h⟩
theorem BrO.lst {α : Type} [Py α] {p : Addr} {m : List α} (h : Py.R K Zc (.ref p) m) : BrO Zc p := by
  obtain ⟨a, xs, e, hz, _⟩ := h
  cases e
  exact .inl ⟨xs, hz⟩
theorem BrO.dct {κ α : Type} [Sc κ] [DecidableEq κ] [Kt κ] [Py α] {p : Addr} {m : Dct κ α} (h : Py.R K Zc (.ref p) m) : BrO Zc p := by
  obtain ⟨a, xs, e, hz, _⟩ := h
  cases e
  exact .inr ⟨xs, hz⟩
theorem Brw.step (b : Brw Z Zb ps) (zh : Same Z H) (st : Step Zb H Z2 H2) : Step Z H (delL Z2 ps) H2 := by
  refine ⟨st.hh, fun q u e => ?_, fun q u e => ?_, fun q u e => ?_⟩
  · unfold delL
    rw [if_neg (fun hm => by rw [b.hz q hm] at e; cases e)]
    exact st.zz _ _ (b.s _ _ e)
  · unfold delL at e
    split at e
    · cases e
    · exact st.zh _ _ e
  · unfold delL
    by_cases hm : q ∈ ps
    · rw [if_pos hm, b.hz q hm]
    · rw [if_neg hm, st.fr q u e, b.zf q hm]
theorem Brw.after (b : Brw Z Zb ps) (st : Step Zb H Z2 H2) : Brw (delL Z2 ps) Z2 ps := by
  refine ⟨fun q u e => ?_, fun q hq => ?_, fun q hq => (b.hl q hq).mono st.zz, fun q hq => ?_⟩
  · unfold delL at e
    split at e
    · cases e
    · exact e
  · unfold delL
    rw [if_neg hq]
  · unfold delL
    rw [if_pos hq]
theorem Brw.fin (b : Brw Z Zb ps) (zh : Same Z H) (st : Step Zb H Z2 H2) : ∃ Z3, Step Z H Z3 H2 ∧ Brw Z3 Z2 ps := ⟨delL Z2 ps, b.step zh st, b.after st⟩
theorem Tel.brw {α : Type} [Py α] [NL α] {m : α} (b : Brw Z Zb ps) (zh : Same Z H) (k : Tel K Z H Q m) : Tel K Zb H Q m := fun v Z' H' st h =>
  k v _ H' (b.step zh st) (NL.back (fun p hp => (b.hl p hp).mono st.zz) h)
theorem New.brw {α : Type} [Py α] [NL α] {m : List α} (b : Brw Z Zb ps) (zh : Same Z H) (k : New K Z H Q m) : New K Zb H Q m := fun p xs Z' H' st hp hl hz pr =>
  k p xs _ H' (b.step zh st) hp hl (by unfold delL; split; rfl; exact hz) (Paired.pImp (fun _ _ r => NL.back (fun q hq => (b.hl q hq).mono st.zz) r) pr)
theorem NewD.brw {κ α : Type} [Sc κ] [DecidableEq κ] [Kt κ] [Py α] [NL α] {m : Dct κ α} (b : Brw Z Zb ps) (zh : Same Z H) (k : NewD K Z H Q m) : NewD K Zb H Q m := fun p xs Z' H' st hp hl hz pr =>
  k p xs _ H' (b.step zh st) hp hl (by unfold delL; split; rfl; exact hz) (Paired.pImp (fun _ _ r => ⟨r.1, NL.back (fun q hq => (b.hl q hq).mono st.zz) r.2⟩) pr)
end
end Cd

set_option Elab.async false
set_option linter.all false
set_option maxRecDepth 100000
set_option maxHeartbeats 4000000
namespace Cd
open PySem L2 PyProof.Rows
/-! ### sorted(..) of data of one shape, of any length -/
def leD {α : Type} [Py α] [DecidableEq α] [PyD α] : α → α → Bool := PySem.W.dataLe false PyD.d
def sortD {α : Type} [Py α] [DecidableEq α] [PyD α] (l : List α) : List α := l.mergeSort leD
/-- data of one shape that can be put in order -/
class SrtD (α : Type) [Py α] [DecidableEq α] [PyD α] : Prop where
  alike : ∀ a b : α, PySem.W.alike (PyD.d a) (PyD.d b) = true
  sortable : ∀ l : List α, PySem.W.Sortable (l.map PyD.d)
instance : SrtD Int := ⟨fun a b => by simp [PyD.d, PySem.W.alike], fun l => PySem.W.Sortable.others fun b => by simp [PyD.d]⟩
instance : SrtD Str := ⟨fun a b => by simp [PyD.d, PySem.W.alike], fun l => PySem.W.Sortable.others fun b => by simp [PyD.d]⟩
instance {α β : Type} [Py α] [DecidableEq α] [PyD α] [Py β] [DecidableEq β] [PyD β] [SrtD α] [SrtD β] : SrtD (α × β) := ⟨fun a b => by
  show PySem.W.alikeAll [PyD.d a.1, PyD.d a.2] [PyD.d b.1, PyD.d b.2] = true
  simp [PySem.W.alikeAll, SrtD.alike], fun l => PySem.W.Sortable.tuples fun b => ⟨_, _, rfl⟩⟩
instance {α β γ : Type} [Py α] [DecidableEq α] [PyD α] [Py β] [DecidableEq β] [PyD β] [Py γ] [DecidableEq γ] [PyD γ] [SrtD α] [SrtD β] [SrtD γ] : SrtD (T3 α β γ) := ⟨fun a b => by
  show PySem.W.alikeAll [PyD.d a.x1, PyD.d a.x2, PyD.d a.x3] [PyD.d b.x1, PyD.d b.x2, PyD.d b.x3] = true
  simp [PySem.W.alikeAll, SrtD.alike], fun l => PySem.W.Sortable.tuples fun b => ⟨_, _, rfl⟩⟩
def rSortDQ (K : Fr) (α : Type) [Py α] [DecidableEq α] [PyD α] : List V → Hp → VK → Prop := fun vs H Q => ∃ (a : Addr) (xs : List V) (l : List α), vs = [V.ref a] ∧ SqL K H a xs ∧ Paired (fun x b => Dp K H x (PyD.d b)) xs l ∧
  ∀ (zs : List (V × α)) (p : Addr), zs = (xs.zip l).mergeSort (PySem.W.dataLe false fun z => PyD.d z.2) → H p = none → Q (.ref p) (upd H p (.lst (zs.map (·.1))))
/-! the order in plain words -/
theorem leD_int (a b : Int) : leD a b = decide (a ≤ b) := by
  show (!PySem.W.dataLt (.int b) (.int a)) = _
  rw [PySem.W.dataLt_int, PySem.W.not_lt_int]
theorem leD_str (a b : Str) : leD a b = decide (a.cps.toList ≤ b.cps.toList) := by
  show (!PySem.W.dataLt (.str b) (.str a)) = _
  rw [PySem.W.dataLt_str, PySem.W.not_lt_str]
theorem leD_refl {α : Type} [Py α] [DecidableEq α] [PyD α] (a : α) : leD a a = true := by
  show (!PySem.W.dataLt (PyD.d a) (PyD.d a)) = true
  unfold PySem.W.dataLt
  rw [PyProof.Rows.lex_irrefl]
  rfl
theorem leD_pair {α β : Type} [Py α] [DecidableEq α] [PyD α] [Py β] [DecidableEq β] [PyD β] [SrtD α] [SrtD β] (p q : α × β) : leD p q = if p.1 = q.1 then leD p.2 q.2 else leD p.1 q.1 := by
  show (!PySem.W.dataLt (.tuple [PyD.d q.1, PyD.d q.2]) (.tuple [PyD.d p.1, PyD.d p.2])) = _
  rw [PySem.W.dataLt_pair (SrtD.alike _ _) (SrtD.alike _ _), PyD.eqv, PyD.eqv]
  by_cases h : q.1 = p.1
  · rw [if_pos (decide_eq_true h), if_pos h.symm]
    by_cases h2 : q.2 = p.2
    · rw [if_pos (decide_eq_true h2), h2, leD_refl]
      rfl
    · rw [if_neg (by simpa using h2)]
      rfl
  · rw [if_neg (by simpa using h), if_neg (fun e => h e.symm)]
    rfl
/-- a total order -/
class OrdD (α : Type) [Py α] [DecidableEq α] [PyD α] : Prop where
  tr : ∀ a b c : α, leD a b = true → leD b c = true → leD a c = true
  tot : ∀ a b : α, leD a b = true ∨ leD b a = true
  anti : ∀ a b : α, leD a b = true → leD b a = true → a = b
instance : OrdD Int := ⟨fun a b c h1 h2 => by rw [leD_int, decide_eq_true_eq] at *; omega, fun a b => by rw [leD_int, leD_int, decide_eq_true_eq, decide_eq_true_eq]; omega, fun a b h1 h2 => by rw [leD_int, decide_eq_true_eq] at *; omega⟩
instance : OrdD Str := ⟨fun a b c h1 h2 => by rw [leD_str, decide_eq_true_eq] at *; exact List.le_trans h1 h2, fun a b => by rw [leD_str, leD_str, decide_eq_true_eq, decide_eq_true_eq]; exact List.le_total _ _, fun a b h1 h2 => by
  rw [leD_str, decide_eq_true_eq] at *
  exact PySem.W.str_of_cps (List.le_antisymm h1 h2)⟩
instance {α β : Type} [Py α] [DecidableEq α] [PyD α] [Py β] [DecidableEq β] [PyD β] [SrtD α] [SrtD β] [OrdD α] [OrdD β] : OrdD (α × β) := ⟨fun a b c h1 h2 => by
  rw [leD_pair] at *
  by_cases q1 : a.1 = b.1
  · rw [if_pos q1] at h1
    by_cases q2 : b.1 = c.1
    · rw [if_pos q2] at h2
      rw [if_pos (q1.trans q2)]
      exact OrdD.tr _ _ _ h1 h2
    · rw [if_neg q2] at h2
      rw [if_neg (fun e => q2 (q1.symm.trans e)), q1]
      exact h2
  · rw [if_neg q1] at h1
    by_cases q2 : b.1 = c.1
    · rw [if_pos q2] at h2
      rw [if_neg (fun e => q1 (e.trans q2.symm)), ← q2]
      exact h1
    · rw [if_neg q2] at h2
      have h3 := OrdD.tr _ _ _ h1 h2
      rw [if_neg (fun e => q1 (OrdD.anti _ _ h1 (by rw [e]; exact h2)))]
      exact h3, fun a b => by
  rw [leD_pair, leD_pair]
  by_cases q : a.1 = b.1
  · rw [if_pos q, if_pos q.symm]
    exact OrdD.tot _ _
  · rw [if_neg q, if_neg (fun e => q e.symm)]
    exact OrdD.tot _ _, fun a b h1 h2 => by
  rw [leD_pair] at *
  by_cases q : a.1 = b.1
  · rw [if_pos q] at h1
    rw [if_pos q.symm] at h2
    exact Prod.ext q (OrdD.anti _ _ h1 h2)
  · rw [if_neg q] at h1
    rw [if_neg (fun e => q e.symm)] at h2
    exact absurd (OrdD.anti _ _ h1 h2) q⟩
end Cd

set_option Elab.async false
set_option linter.all false
set_option maxRecDepth 100000
set_option maxHeartbeats 4000000
namespace Cd
open PySem L2 PyProof.Rows
/-! ### methods of built-ins within a comprehension: K is given -/
theorem pe_bmK {X : Cx} {K : Fr} (eK : X.K = K) {T : String} {name : Str} {id : String} {r : V → List V → Hp → VK → Prop} {o e : Expr} {es : List Expr} {to : TE} {t : TA} {apos cpos : Pos} (pa : PlainAttrs T) (slot : Slot T name id) (hty : typeOf (.builtin id) = pure (.type "method_descriptor")) (hm : MtR X id r) (ho : PE X o to) (ha : PA X (e :: es) t)
    (hbase : attributeBase o name X.env (eval o X.env) = eval o X.env := by rfl)
    (hfew : ((backTo cpos (starEach (e :: es) X.env)).all (fun x => !x.1) && (backToKw cpos (keywordEach [] X.env)).all (fun x => x.1.isSome)
      && decide ((e :: es).length + ([] : List Keyword).length + (if ([] : List Keyword).isEmpty then 0 else 1) < 30)) = true := by rfl)
    (hline : (apos.endLine == cpos.line) = true := by rfl) (hs : starEach (e :: es) X.env = (false, eval e X.env) :: starEach es X.env := by rfl) (hplain : (backTo cpos (starEach es X.env)).any (·.1) = false := by rfl) :
    PE X (.Call (.Attribute o name apos) (e :: es) [] cpos) (tBM K T r to t) := by
  subst eK
  exact pe_bm pa slot hty hm ho ha hbase hfew hline hs hplain
end Cd

set_option Elab.async false
set_option linter.all false
set_option maxRecDepth 100000
set_option maxHeartbeats 4000000
namespace Cd
open PySem L2 PyProof.Rows
/-! ### refusals -/
inductive Er where
  | ShopError | NoCard | NoField | NoOrder (d p : Int) | NoBoard | Meet (a b : Int × Int) | NoAsking | NoTray | NoPlan | NoRow
deriving DecidableEq, Inhabited
structure CA where
  (ShopError NoCard NoField NoOrder NoBoard Meet NoAsking NoTray NoPlan NoRow : Addr)
def exB {α R : Type} (x : Except Er α) (f : Er → R) (g : α → R) : R := match x with
  | .error e => f e
  | .ok a => g a
def exV {α : Type} [Inhabited α] (x : Except Er α) : α := match x with
  | .error _ => default
  | .ok a => a
def exOk {α : Type} (x : Except Er α) : Bool := match x with
  | .error _ => false
  | .ok _ => true
theorem ok_of {α : Type} [Inhabited α] {x : Except Er α} (h : exOk x = true) : x = .ok (exV x) := by
  cases x with
  | error e => cases h
  | ok a => rfl
instance {S R : Type} [Inhabited R] : Inhabited (LR S R) := ⟨.ret default⟩
section
variable {X : Cx} {CX : CXT} {x : Str} {k : Nat} {ps : List Str} {sp : Sp} {E : XK} {t : TA} {e : Expr} {es : List Expr} {p pos : Pos}
/-- a call in a try -/
theorem pe_calS {E : L2.St → XK} (c : Cal X.prog X.w X.K X.mg X.base CX x k ps sp) (hr : Room k X.A) (hx : ∀ σ, PassesAt CX X σ (E σ)) (ha : PA X (e :: es) t) (hg : Gl X x := by rfl) (hdb : (x == ("__debug__" : Str)) = false := by decide)
    (he : starEach (e :: es) X.env = (false, eval e X.env) :: starEach es X.env := by rfl) (hpl : (backTo pos (starEach es X.env)).any (·.1) = false := by rfl) : PE X (.Call (.Name x p) (e :: es) [] pos) (tCallS sp E t) := by
  obtain ⟨f, fd, F, hm, hk, hb⟩ := c.ex
  exact pe_callS F hr hg hm hk hb hx ha hdb he hpl
end
/-! ### isinstance of the refusal that an except suite holds -/
def rIsEu (K : Fr) (cls : Value) (d : Option Addr) (a : Addr) : List V → Hp → VK → Prop := fun xs H Q => ∃ (D : Addr) (c : V) (cv : Value) (b : Bool), cls = .ref D ∧ d = none ∧ ExcC K D ∧ xs = [.ref a, c] ∧ (∀ u, RelV c u → u = cv) ∧ PySem.W.kitOne K (.ref D) cv = some b ∧ Q (.bl b) H
/-! ### a walk over signs that ends early -/
theorem codes_ljust (z : Str) (k : Int) : codes (Txt.ljust z k) = codes z ++ List.replicate (k.toNat - z.length) 32 := by
  unfold Txt.ljust
  by_cases h : k ≤ z.length
  · rw [if_pos h, show k.toNat - z.length = 0 by omega, List.replicate_zero, List.append_nil]
  · rw [if_neg h]
    unfold Builtin.Str.padded codes
    simp
/-! ### a raise within what is mirrored -/
end Cd

set_option Elab.async false
set_option linter.all false
set_option maxRecDepth 100000
set_option maxHeartbeats 4000000
namespace Cd
open PySem L2 PyProof.Rows
/-! ### defs that an except suite calls with the refusal that it holds -/
abbrev Pn := Addr × Obj
/-- such a def's promise: p is the refusal and its object -/
structure FnE (P : Program) (w : World) (K : Fr) (mg : Str → Option Value) (base : Heap) (k : Nat) (f : Addr) (fd : FuncData) (ps : List Str) (sp : Pn → Sp) : Prop where
  len : ∀ p vs H Q E, sp p vs H Q E → vs.length = ps.length
  run : ∀ (p : Pn) (A : Around) (out : List Env) (s : Shared) (H : Hp) (gs : Args) (us : List Value) (vs : List V) (Q : VK) (E : XK), sp p vs H Q E → Vals vs us → BindsTo s fd gs (ps.zip us) → L2H.RoomH k A → L2H.PinOk out H s p → Env0 P w K mg base A out s H →
    codeAny (model P w) A (.call (.ref f) gs) (CR CX0 out P w H s Q E) s
section
variable {P : Program} {w : World} {K : Fr} {mg : Str → Option Value} {base : Heap}
structure CalE (P : Program) (w : World) (K : Fr) (mg : Str → Option Value) (base : Heap) (x : Str) (k : Nat) (ps : List Str) (sp : Pn → Sp) : Prop where
  ex : ∃ f fd, FnE P w K mg base k f fd ps sp ∧ mg x = some (.ref f) ∧ PySem.W.keepIn K (.ref f) = true ∧ Binds K fd ps []
end
/-- what the refusal at a is: its class and its own dict -/
def Rf (cls : Value) (d : Option Addr) (a : Addr) (p : Pn) : Prop := p.1 = a ∧ Zc cls d p.2 ∧ ∃ vs, p.2.data = .fields vs
def tCallE (a : Addr) (cls : Value) (d : Option Addr) (sp : Pn → Sp) (t : TA) : TE := fun σ H Q => t σ H fun vs H1 => ∀ p, Rf cls d a p → sp p vs H1 Q E0
section
variable {X : Cx} {a : Addr} {oe : Obj} {cls : Value} {d : Option Addr} {pn : List Pn} {k : Nat} {x : Str} {ps : List Str} {sp : Pn → Sp} {e : Expr} {es : List Expr} {t : TA} {q pos : Pos}
end
end Cd

set_option Elab.async false
set_option linter.all false
set_option maxRecDepth 100000
set_option maxHeartbeats 4000000
namespace Cd
open PySem L2
/-! ### enumerate and zip over lists and texts alike -/
/-- an iterator at `it` that walks something of a length told by the heap -/
structure Dx (P : Program) (w : World) (K : Fr) (it : Addr) (fx : List Addr) (stt : Nat → Heap → Prop) (len : Hp → Nat → Prop) (yv : Nat → Hp → V → Prop) : Prop where
  obj : ∀ i h, stt i h → ∃ o, h.get? it = some o ∧ ∀ v, o.data ≠ .cell v
  keep : ∀ i h h', stt i h → (∀ o, h.get? it = some o → h'.get? it = some o) → stt i h'
  draw : ∀ (X : Cx), X.prog = P → X.w = w → X.K = K → X.calm = true → ∀ (i n : Nat) (pins : List (Addr × Obj)) (s : Shared) (σ : St) (H : Hp), Inv X pins σ H s → stt i s.heap → len H n →
    ∃ Pv St, Draws P w X.A.in1 it (it :: fx) n Pv St ∧ St i s.heap ∧ (∀ x, Pv i x → ∃ v, RelV v x ∧ yv i H v) ∧ ∀ j h, St j h → stt j h
theorem dx_text {P : Program} {w : World} {K : Fr} (it : Addr) (x : Str) (t : Tok) : Dx P w K it [] (fun i h => h.IsStrIter it (strIterType x) x t i) (fun _ n => n = x.cps.size) (fun i _ v => ∃ c, x.cps[i]? = some c ∧ v = .str ⟨#[c]⟩) where
  obj := fun i h ⟨o, e, c, d⟩ => ⟨o, e, fun v z => by rw [d] at z; cases z⟩
  keep := fun i h h' ⟨o, ho, r⟩ k => ⟨o, k o ho, r⟩
  draw := by
    intro X hP hw hK hc i n pins s σ H I st hn
    subst hP hw hK hn
    refine ⟨_, _, Draws.text (A := X.A.in1) (I.ok.hd hc) it x t, st, ?_, fun j h q => q⟩
    rintro v ⟨c, u, hc, rfl⟩
    exact ⟨.str ⟨#[c]⟩, ⟨u, rfl⟩, c, hc, rfl⟩
theorem dx_list {P : Program} {w : World} {K : Fr} (it a : Addr) : Dx P w K it [a] (fun i h => h.IsListIter it a i ∧ a ≠ it) (fun H n => ∃ xs, SqL K H a xs ∧ xs.length = n) (fun i H v => ∀ xs, SqL K H a xs → xs[i]? = some v) where
  obj := fun i h ⟨⟨o, e, c, d⟩, _⟩ => ⟨o, e, fun v z => by rw [d] at z; cases z⟩
  keep := fun i h h' ⟨st, ne⟩ k => ⟨st.at fun o e => k o e, ne⟩
  draw := by
    intro X hP hw hK hc i n pins s σ H I st hn
    subst hP hw hK
    obtain ⟨xs, hq, rfl⟩ := hn
    obtain ⟨its, rv, p, _⟩ := I.list hq
    have hl : its.toArray.size = xs.length := by have := rv.length; simp only [List.size_toArray]; omega
    refine ⟨_, _, hl ▸ Draws.list (A := X.A.in1) (I.ok.hd hc) it a st.2 its.toArray, ⟨st.1, p.isList⟩, ?_, fun j h q => ⟨q.1, st.2⟩⟩
    · intro v hv
      have hv2 : its[i]? = some v := by simpa using hv
      have hlt : i < its.length := (List.getElem?_eq_some_iff.mp hv2).1
      have hx : xs[i]? = some (xs[i]'(by have := rv.length; omega)) := List.getElem?_eq_getElem _
      obtain ⟨u, hu, ru⟩ := rv.get hx
      rw [hv2] at hu
      cases hu
      exact ⟨_, ru, fun ys hy => by rw [I.list_inj hy hq]; exact hx⟩
section
variable {P : Program} {w : World} {K : Fr} {elts : List Expr} {kk : Nat} {tpos : Pos}
/-- enumerate: counts from k -/
def Iteg (k : Int) (len : Hp → Nat → Prop) (yv : Nat → Hp → V → Prop) : It :=
  ⟨fun i H => ∃ n, len H n ∧ i < n, fun i H v H' => ∃ T x, v = .ref T ∧ H T = none ∧ H' = upd H T (.tup [.int (k + (i : Nat)), x]) ∧ yv i H x, fun i H => len H i⟩
/-- zip of two -/
def Itzg (len len2 : Hp → Nat → Prop) (yv yv2 : Nat → Hp → V → Prop) : It :=
  ⟨fun i H => ∃ n m, len H n ∧ len2 H m ∧ i < n ∧ i < m, fun i H v H' => ∃ T x y, v = .ref T ∧ H T = none ∧ H' = upd H T (.tup [x, y]) ∧ yv i H x ∧ yv2 i H y, fun i H => ∃ n m, len H n ∧ len2 H m ∧ i ≤ n ∧ i ≤ m ∧ (i = n ∨ i = m)⟩
structure Apt (z TI TO i1 i2 : Addr) (fx fx2 : List Addr) : Prop where
  a1 : TI ≠ z
  a2 : TO ≠ z
  a3 : TI ≠ TO
  a4 : TI ≠ i1
  a5 : TI ≠ i2
  a6 : z ≠ i1
  a7 : z ≠ i2
  a8 : TO ≠ i1
  a9 : TO ≠ i2
  b1 : i1 ≠ i2
  c1 : z ∉ fx
  c2 : TO ∉ fx
  c3 : i2 ∉ fx
  d1 : z ∉ fx2
  d2 : TO ∉ fx2
  d3 : i1 ∉ fx2
theorem Apt.sep {z TI TO i1 i2 : Addr} {fx fx2 : List Addr} (Q : Apt z TI TO i1 i2 fx fx2) : ZipSep2 z TI TO i1 i2 (i1 :: fx) (i2 :: fx2) :=
  have k : ∀ {a b : Addr} {l : List Addr}, a ≠ b → a ∉ l → a ∉ b :: l := fun h1 h2 q => (List.mem_cons.mp q).elim h1 h2
  ⟨Q.a1, Q.a2, Q.a3, Q.a4, List.mem_cons_self .., k Q.a6 Q.c1, k Q.a8 Q.c2, Q.a5, List.mem_cons_self .., k Q.a7 Q.d1, k Q.a9 Q.d2, k Q.b1 Q.d3, k (Ne.symm Q.b1) Q.c3⟩
theorem turn_zipG {z TI TO i1 i2 : Addr} {fx fx2 : List Addr} {stt stt2 : Nat → Heap → Prop} {len len2 : Hp → Nat → Prop} {yv yv2 : Nat → Hp → V → Prop} (Q : Apt z TI TO i1 i2 fx fx2) (D : Dx P w K i1 fx stt len yv) (D2 : Dx P w K i2 fx2 stt2 len2 yv2) :
    Turn P w K (.Tuple elts kk tpos) (Itzg len len2 yv yv2) [z, TI, TO, i1, i2] z (fun i h => IsZip h z TI TO .none ∧ IsTupOf2 h TI (.ref i1) (.ref i2) ∧ (∃ x y, IsTupOf2 h TO x y) ∧ stt i h ∧ stt2 i h) where
  mem := by simp
  obj := fun i h ⟨hz, hTI, ⟨x, y, hTO⟩, h1, h2⟩ c hc => by
    rcases (by simpa using hc : c = z ∨ c = TI ∨ c = TO ∨ c = i1 ∨ c = i2) with q | q | q | q | q
    · rw [q]; exact ⟨_, hz, fun v q => nomatch q⟩
    · rw [q]; exact ⟨_, hTI, fun v q => nomatch q⟩
    · rw [q]; exact ⟨_, hTO, fun v q => nomatch q⟩
    · rw [q]; exact D.obj i h h1
    · rw [q]; exact D2.obj i h h2
  keep := fun i h h' ⟨hz, hTI, ⟨x, y, hTO⟩, h1, h2⟩ k =>
    ⟨k z (by simp) _ hz, k TI (by simp) _ hTI, ⟨x, y, k TO (by simp) _ hTO⟩, D.keep i h h' h1 fun o q => k i1 (by simp) o q, D2.keep i h h' h2 fun o q => k i2 (by simp) o q⟩
  item := by
    intro X hP hw hK hc i pins s σ H E I hf ⟨hz, hTI, ⟨x0, y0, hTO⟩, h1, h2⟩ ⟨n, m, hn, hm, ln, lm⟩
    obtain ⟨Pv, St, Dr, s1, hv, hk⟩ := D.draw X hP hw hK hc i n pins s σ H I h1 hn
    obtain ⟨Pv2, St2, Dr2, s2, hv2, hk2⟩ := D2.draw X hP hw hK hc i m pins s σ H I h2 hm
    subst hP hw hK
    have S := Q.sep
    have hzl : z < s.heap.objs.size := Heap.lt_size hz
    refine wpAny_pyNext_zipD2_item S Dr Dr2 hz hTI hTO s1 s2 ln lm fun x y h' tk p1 p2 z' TO' g1 g2 hT hsz hk' => ?_
    obtain ⟨xv, rx, hy⟩ := hv x p1
    obtain ⟨yw, ry, hy2⟩ := hv2 y p2
    refine ⟨_, rfl, wpAny_letOwnedTupleGo_zip (s := { s with heap := h', toks := tk }) z' fun h3 z3 sb => ?_⟩
    have hT2 : h3.get? s.heap.objs.size = some { cls := .type "tuple", data := .seq #[x, y] } := (sb.2 _ (Nat.ne_of_gt hzl)).trans hT
    have new : ObjOk X.prog X.w (upd H s.heap.objs.size (.tup [xv, yw])) h3 s.heap.objs.size (.tup [xv, yw]) :=
      ⟨by show 2 ≤ sizeLine; decide, [x, y], .cons rx (.cons ry .nil), ⟨_, hT2, rfl, _, rfl⟩⟩
    have I1 : Inv X pins σ (upd H s.heap.objs.size (.tup [xv, yw])) { s with heap := h3, toks := tk } :=
      I.turnedNew (ch := [z, TI, TO, i1, i2]) (fun c o hb q => (sb.2 c (fun q' => hb (by simp [q']))).trans (hk' c o (fun q' => hb (by simp [q'])) (fun q' => hb (by simp [q'])) (fun q' => hb (by simp [q'])) (fun q' => hb (by simp [q'])) q)) hf (Nat.le_refl _) new
    refine ⟨.ref s.heap.objs.size, _, I1, rfl, ⟨_, xv, yw, rfl, I.hok.fresh (Nat.le_refl _), rfl, hy, hy2⟩, ⟨z3, ?_, ⟨x, y, ?_⟩, ?_, ?_⟩, fun c hcm => ?_⟩
    · exact (sb.2 _ Q.a1).trans (hk' _ _ Q.a1 Q.a3 Q.a4 Q.a5 hTI)
    · exact (sb.2 _ Q.a2).trans TO'
    · exact D.keep _ _ _ (hk _ _ g1) fun o q => (sb.2 _ (Ne.symm Q.a6)).trans q
    · exact D2.keep _ _ _ (hk2 _ _ g2) fun o q => (sb.2 _ (Ne.symm Q.a7)).trans q
    · have hlt : c < s.heap.objs.size := by
        rcases (by simpa using hcm : c = z ∨ c = TI ∨ c = TO ∨ c = i1 ∨ c = i2) with q | q | q | q | q
        · rw [q]; exact hzl
        · rw [q]; exact Heap.lt_size hTI
        · rw [q]; exact Heap.lt_size hTO
        · rw [q]; obtain ⟨_, e1, _⟩ := D.obj i _ h1; exact Heap.lt_size e1
        · rw [q]; obtain ⟨_, e2, _⟩ := D2.obj i _ h2; exact Heap.lt_size e2
      rw [upd_ne (Nat.ne_of_lt hlt)]
      exact (hf c hcm).1
  done := by
    intro X hP hw hK hc i pins s σ H E I hf ⟨hz, hTI, ⟨x0, y0, hTO⟩, h1, h2⟩ ⟨n, m, hn, hm, ln, lm, hor⟩
    obtain ⟨Pv, St, Dr, s1, hv, hk⟩ := D.draw X hP hw hK hc i n pins s σ H I h1 hn
    obtain ⟨Pv2, St2, Dr2, s2, hv2, hk2⟩ := D2.draw X hP hw hK hc i m pins s σ H I h2 hm
    subst hP hw hK
    have S := Q.sep
    exact wpAny_pyNext_zipD2_end S Dr Dr2 hz hTI hTO s1 s2 ln lm hor fun h' tk hk' => ⟨rfl, I.turnedL (t' := tk) (ch := [z, TI, TO, i1, i2]) (fun c o hb q =>
      hk' c o (fun q' => hb (by simp [q'])) (fun q' => hb (by simp [q'])) (fun q' => hb (by simp [q'])) (fun q' => hb (by simp [q'])) q) hf⟩
  self := fun A i s Q E st h => wpAny_pyIter_zip st.1 h
end
section
variable {X : Cx} {elts : List Expr} {kk : Nat} {tpos : Pos}
/-- enumerate(text) -/
def iEnS (ta : TA) : TI := fun σ H R => ta σ H fun vs H1 => ∃ x, vs = [.str x] ∧ R (Iteg 0 (fun _ n => n = x.cps.size) (fun i _ v => ∃ c, x.cps[i]? = some c ∧ v = .str ⟨#[c]⟩)) H1
/-- zip(list, text) -/
def iZiS (K : Fr) (ta : TA) : TI := fun σ H R => ta σ H fun vs H1 => ∃ a x xs, vs = [.ref a, .str x] ∧ SqL K H1 a xs ∧
  R (Itzg (fun H n => ∃ xs, SqL K H a xs ∧ xs.length = n) (fun _ n => n = x.cps.size) (fun i H v => ∀ xs, SqL K H a xs → xs[i]? = some v) (fun i _ v => ∃ c, x.cps[i]? = some c ∧ v = .str ⟨#[c]⟩)) H1
theorem apt_new {n a : Nat} (h : a < n) : Apt (n + 4) (n + 2) (n + 3) n (n + 1) [a] [] := by
  have k : ∀ j : Nat, (n + j : Nat) ∉ ([a] : List Addr) := fun j q => by
    have e : (n + j : Nat) = a := by simpa using q
    omega
  refine ⟨?_, ?_, ?_, ?_, ?_, ?_, ?_, ?_, ?_, ?_, k 4, k 3, k 1, by simp, by simp, by simp⟩ <;> (intro q; have e : (_ : Nat) = _ := q; omega)
theorem pi_ziS {e e2 : Expr} {ta : TA} {p pos : Pos} (hg : Gl X "zip") (hm : X.mg "zip" = none) (ha : PA X [e, e2] ta)
    (hs : starEach [e, e2] X.env = (false, eval e X.env) :: starEach [e2] X.env := by rfl) (hpl : (backTo pos (starEach [e2] X.env)).any (·.1) = false := by rfl) :
    PI X (.Tuple elts kk tpos) (.Call (.Name "zip" p) [e, e2] [] pos) (iZiS X.K ta) := by
  refine ⟨fun pins s σ H R I h => ?_⟩
  refine PyProof.Rows.Call_ (ld_blt I hg hm PyProof.Rows.boot_zip (PyProof.Rows.callWith_type1 (thn (ha.run pos pins s σ H _ I h) fun us s1 ⟨vs, H1, I1, r1, q1⟩ => ?_) hs hpl))
  obtain ⟨a, x, xs, ex, hq, q⟩ := q1
  subst ex
  cases r1 with
  | cons r rr =>
    cases rr with
    | cons r' rr =>
      cases rr
      cases r
      obtain ⟨t, rfl⟩ := r'
      obtain ⟨its, rv, p1, _⟩ := I1.list hq
      have la : a < s1.heap.objs.size := p1.lt
      refine zip_begins2 (begins_list a its.toArray) (begins_text x t) p1.isList trivial fun h' hz hTI hTO g1 g2 hsz hk => wpAny_pyIter_zip hz ?_
      have I2 : Inv X pins σ H1 { s1 with heap := h' } := I1.kept (t' := s1.toks) hk
      refine ⟨s1.heap.objs.size + 4, [s1.heap.objs.size + 4, s1.heap.objs.size + 2, s1.heap.objs.size + 3, s1.heap.objs.size, s1.heap.objs.size + 1], _, _, H1, rfl, I2,
        turn_zipG (apt_new la) (dx_list s1.heap.objs.size a) (dx_text (s1.heap.objs.size + 1) x t), ⟨hz, hTI, ⟨_, _, hTO⟩, ⟨⟨_, g1, rfl, rfl⟩, Nat.ne_of_lt la⟩, ⟨_, g2, rfl, rfl⟩⟩, fun c hcm => ?_, q⟩
      have hle : s1.heap.objs.size ≤ c := by
        rcases (by simpa using hcm : c = s1.heap.objs.size + 4 ∨ c = s1.heap.objs.size + 2 ∨ c = s1.heap.objs.size + 3 ∨ c = s1.heap.objs.size ∨ c = s1.heap.objs.size + 1) with z | z | z | z | z
        · rw [z]; exact Nat.le_add_right _ _
        · rw [z]; exact Nat.le_add_right _ _
        · rw [z]; exact Nat.le_add_right _ _
        · rw [z]; exact Nat.le_refl _
        · rw [z]; exact Nat.le_add_right _ _
      exact I1.fpOk hle (I1.hok.fresh hle)
end
/-! ### their sources -/
section
variable {K : Fr} {Z : Hp}
theorem src_ziS {α : Type} [Py α] {a : Addr} {xs : List V} {l : List α} (z : Str) (hz : Z a = some (.lst xs)) (p : Paired (Py.R K Z) xs l) :
    Src (Itzg (fun H n => ∃ xs, SqL K H a xs ∧ xs.length = n) (fun _ n => n = z.cps.size) (fun i H v => ∀ xs, SqL K H a xs → xs[i]? = some v) (fun i _ v => ∃ c, z.cps[i]? = some c ∧ v = .str ⟨#[c]⟩)) Z (l.zip (chars z)) (YP (Py.R K Z) (fun u (t : Str) => u = V.str t)) := by
  have hat : ∀ (i : Nat) (q : α × Str), (l.zip (chars z))[i]? = some q → l[i]? = some q.1 ∧ (chars z)[i]? = some q.2 := fun i q h => List.getElem?_zip_eq_some.mp h
  refine ⟨fun i q H' e s => ?_, fun i q H' x H2 e s y => ?_, fun H' s => ?_⟩
  · obtain ⟨e1, e2⟩ := hat _ _ e
    have h1 := (List.getElem?_eq_some_iff.mp e1).1
    have h2 := (List.getElem?_eq_some_iff.mp e2).1
    rw [chars_len] at h2
    exact ⟨_, _, ⟨xs, SqL.of (s _ _ hz), rfl⟩, rfl, by rw [p.pLen]; exact h1, h2⟩
  · obtain ⟨T, u, v, rfl, hT, rfl, hu, c, hc, rfl⟩ := y
    obtain ⟨e1, e2⟩ := hat _ _ e
    obtain ⟨x', h1, h2⟩ := p.pAt e1
    have h3 := hu xs (SqL.of (s _ _ hz))
    rw [h1] at h3
    cases h3
    unfold chars at e2
    rw [List.getElem?_map] at e2
    have h4 : z.cps.toList[i]? = some c := by rw [← hc]; simp
    rw [h4] at e2
    have e3 : (⟨#[c]⟩ : Str) = q.2 := Option.some.inj e2
    exact ⟨T, _, _, rfl, hT, rfl, h2, by rw [e3]⟩
  · refine ⟨_, _, ⟨xs, SqL.of (s _ _ hz), rfl⟩, rfl, ?_⟩
    rw [List.length_zip, p.pLen, chars_len]
    omega
end
end Cd

set_option Elab.async false
set_option linter.all false
set_option maxRecDepth 100000
set_option maxHeartbeats 4000000
namespace Cd
open PySem L2 PyProof.Rows
/-! ### a < b < c < d -/
def tCh3 (r1 r2 r3 : R2) (ta tb tc td : TE) : TE := fun σ H Q => ta σ H fun x H1 => tb σ H1 fun y H2 => r1 x y H2 fun z H3 => ∃ k, z = .bl k ∧
  (if k = true then (tc σ H3 fun w H4 => r2 y w H4 fun z2 H5 => ∃ k2, z2 = .bl k2 ∧ (if k2 = true then (td σ H5 fun w2 H6 => r3 w w2 H6 Q) else Q (.bl false) H5)) else Q (.bl false) H3)
theorem pe_ch3 {X : Cx} {a b c d : Expr} {pos : Pos} {ta tb tc td : TE} {o1 o2 o3 : CmpOp} {r1 r2 r3 : R2} (h1 : OpR X (compareOp o1) r1) (h2 : OpR X (compareOp o2) r2) (h3 : OpR X (compareOp o3) r3)
    (ha : PE X a ta) (hb : PE X b tb) (hc : PE X c tc) (hd : PE X d td) (hm : lastMarks [o1, o2, o3] [b, c, d] = false := by with_unfolding_all rfl) : PE X (.Compare a [o1, o2, o3] [b, c, d] pos) (tCh3 r1 r2 r3 ta tb tc td) := by
  refine ⟨fun pp s σ H Q I hw => ?_⟩
  refine Compare_chain (thn (ha.run pp s σ H _ I hw) fun va sa ⟨xa, Ha, Ia, ra, qa⟩ => chain_link (thn (hb.run pp sa σ Ha _ Ia qa) fun vb sb ⟨xb, Hb, Ib, rb, qb⟩ =>
    thn (h1 pp sb σ Hb xa xb va vb _ Ib ra rb qb) fun e s2 ⟨ze, He, Ie, re, ke, ee, qe⟩ => ?_)) hm
  subst ee
  cases re
  refine wpAny_truthy_bool ?_
  cases ke with
  | false => exact ite_ff ⟨.bl false, He, Ie, rfl, qe⟩
  | true =>
    refine ite_tt (chain_link (thn (hc.run pp s2 σ He _ Ie qe) fun vc sc ⟨xc, Hc, Ic, rc, qc⟩ => thn (h2 pp sc σ Hc xb xc vb vc _ Ic rb rc qc) fun f s3 ⟨zf, Hf, If, rf, kf, ef, qf⟩ => ?_))
    subst ef
    cases rf
    refine wpAny_truthy_bool ?_
    cases kf with
    | false => exact ite_ff ⟨.bl false, Hf, If, rfl, qf⟩
    | true => exact ite_tt (chain_last (thn (hd.run pp s3 σ Hf _ If qf) fun vd sd ⟨xd, Hd, Id, rd, qd⟩ => h3 pp sd σ Hd xc xd vc vd Q Id rc rd qd))
end Cd
namespace Cd
open PySem L2
/-! ### list(range(..)) -/
theorem rg_ok {a b : Int} (h1 : -1000000 ≤ a) (h2 : a ≤ 1000000) (h3 : -1000000 ≤ b) (h4 : b ≤ 1000000) : RgOk a b := ⟨by omega, by omega, by omega, by omega, by omega⟩
theorem prd_sc {K : Fr} {Z : Hp} : ∀ (l : List Int), Paired (Py.R K Z) (l.map V.int) l
  | [] => .nil
  | x :: r => .cons rfl (prd_sc r)
theorem rgV_rangeL (a b : Int) : rgV a b = (rangeL a (b - a).toNat).map V.int := by
  unfold rgV rangeL
  rw [List.map_map]
  rfl
theorem k_listRg {K : Fr} {Z H : Hp} {Q : VK} {a b : Int} (zh : Same Z H) (ok : RgOk a b) (k : New K Z H Q (rangeL a (b - a).toNat)) : RgOk a b ∧ ∀ q, H q = none → Q (.ref q) (upd H q (.lst (rgV a b))) := by
  refine ⟨ok, ?_⟩
  rw [rgV_rangeL]
  refine (k_list zh (prd_sc _) ?_ k).2
  have h5 : (b - a).toNat ≤ 2 ^ 24 := ok.2.2.2.2
  have h6 : sizeLine = 2 ^ 27 ∨ 2 ^ 24 ≤ sizeLine := by right; decide
  rw [List.length_map, rangeL_len]
  rcases h6 with h | h
  · rw [h]; omega
  · omega
end Cd
namespace Cd
open PySem L2
/-! ### len of a tuple -/
section
variable {K : Fr} {Z H : Hp} {Q : VK} {v : V}
end
end Cd
namespace Cd
open PySem L2
end Cd
namespace Cd
open PySem L2
section
variable {ta tb tc td : TE} {σ : L2.St} {H : Hp} {Q : VK} {i j k l : Int} {p1 p2 p3 : Int → Int → Bool}
abbrev rC (p : Int → Int → Bool) : R2 := rI0 fun i j => .bl (p i j)
theorem k_ch2 (ha : ∀ Q : VK, Q (.int i) H → ta σ H Q) (hb : ∀ Q : VK, Q (.int j) H → tb σ H Q) (hc : ∀ Q : VK, Q (.int k) H → tc σ H Q) (kk : Q (.bl (p1 i j && p2 j k)) H) : tChain (rC p1) (rC p2) ta tb tc σ H Q := by
  refine ha _ (hb _ ⟨i, j, rfl, rfl, _, rfl, ?_⟩)
  cases e : p1 i j with
  | false =>
    rw [e] at kk
    rw [if_neg Bool.false_ne_true]
    exact kk
  | true =>
    rw [e] at kk
    rw [if_pos rfl]
    exact hc _ ⟨j, k, rfl, rfl, kk⟩
theorem k_ch3 (ha : ∀ Q : VK, Q (.int i) H → ta σ H Q) (hb : ∀ Q : VK, Q (.int j) H → tb σ H Q) (hc : ∀ Q : VK, Q (.int k) H → tc σ H Q) (hd : ∀ Q : VK, Q (.int l) H → td σ H Q) (kk : Q (.bl (p1 i j && (p2 j k && p3 k l))) H) :
    tCh3 (rC p1) (rC p2) (rC p3) ta tb tc td σ H Q := by
  refine ha _ (hb _ ⟨i, j, rfl, rfl, _, rfl, ?_⟩)
  cases e : p1 i j with
  | false =>
    rw [e] at kk
    rw [if_neg Bool.false_ne_true]
    exact kk
  | true =>
    rw [e] at kk
    rw [if_pos rfl]
    refine hc _ ⟨j, k, rfl, rfl, _, rfl, ?_⟩
    cases e2 : p2 j k with
    | false =>
      rw [e2] at kk
      rw [if_neg Bool.false_ne_true]
      exact kk
    | true =>
      rw [e2] at kk
      rw [if_pos rfl]
      exact hd _ ⟨k, l, rfl, rfl, kk⟩
end
end Cd

set_option Elab.async false
set_option linter.all false
set_option maxRecDepth 100000
set_option maxHeartbeats 4000000
namespace Cd
open PySem L2
/-! ### partition and split -/
def partS (z d : Str) : T3 Str Str Str := ⟨(Txt.partition z d).1, (Txt.partition z d).2.1, (Txt.partition z d).2.2⟩
def rPartQ : V → List V → Hp → VK → Prop := fun x xs H Q => ∃ a b, x = .str a ∧ xs = [.str b] ∧ (b.length == 0) = false ∧ a.length ≤ sizeLine ∧
    ∀ p, H p = none → Q (.ref p) (upd H p (.tup [.str (Txt.partition a b).1, .str (Txt.partition a b).2.1, .str (Txt.partition a b).2.2]))
def rSplitQ : V → List V → Hp → VK → Prop := fun x xs H Q => ∃ a b, x = .str a ∧ xs = [.str b] ∧ (b.length == 0) = false ∧ a.length + 2 ≤ sizeLine ∧ rNewStrs (Txt.split a b) H Q
section
variable {X : Cx}
end
section
variable {K : Fr} {Z H : Hp} {Q : VK}
end
/-! ### their laws, for a separator of one sign -/
def tilC (c : Nat) : List Nat → List Nat
  | [] => []
  | x :: r => if x = c then [] else x :: tilC c r
def pastC (c : Nat) : List Nat → List Nat
  | [] => []
  | x :: r => if x = c then r else pastC c r
def splC (c : Nat) : List Nat → List (List Nat)
  | [] => [[]]
  | x :: r => if x = c then [] :: splC c r else match splC c r with
    | h :: t => (x :: h) :: t
    | [] => [[x]]
end Cd
namespace Cd
open PySem L2
end Cd

set_option Elab.async false
set_option linter.all false
set_option maxRecDepth 100000
set_option maxHeartbeats 4000000
namespace Cd
open PySem L2 PyProof.Rows
/-! ### for q in xs: q.append(b), xs a list of lists of one's own -/
theorem Own.keep {α : Type} [Py α] {K : Fr} {H0 Z H H' : Hp} {q : Addr} {l : List α} (o : Own K H0 Z H q l) (h : H' q = H q) : Own K H0 Z H' q l := by
  obtain ⟨⟨xs, h1, p⟩, nz, n0⟩ := o
  exact ⟨⟨xs, h.trans h1, p⟩, nz, n0⟩
theorem pairKeep {α : Type} [Py α] {K : Fr} {Z H H' : Hp} : ∀ {ps : List Addr} {m : List (List α)}, (∀ a ∈ ps, H' a = H a) → Paired (fun a l => ∃ xs, H a = some (.lst xs) ∧ Paired (Py.R K Z) xs l) ps m → Paired (fun a l => ∃ xs, H' a = some (.lst xs) ∧ Paired (Py.R K Z) xs l) ps m
  | _, _, _, .nil => .nil
  | _, _, h, .cons ⟨xs, h1, h2⟩ t => .cons ⟨xs, (h _ List.mem_cons_self).trans h1, h2⟩ (pairKeep (fun a ha => h a (List.mem_cons_of_mem _ ha)) t)
theorem OwnN.keep {α : Type} [Py α] {K : Fr} {H0 Z H H' : Hp} {p : Addr} {ps : List Addr} {m : List (List α)} (o : OwnN K H0 Z H p ps m) (h : ∀ a ∈ p :: ps, H' a = H a) : OwnN K H0 Z H' p ps m :=
  ⟨(h p List.mem_cons_self).trans o.top, pairKeep (fun a ha => h a (List.mem_cons_of_mem _ ha)) o.inn, o.nd, o.nz, o.n0⟩
section
variable {K : Fr} {tb : TS} {D : Ends} {σ : L2.St} {H Z H0 : Hp}
end
end Cd

set_option Elab.async false
set_option linter.all false
set_option maxRecDepth 100000
set_option maxHeartbeats 4000000
namespace Cd
open PySem L2 PyProof.Rows
/-! ### xs[i] += v -/
def rGetL (K : Fr) : V → V → Hp → VK → Prop := fun o i H Q => ∃ p xs k v, o = .ref p ∧ i = .int k ∧ SqL K H p xs ∧ 0 ≤ k ∧ k < 2 ^ 63 ∧ xs[k.toNat]? = some v ∧ Q v H
/-- xs[i][j], xs a list of lists of one's own -/
theorem OwnN.el {α : Type} [Py α] {K : Fr} {Z H H0 : Hp} {p : Addr} {ps : List Addr} {m : List (List α)} {i : Int} (o : OwnN K H0 Z H p ps m) (hi : inR m.length i) : ∃ a, atI (ps.map V.ref) i = some (.ref a) ∧ Own K H0 Z H a (getI m i) := by
  obtain ⟨a, _, h, oa, _⟩ := o.at hi
  exact ⟨a, h, oa⟩
end Cd
namespace Cd
open PySem L2
end Cd
namespace Cd
open PySem L2
theorem NewN.brw {α : Type} [Py α] [NL α] {K : Fr} {Z Zb H : Hp} {Q : VK} {ps : List Addr} {m : List (List α)} (b : Brw Z Zb ps) (zh : Same Z H) (k : NewN K Z H Q m) : NewN K Zb H Q m := fun p qs Z' H' st hn o =>
  k p qs _ H' (b.step zh st) hn ⟨o.top, Paired.pImp (fun a l ⟨xs, h, pr⟩ => ⟨xs, h, Paired.pImp (fun _ _ r => NL.back (fun q hq => (b.hl q hq).mono st.zz) r) pr⟩) o.inn, o.nd, fun a ha => by unfold delL; split; rfl; exact o.nz a ha, o.n0⟩
end Cd

set_option Elab.async false
set_option linter.all false
set_option maxRecDepth 100000
set_option maxHeartbeats 4000000
namespace Cd
open PySem L2
/-! ### shapes: what stands at a value, with all that is one's own below it -/
structure Sh (α : Type) where
  R : Fr → Hp → Hp → V → List Addr → α → Prop
  keep : ∀ {K : Fr} {Z Z' H H' : Hp} {v : V} {ps : List Addr} {a : α}, Same Z Z' → (∀ q ∈ ps, H' q = H q) → R K Z H v ps a → R K Z' H' v ps a
  stands : ∀ {K : Fr} {Z H : Hp} {v : V} {ps : List Addr} {a : α}, R K Z H v ps a → ∀ q ∈ ps, ∃ u, H q = some u
/-- the same of a row of values -/
structure ShL (β : Type) where
  R : Fr → Hp → Hp → List V → List Addr → β → Prop
  keep : ∀ {K : Fr} {Z Z' H H' : Hp} {vs : List V} {ps : List Addr} {a : β}, Same Z Z' → (∀ q ∈ ps, H' q = H q) → R K Z H vs ps a → R K Z' H' vs ps a
  stands : ∀ {K : Fr} {Z H : Hp} {vs : List V} {ps : List Addr} {a : β}, R K Z H vs ps a → ∀ q ∈ ps, ∃ u, H q = some u
/-- told data, or a scalar -/
def Sh.told {α : Type} [Py α] : Sh α where
  R := fun K Z _ v ps a => ps = [] ∧ Py.R K Z v a
  keep := fun s _ ⟨e, h⟩ => ⟨e, Py.mono s h⟩
  stands := fun ⟨e, _⟩ q hq => by rw [e] at hq; cases hq
/-- None, or a thing -/
def ShL.nil : ShL Unit where
  R := fun _ _ _ vs ps _ => vs = [] ∧ ps = []
  keep := fun _ _ h => h
  stands := fun ⟨_, e⟩ q hq => by rw [e] at hq; cases hq
def ShL.cons {α β : Type} (S : Sh α) (T : ShL β) : ShL (α × β) where
  R := fun K Z H vs ps p => ∃ v ws qs rs, vs = v :: ws ∧ ps = qs ++ rs ∧ S.R K Z H v qs p.1 ∧ T.R K Z H ws rs p.2
  keep := fun s h ⟨v, ws, qs, rs, e1, e2, h1, h2⟩ => ⟨v, ws, qs, rs, e1, e2, S.keep s (fun q hq => h q (by rw [e2]; exact List.mem_append_left _ hq)) h1, T.keep s (fun q hq => h q (by rw [e2]; exact List.mem_append_right _ hq)) h2⟩
  stands := fun ⟨v, ws, qs, rs, e1, e2, h1, h2⟩ q hq => by
    rw [e2] at hq
    exact (List.mem_append.mp hq).elim (S.stands h1 q) (T.stands h2 q)
def allR {α : Type} (S : Sh α) (K : Fr) (Z H : Hp) : List V → List Addr → List α → Prop
  | vs, ps, [] => vs = [] ∧ ps = []
  | vs, ps, a :: r => ∃ v ws qs rs, vs = v :: ws ∧ ps = qs ++ rs ∧ S.R K Z H v qs a ∧ allR S K Z H ws rs r
theorem allR_keep {α : Type} {S : Sh α} {K : Fr} {Z Z' H H' : Hp} (s : Same Z Z') : ∀ {l : List α} {vs : List V} {ps : List Addr}, (∀ q ∈ ps, H' q = H q) → allR S K Z H vs ps l → allR S K Z' H' vs ps l
  | [], _, _, _, h => h
  | a :: r, _, _, h, ⟨v, ws, qs, rs, e1, e2, h1, h2⟩ => ⟨v, ws, qs, rs, e1, e2, S.keep s (fun q hq => h q (by rw [e2]; exact List.mem_append_left _ hq)) h1, allR_keep s (fun q hq => h q (by rw [e2]; exact List.mem_append_right _ hq)) h2⟩
theorem allR_stands {α : Type} {S : Sh α} {K : Fr} {Z H : Hp} : ∀ {l : List α} {vs : List V} {ps : List Addr}, allR S K Z H vs ps l → ∀ q ∈ ps, ∃ u, H q = some u
  | [], _, _, ⟨_, e⟩, q, hq => by rw [e] at hq; cases hq
  | a :: r, _, _, ⟨v, ws, qs, rs, e1, e2, h1, h2⟩, q, hq => by
    rw [e2] at hq
    exact (List.mem_append.mp hq).elim (S.stands h1 q) (allR_stands h2 q)
theorem allR_len {α : Type} {S : Sh α} {K : Fr} {Z H : Hp} : ∀ {l : List α} {vs : List V} {ps : List Addr}, allR S K Z H vs ps l → vs.length = l.length
  | [], _, _, ⟨e, _⟩ => by rw [e]; rfl
  | a :: r, _, _, ⟨v, ws, qs, rs, e1, e2, h1, h2⟩ => by rw [e1, List.length_cons, List.length_cons, allR_len h2]
/-- any number of things of one kind -/
def ShL.all {α : Type} (S : Sh α) : ShL (List α) where
  R := allR S
  keep := fun s h r => allR_keep s h r
  stands := allR_stands
def Sh.lst {β : Type} (T : ShL β) : Sh β where
  R := fun K Z H v ps b => ∃ p xs qs, v = .ref p ∧ ps = p :: qs ∧ H p = some (.lst xs) ∧ T.R K Z H xs qs b
  keep := fun s h ⟨p, xs, qs, e1, e2, h1, h2⟩ => ⟨p, xs, qs, e1, e2, (h p (by rw [e2]; exact List.mem_cons_self)).trans h1, T.keep s (fun q hq => h q (by rw [e2]; exact List.mem_cons_of_mem _ hq)) h2⟩
  stands := fun ⟨p, xs, qs, e1, e2, h1, h2⟩ q hq => by
    rw [e2] at hq
    rcases List.mem_cons.mp hq with rfl | hq
    · exact ⟨_, h1⟩
    · exact T.stands h2 q hq
def Sh.tup {β : Type} (T : ShL β) : Sh β where
  R := fun K Z H v ps b => ∃ p xs qs, v = .ref p ∧ ps = p :: qs ∧ H p = some (.tup xs) ∧ T.R K Z H xs qs b
  keep := fun s h ⟨p, xs, qs, e1, e2, h1, h2⟩ => ⟨p, xs, qs, e1, e2, (h p (by rw [e2]; exact List.mem_cons_self)).trans h1, T.keep s (fun q hq => h q (by rw [e2]; exact List.mem_cons_of_mem _ hq)) h2⟩
  stands := fun ⟨p, xs, qs, e1, e2, h1, h2⟩ q hq => by
    rw [e2] at hq
    rcases List.mem_cons.mp hq with rfl | hq
    · exact ⟨_, h1⟩
    · exact T.stands h2 q hq
/-- an instance of the class at C: its attributes in their order -/
def Sh.ins {β : Type} (C : Addr) (ns : List Str) (T : ShL β) : Sh β where
  R := fun K Z H v ps b => ∃ p dx xs qs, v = .ref p ∧ ps = p :: dx :: qs ∧ H p = some (.ins C dx (ns.zip xs)) ∧ H dx = some (.own p) ∧ xs.length = ns.length ∧ T.R K Z H xs qs b
  keep := fun s h ⟨p, dx, xs, qs, e1, e2, h1, h2, hl, h3⟩ => ⟨p, dx, xs, qs, e1, e2, (h p (by rw [e2]; exact List.mem_cons_self)).trans h1, (h dx (by rw [e2]; exact List.mem_cons_of_mem _ List.mem_cons_self)).trans h2, hl,
    T.keep s (fun q hq => h q (by rw [e2]; exact List.mem_cons_of_mem _ (List.mem_cons_of_mem _ hq))) h3⟩
  stands := fun ⟨p, dx, xs, qs, e1, e2, h1, h2, hl, h3⟩ q hq => by
    rw [e2] at hq
    rcases List.mem_cons.mp hq with rfl | hq
    · exact ⟨_, h1⟩
    · rcases List.mem_cons.mp hq with rfl | hq
      · exact ⟨_, h2⟩
      · exact T.stands h3 q hq
/-- the same, seen as another type -/
def Sh.via {α β : Type} (S : Sh β) (f : α → β) : Sh α where
  R := fun K Z H v ps a => S.R K Z H v ps (f a)
  keep := fun s h r => S.keep s h r
  stands := fun r => S.stands r
/-! ### owned -/
structure OwnO {α : Type} (S : Sh α) (K : Fr) (H0 Z H : Hp) (v : V) (ps : List Addr) (a : α) : Prop where
  r : S.R K Z H v ps a
  nd : ps.Nodup
  nz : ∀ q ∈ ps, Z q = none
  n0 : ∀ q ∈ ps, H0 q = none
section
variable {α β : Type} {S : Sh α} {SO : Sh β} {K : Fr} {Z H Z' H' Z0 H0 Z2 H2 : Hp} {v u : V} {ps qs : List Addr} {a x : α} {b : β} {put : α → β}
theorem OwnO.stands (o : OwnO S K H0 Z H v ps a) : ∀ q ∈ ps, ∃ w, H q = some w := S.stands o.r
/-- the heap grows, or what is not ours is changed -/
theorem OwnO.keep (o : OwnO S K H0 Z H v ps a) (s : Same Z Z') (h : ∀ q ∈ ps, H' q = H q) (hz : ∀ q ∈ ps, Z' q = Z q) : OwnO S K H0 Z' H' v ps a :=
  ⟨S.keep s h o.r, o.nd, fun q hq => (hz q hq).trans (o.nz q hq), o.n0⟩
theorem OwnO.step (o : OwnO S K H0 Z H v ps a) (st : Step Z H Z' H') : OwnO S K H0 Z' H' v ps a :=
  o.keep st.zz (fun q hq => by obtain ⟨w, hw⟩ := o.stands q hq; rw [hw]; exact st.hh _ _ hw) (fun q hq => by obtain ⟨w, hw⟩ := o.stands q hq; exact st.fr _ _ hw)
theorem OwnO.far {q : Addr} {u : HO} (o : OwnO S K H0 Z H v ps a) (ne : ∀ a ∈ ps, a ≠ q) : OwnO S K H0 Z (upd H q u) v ps a := o.keep (Same.refl _) (fun a ha => upd_ne (ne a ha)) fun _ _ => rfl
theorem OwnO.zfar (o : OwnO S K H0 Z H v ps a) (s : Same Z Z') (hz : ∀ q ∈ ps, Z' q = Z q) : OwnO S K H0 Z' H v ps a := o.keep s (fun _ _ => rfl) hz
/-- a thing within a thing: it may be put in again, changed -/
structure Within (S : Sh α) (SO : Sh β) (K : Fr) (Z H : Hp) (v : V) (ps : List Addr) (u : V) (qs : List Addr) (x : α) (put : α → β) : Prop where
  r : S.R K Z H u qs x
  ex : ∃ ls rs, ps = ls ++ qs ++ rs ∧ ∀ Z' H' qs' x', Same Z Z' → (∀ q ∈ ls ++ rs, H' q = H q) → S.R K Z' H' u qs' x' → SO.R K Z' H' v (ls ++ qs' ++ rs) (put x')
theorem OwnO.sub (o : OwnO SO K H0 Z H v ps b) (w : Within S SO K Z H v ps u qs x put) : OwnO S K H0 Z H u qs x := by
  obtain ⟨r, ls, rs, e, _⟩ := w
  have hs : ∀ q ∈ qs, q ∈ ps := fun q hq => by rw [e]; exact List.mem_append_left _ (List.mem_append_right _ hq)
  refine ⟨r, ?_, fun q hq => o.nz q (hs q hq), fun q hq => o.n0 q (hs q hq)⟩
  have := o.nd
  rw [e] at this
  exact (List.nodup_append.mp (List.nodup_append.mp this).1).2.1
theorem Within.refl (h : SO.R K Z H v ps b) : Within SO SO K Z H v ps v ps b id :=
  ⟨h, [], [], by simp, fun Z' H' qs' x' _ _ r => by simpa using r⟩
end
/-- within a thing within a thing -/
theorem Within.trans {α β γ : Type} {S : Sh α} {M : Sh β} {SO : Sh γ} {K : Fr} {Z H : Hp} {v u t : V} {ps qs rs : List Addr} {x : α} {y : β} {put : α → β} {put2 : β → γ}
    (w : Within M SO K Z H v ps u qs y put2) (w2 : Within S M K Z H u qs t rs x put) : Within S SO K Z H v ps t rs x (fun z => put2 (put z)) := by
  obtain ⟨r, l1, r1, e1, b1⟩ := w
  obtain ⟨r2, l2, r3, e2, b2⟩ := w2
  refine ⟨r2, l1 ++ l2, r3 ++ r1, by rw [e1, e2]; simp, fun Z' H' qs' x' s h hr => ?_⟩
  have h1 := b2 Z' H' qs' x' s (fun q hq => h q (by simp only [List.mem_append] at hq ⊢; rcases hq with hq | hq <;> simp [hq])) hr
  have h2 := b1 Z' H' _ _ s (fun q hq => h q (by simp only [List.mem_append] at hq ⊢; rcases hq with hq | hq <;> simp [hq])) h1
  have e : l1 ++ (l2 ++ qs' ++ r3) ++ r1 = l1 ++ l2 ++ qs' ++ (r3 ++ r1) := by simp
  rw [← e]
  exact h2
/-- the item at a place of a list -/
theorem allR_at {α : Type} {S : Sh α} {K : Fr} {Z H : Hp} : ∀ {l : List α} {vs : List V} {ps : List Addr} {i : Nat} {x : α}, allR S K Z H vs ps l → l[i]? = some x →
    ∃ v qs ls rs, vs[i]? = some v ∧ ps = ls ++ qs ++ rs ∧ S.R K Z H v qs x ∧ ∀ Z' H' qs' x', Same Z Z' → (∀ q ∈ ls ++ rs, H' q = H q) → S.R K Z' H' v qs' x' → allR S K Z' H' vs (ls ++ qs' ++ rs) (l.set i x')
  | a :: r, _, _, 0, x, ⟨v, ws, qs, rs, e1, e2, h1, h2⟩, e => by
    have e' : a = x := by simpa using e
    subst e'
    refine ⟨v, qs, [], rs, by rw [e1]; rfl, by rw [e2]; rfl, h1, fun Z' H' qs' x' s h hr => ⟨v, ws, qs', rs, e1, by simp, hr, allR_keep s (fun q hq => h q (by simpa using hq)) h2⟩⟩
  | a :: r, _, _, i + 1, x, ⟨v, ws, qs, rs, e1, e2, h1, h2⟩, e => by
    obtain ⟨v2, qs2, ls2, rs2, g1, g2, g3, g4⟩ := allR_at h2 (by simpa using e : r[i]? = some x)
    refine ⟨v2, qs2, qs ++ ls2, rs2, by rw [e1]; simpa using g1, by rw [e2, g2]; simp, g3, fun Z' H' qs' x' s h hr => ?_⟩
    refine ⟨v, ws, qs, ls2 ++ qs' ++ rs2, e1, by simp, S.keep s (fun q hq => h q (by simp [hq])) h1, ?_⟩
    exact g4 Z' H' qs' x' s (fun q hq => h q (by simp only [List.mem_append] at hq ⊢; rcases hq with hq | hq <;> simp [hq])) hr
theorem Within.item {α : Type} {S : Sh α} {K : Fr} {Z H : Hp} {v : V} {ps : List Addr} {l : List α} {i : Nat} {x : α} (h : (Sh.lst (ShL.all S)).R K Z H v ps l) (e : l[i]? = some x) :
    ∃ p xs u qs, v = .ref p ∧ H p = some (.lst xs) ∧ xs[i]? = some u ∧ xs.length = l.length ∧ Within S (Sh.lst (ShL.all S)) K Z H v ps u qs x (fun z => l.set i z) := by
  obtain ⟨p, xs, qs, e1, e2, h1, h2⟩ := h
  obtain ⟨u, qs2, ls, rs, g1, g2, g3, g4⟩ := allR_at h2 e
  refine ⟨p, xs, u, qs2, e1, h1, g1, allR_len h2, g3, p :: ls, rs, by rw [e2, g2]; simp, fun Z' H' qs' x' s hk hr => ?_⟩
  refine ⟨p, xs, ls ++ qs' ++ rs, e1, by simp, (hk p (by simp)).trans h1, g4 Z' H' qs' x' s (fun q hq => hk q (by simp only [List.mem_append] at hq; rcases hq with hq | hq <;> simp [hq])) hr⟩
end Cd

set_option Elab.async false
set_option linter.all false
set_option maxRecDepth 100000
set_option maxHeartbeats 4000000
namespace Cd
open PySem L2
/-! ### a def that changes what is its caller's own: ps are the places handed over -/
theorem delL_out {H : Hp} {ps : List Addr} {q : Addr} (h : q ∉ ps) : delL H ps q = H q := by unfold delL; rw [if_neg h]
theorem delL_in {H : Hp} {ps : List Addr} {q : Addr} (h : q ∈ ps) : delL H ps q = none := by unfold delL; rw [if_pos h]
theorem delL_same {H : Hp} {ps : List Addr} : Same (delL H ps) H := fun b u e => by
  by_cases h : b ∈ ps
  · rw [delL_in h] at e; cases e
  · rw [delL_out h] at e; exact e
/-- its own beginning -/
theorem Step.lent {Z H : Hp} {ps : List Addr} (s : Same Z H) : Step Z (delL H ps) Z H := ⟨delL_same, Same.refl _, s, fun _ _ _ => rfl⟩
section
variable {K : Fr} {Z H Z' H' Z0 H0 : Hp} {ps qs : List Addr}
/-- for the caller -/
theorem Step.back (c : Step Z0 H0 Z H) (n0 : ∀ q ∈ qs, H0 q = none) (st : Step Z (delL H qs) Z' H') : Step Z0 H0 Z' H' := by
  refine ⟨fun b u e => ?_, c.zz.trans st.zz, st.zh, fun b u e => ?_⟩
  · have hb : b ∉ qs := fun m => by rw [n0 b m] at e; cases e
    exact st.hh b u (by rw [delL_out hb]; exact c.hh b u e)
  · have hb : b ∉ qs := fun m => by rw [n0 b m] at e; cases e
    exact (st.fr b u (by rw [delL_out hb]; exact c.hh b u e)).trans (c.fr b u e)
theorem Own.stepD {α : Type} [Py α] {p : Addr} {l : List α} (o : Own K H0 Z H p l) (st : Step Z (delL H qs) Z' H') (hn : p ∉ qs) : Own K H0 Z' H' p l := by
  obtain ⟨⟨xs, h, pr⟩, nz, n0⟩ := o
  have e : delL H qs p = some (.lst xs) := by rw [delL_out hn]; exact h
  exact ⟨⟨xs, st.hh _ _ e, Paired.pImp (fun _ _ r => Py.mono st.zz r) pr⟩, (st.fr _ _ e).trans nz, n0⟩
theorem OwnO.stepD {α : Type} {S : Sh α} {v : V} {a : α} (o : OwnO S K H0 Z H v ps a) (st : Step Z (delL H qs) Z' H') (hn : ∀ q ∈ ps, q ∉ qs) : OwnO S K H0 Z' H' v ps a :=
  o.keep st.zz (fun q hq => by
    obtain ⟨w, hw⟩ := o.stands q hq
    rw [hw]
    exact st.hh _ _ (by rw [delL_out (hn q hq)]; exact hw)) fun q hq => by
    obtain ⟨w, hw⟩ := o.stands q hq
    exact st.fr _ _ (by rw [delL_out (hn q hq)]; exact hw)
end
/-! ### an object of one's own, by its attributes' values -/
structure Husk (C : Addr) (H0 Z H : Hp) (p dx : Addr) (fs : List (Str × V)) : Prop where
  at_ : H p = some (.ins C dx fs)
  dc : H dx = some (.own p)
  ne : p ≠ dx
  z1 : Z p = none
  z2 : Z dx = none
  n1 : H0 p = none
  n2 : H0 dx = none
section
variable {C : Addr} {H0 Z0 Z H Z' H' : Hp} {p dx : Addr} {fs fs2 : List (Str × V)}
theorem Husk.step (h : Husk C H0 Z H p dx fs) (st : Step Z H Z' H') : Husk C H0 Z' H' p dx fs :=
  ⟨st.hh _ _ h.at_, st.hh _ _ h.dc, h.ne, (st.fr _ _ h.at_).trans h.z1, (st.fr _ _ h.dc).trans h.z2, h.n1, h.n2⟩
theorem Husk.far {q : Addr} {u : HO} (h : Husk C H0 Z H p dx fs) (h1 : p ≠ q) (h2 : dx ≠ q) : Husk C H0 Z (upd H q u) p dx fs :=
  ⟨by rw [upd_ne h1]; exact h.at_, by rw [upd_ne h2]; exact h.dc, h.ne, h.z1, h.z2, h.n1, h.n2⟩
theorem Husk.set (h : Husk C H0 Z H p dx fs) {fs2 : List (Str × V)} : Husk C H0 Z (upd H p (.ins C dx fs2)) p dx fs2 :=
  ⟨upd_same, by rw [upd_ne h.ne.symm]; exact h.dc, h.ne, h.z1, h.z2, h.n1, h.n2⟩
theorem Husk.mut {f : Str} {v : V} (h : Husk C H0 Z H p dx fs) (c : Step Z0 H0 Z H) (e : putF f v fs = fs2) : Husk C H0 Z (upd H p (.ins C dx (putF f v fs))) p dx fs2 ∧ Step Z0 H0 Z (upd H p (.ins C dx (putF f v fs))) := by
  subst e
  exact ⟨h.set, c.mut h.z1 h.n1⟩
theorem Husk.of (hH : H p = some (.ins C dx fs)) (hD : H dx = some (.own p)) (hz : Same Z (delL H [p, dx])) : Husk C (delL H [p, dx]) Z H p dx fs :=
  ⟨hH, hD, (fun e => by subst e; rw [hH] at hD; cases hD), hz.free (delL_in (by simp)), hz.free (delL_in (by simp)), delL_in (by simp), delL_in (by simp)⟩
end
/-- a new thing of one's own comes -/
def NewO {α : Type} (S : Sh α) (K : Fr) (Z H : Hp) (Q : VK) (m : α) : Prop := ∀ v ps Z' H', Step Z H Z' H' → OwnO S K H Z' H' v ps m → Q v H'
theorem del_new {H : Hp} {x dx : Addr} {o : HO} {u : HO} (nx : H x = none) (ndx : H dx = none) (ne : dx ≠ x) : delL (upd (upd H dx u) x o) [x, dx] = H := by
  funext q
  by_cases h1 : q = x
  · subst h1; rw [delL_in (by simp), nx]
  · by_cases h2 : q = dx
    · subst h2; rw [delL_in (by simp), ndx]
    · rw [delL_out (by simp [h1, h2]), upd_ne h1, upd_ne h2]
end Cd
namespace Cd
open PySem L2
/-- the object classes' places -/
structure CB where
  (Wheel Counter Asking Machine Dealer Picker Rower Mater Firster Puncher Printer Clerk Desk : Addr)
theorem Husk.lent {C : Addr} {Z H : Hp} {p dx : Addr} {fs : List (Str × V)} (hH : H p = some (.ins C dx fs)) (hD : H dx = some (.own p)) (hz : ∀ q ∈ [p, dx], Z q = none) : Husk C (delL H [p, dx]) Z H p dx fs :=
  ⟨hH, hD, (fun e => by subst e; rw [hH] at hD; cases hD), hz _ (by simp), hz _ (by simp), delL_in (by simp), delL_in (by simp)⟩
end Cd
namespace Cd
open PySem L2
end Cd
namespace Cd
open PySem L2 PyProof.Rows
open PySem.Builtin PySem.Builtin.Str
theorem Sh.now {α : Type} (S : Sh α) {K : Fr} {Z0 H0 Z H : Hp} {v : V} {ps : List Addr} {a : α} (c : Step Z0 H0 Z H) (h : S.R K Z0 H0 v ps a) : S.R K Z H v ps a :=
  S.keep c.zz (fun q hq => by obtain ⟨u, hu⟩ := S.stands h q hq; rw [hu]; exact c.hh _ _ hu) h
end Cd

set_option Elab.async false
set_option linter.all false
set_option maxRecDepth 100000
set_option maxHeartbeats 4000000
namespace Cd
open PySem L2
/-! ### new objects -/
section
variable {α : Type} {S : Sh α} {K : Fr} {Z H Z0 H0 : Hp} {Q : VK} {m : α} {C x dx : Addr}
theorem NewO.own (c : Step Z0 H0 Z H) (k : ∀ v ps Z' H', Step Z H Z' H' → (∀ q ∈ ps, H q = none) → OwnO S K H0 Z' H' v ps m → Q v H') : NewO S K Z H Q m := fun v ps Z' H' st o =>
  k v ps Z' H' st o.n0 ⟨o.r, o.nd, o.nz, fun q hq => c.hh.free (o.n0 q hq)⟩
theorem OwnO.ne_old {v : V} {ps : List Addr} {q : Addr} {u : HO} {a : α} (o : OwnO S K H0 Z H v ps a) (h : H q = none) : ∀ b ∈ ps, b ≠ q := fun b hb e => by
  obtain ⟨w, hw⟩ := o.stands b hb
  rw [e, h] at hw; cases hw
/-! ### an item of a list of objects -/
theorem OwnO.at [Inhabited α] {p : Addr} {ps : List Addr} {l : List α} {i : Int} (o : OwnO (Sh.lst (ShL.all S)) K H0 Z H (.ref p) ps l) (h0 : 0 ≤ i) (h1 : i < l.length) :
    ∃ u qs, (∀ Q : VK, Q u H → rIxL K (.ref p) (.int i) H Q) ∧ Within S (Sh.lst (ShL.all S)) K Z H (.ref p) ps u qs (getI l i) (fun z => setI l i z) := by
  have e : l[i.toNat]? = some (getI l i) := by rw [getI_nat h0 h1]; exact List.getElem?_eq_getElem _
  obtain ⟨p', xs, u, qs, ev, hl, hx, hlen, wi⟩ := Within.item o.r e
  cases ev
  refine ⟨u, qs, fun Q hQ => ⟨p, xs, i, u, rfl, rfl, SqL.of hl, ?_, hQ⟩, ?_⟩
  · rw [atI_nat h0 (by rw [hlen]; exact h1)]
    exact hx
  · have : (fun z => setI l i z) = fun z => l.set i.toNat z := by funext z; exact setI_nat h0 h1
    rw [this]
    exact wi
theorem OwnO.rd [Inhabited α] {p : Addr} {ps : List Addr} {l : List α} {i : Int} (o : OwnO (Sh.lst (ShL.all S)) K H0 Z H (.ref p) ps l) (h0 : 0 ≤ i) (h1 : i < l.length) (k : ∀ u qs, S.R K Z H u qs (getI l i) → Q u H) : rIxL K (.ref p) (.int i) H Q := by
  obtain ⟨u, qs, rd, wi⟩ := o.at h0 h1
  exact rd Q (k u qs wi.r)
theorem Within.mem {α β : Type} {S : Sh α} {SO : Sh β} {K : Fr} {Z H : Hp} {v u : V} {ps qs : List Addr} {x : α} {put : α → β} (w : Within S SO K Z H v ps u qs x put) : ∀ q ∈ qs, q ∈ ps := by
  obtain ⟨_, ls, rs, e, _⟩ := w
  intro q hq
  rw [e]
  exact List.mem_append_left _ (List.mem_append_right _ hq)
end
end Cd

set_option Elab.async false
set_option linter.all false
set_option maxRecDepth 100000
set_option maxHeartbeats 4000000
namespace Cd
open PySem L2
/-! ### plain lists as parts of a thing -/
def Sh.lt (α : Type) [Py α] : Sh (List α) where
  R := fun K Z H v ps l => ∃ p xs, v = .ref p ∧ ps = [p] ∧ H p = some (.lst xs) ∧ Paired (Py.R K Z) xs l
  keep := fun s h ⟨p, xs, e1, e2, h1, h2⟩ => ⟨p, xs, e1, e2, (h p (by rw [e2]; simp)).trans h1, Paired.pImp (fun _ _ r => Py.mono s r) h2⟩
  stands := fun ⟨p, xs, e1, e2, h1, h2⟩ q hq => by rw [e2, List.mem_singleton] at hq; rw [hq]; exact ⟨_, h1⟩
section
variable {α : Type} [Py α] {K : Fr} {H0 Z H : Hp} {v : V} {ps : List Addr} {p : Addr} {l : List α}
theorem OwnO.own (o : OwnO (Sh.lt α) K H0 Z H v ps l) : ∃ p, v = .ref p ∧ ps = [p] ∧ Own K H0 Z H p l := by
  obtain ⟨⟨p, xs, e1, e2, h1, h2⟩, nd, nz, n0⟩ := o
  exact ⟨p, e1, e2, ⟨xs, h1, h2⟩, nz p (by rw [e2]; simp), n0 p (by rw [e2]; simp)⟩
theorem Own.shp (o : Own K H0 Z H p l) : OwnO (Sh.lt α) K H0 Z H (.ref p) [p] l := by
  obtain ⟨⟨xs, h1, h2⟩, nz, n0⟩ := o
  exact ⟨⟨p, xs, rfl, rfl, h1, h2⟩, by simp, fun q hq => by rw [List.mem_singleton] at hq; rw [hq]; exact nz, fun q hq => by rw [List.mem_singleton] at hq; rw [hq]; exact n0⟩
end
end Cd
namespace Cd
open PySem L2
/-- a plain dict as a part of a thing -/
def Sh.dc (κ α : Type) [Sc κ] [DecidableEq κ] [Kt κ] [Py α] : Sh (Dct κ α) where
  R := fun K Z H v ps d => ∃ p kvs, v = .ref p ∧ ps = [p] ∧ H p = some (.dK kvs) ∧ Paired (EntK K Z) kvs d.kv
  keep := fun s h ⟨p, xs, e1, e2, h1, h2⟩ => ⟨p, xs, e1, e2, (h p (by rw [e2]; simp)).trans h1, Paired.pImp (fun _ _ r => r.mono s) h2⟩
  stands := fun ⟨p, xs, e1, e2, h1, h2⟩ q hq => by rw [e2, List.mem_singleton] at hq; rw [hq]; exact ⟨_, h1⟩
section
variable {κ α : Type} [Sc κ] [DecidableEq κ] [Kt κ] [Py α] {K : Fr} {H0 Z H : Hp} {v : V} {ps : List Addr} {p : Addr} {d : Dct κ α}
theorem OwnO.ownD (o : OwnO (Sh.dc κ α) K H0 Z H v ps d) : ∃ p, v = .ref p ∧ ps = [p] ∧ OwnD K H0 Z H p d := by
  obtain ⟨⟨p, xs, e1, e2, h1, h2⟩, nd, nz, n0⟩ := o
  exact ⟨p, e1, e2, ⟨xs, h1, h2⟩, nz p (by rw [e2]; simp), n0 p (by rw [e2]; simp)⟩
theorem OwnD.shp (o : OwnD K H0 Z H p d) : OwnO (Sh.dc κ α) K H0 Z H (.ref p) [p] d := by
  obtain ⟨⟨xs, h1, h2⟩, nz, n0⟩ := o
  exact ⟨⟨p, xs, rfl, rfl, h1, h2⟩, by simp, fun q hq => by rw [List.mem_singleton] at hq; rw [hq]; exact nz, fun q hq => by rw [List.mem_singleton] at hq; rw [hq]; exact n0⟩
end
/-- seen, not changed: all of it told for the while -/
theorem Sh.seen {α : Type} (S : Sh α) {K : Fr} {Z H : Hp} {v : V} {ps : List Addr} {a : α} (zh : Same Z H) (h : S.R K Z H v ps a) : ∃ Z', Same Z Z' ∧ Same Z' H ∧ S.R K Z' Z' v ps a := by
  refine ⟨fun q => if q ∈ ps then H q else Z q, fun q u e => ?_, fun q u e => ?_, ?_⟩
  · show (if q ∈ ps then H q else Z q) = some u
    split
    · exact zh _ _ e
    · exact e
  · by_cases m : q ∈ ps
    · have e2 : (if q ∈ ps then H q else Z q) = some u := e
      rw [if_pos m] at e2; exact e2
    · have e2 : (if q ∈ ps then H q else Z q) = some u := e
      rw [if_neg m] at e2; exact zh _ _ e2
  · refine S.keep (fun q u e => ?_) (fun q hq => if_pos hq) h
    show (if q ∈ ps then H q else Z q) = some u
    split
    · exact zh _ _ e
    · exact e
end Cd

set_option Elab.async false
set_option linter.all false
set_option maxRecDepth 100000
set_option maxHeartbeats 4000000
namespace Cd
open PySem L2
/-! ### a row of things of one's own; an object opened and closed -/
structure OwnL {β : Type} (T : ShL β) (K : Fr) (H0 Z H : Hp) (vs : List V) (ps : List Addr) (b : β) : Prop where
  r : T.R K Z H vs ps b
  nd : ps.Nodup
  nz : ∀ q ∈ ps, Z q = none
  n0 : ∀ q ∈ ps, H0 q = none
section
variable {α β : Type} {S : Sh α} {T : ShL β} {K : Fr} {H0 Z H Z0 : Hp} {v : V} {vs : List V} {ps qs rs : List Addr} {a : α} {b : β}
theorem OwnL.nil : OwnL ShL.nil K H0 Z H [] [] () := ⟨⟨rfl, rfl⟩, List.nodup_nil, (fun _ h => nomatch h), (fun _ h => nomatch h)⟩
theorem OwnL.cons (o : OwnO S K H0 Z H v qs a) (l : OwnL T K H0 Z H vs rs b) (hd : ∀ x ∈ qs, ∀ y ∈ rs, x ≠ y) : OwnL (ShL.cons S T) K H0 Z H (v :: vs) (qs ++ rs) (a, b) :=
  ⟨⟨v, vs, qs, rs, rfl, rfl, o.r, l.r⟩, List.nodup_append.mpr ⟨o.nd, l.nd, hd⟩, fun q hq => (List.mem_append.mp hq).elim (o.nz q) (l.nz q), fun q hq => (List.mem_append.mp hq).elim (o.n0 q) (l.n0 q)⟩
theorem OwnO.opn {C : Addr} {ns : List Str} (o : OwnO (Sh.ins C ns T) K H0 Z H v ps b) : ∃ p dx xs qs, v = .ref p ∧ ps = p :: dx :: qs ∧ Husk C H0 Z H p dx (ns.zip xs) ∧ xs.length = ns.length ∧ OwnL T K H0 Z H xs qs b ∧ (∀ x ∈ qs, x ≠ p) ∧ ∀ x ∈ qs, x ≠ dx := by
  obtain ⟨⟨p, dx, xs, qs, rfl, rfl, h1, h2, hl, h3⟩, nd, nz, n0⟩ := o
  obtain ⟨m1, nd2⟩ := List.nodup_cons.mp nd
  obtain ⟨m2, nd3⟩ := List.nodup_cons.mp nd2
  refine ⟨p, dx, xs, qs, rfl, rfl, ⟨h1, h2, fun e => m1 (by rw [e]; exact List.mem_cons_self), nz _ List.mem_cons_self, nz _ (List.mem_cons_of_mem _ List.mem_cons_self), n0 _ List.mem_cons_self, n0 _ (List.mem_cons_of_mem _ List.mem_cons_self)⟩, hl,
    ⟨h3, nd3, fun q hq => nz q (List.mem_cons_of_mem _ (List.mem_cons_of_mem _ hq)), fun q hq => n0 q (List.mem_cons_of_mem _ (List.mem_cons_of_mem _ hq))⟩, fun x hx e => m1 (by rw [← e]; exact List.mem_cons_of_mem _ hx), fun x hx e => m2 (by rw [← e]; exact hx)⟩
theorem OwnO.cls {C p dx : Addr} {ns : List Str} {xs : List V} (h : Husk C H0 Z H p dx (ns.zip xs)) (hl : xs.length = ns.length) (l : OwnL T K H0 Z H xs qs b) (h1 : ∀ x ∈ qs, x ≠ p) (h2 : ∀ x ∈ qs, x ≠ dx) : OwnO (Sh.ins C ns T) K H0 Z H (.ref p) (p :: dx :: qs) b := by
  refine ⟨⟨p, dx, xs, qs, rfl, rfl, h.at_, h.dc, hl, l.r⟩, ?_, fun q hq => ?_, fun q hq => ?_⟩
  · refine List.nodup_cons.mpr ⟨fun m => ?_, List.nodup_cons.mpr ⟨fun m => h2 dx m rfl, l.nd⟩⟩
    rcases List.mem_cons.mp m with m | m
    · exact h.ne m
    · exact h1 p m rfl
  · rcases List.mem_cons.mp hq with rfl | hq
    · exact h.z1
    · rcases List.mem_cons.mp hq with rfl | hq
      · exact h.z2
      · exact l.nz q hq
  · rcases List.mem_cons.mp hq with rfl | hq
    · exact h.n1
    · rcases List.mem_cons.mp hq with rfl | hq
      · exact h.n2
      · exact l.n0 q hq
theorem OwnO.ofR [Py α] (h : Py.R K Z v a) : OwnO (Sh.told (α := α)) K H0 Z H v [] a := ⟨⟨rfl, h⟩, List.nodup_nil, (fun _ h => nomatch h), (fun _ h => nomatch h)⟩
end
end Cd
namespace Cd
open PySem L2
theorem OwnO.mkvia {α β : Type} {S : Sh β} {f : α → β} {K : Fr} {H0 Z H : Hp} {v : V} {ps : List Addr} {a : α} {b : β} (e : b = f a) (o : OwnO S K H0 Z H v ps b) : OwnO (S.via f) K H0 Z H v ps a := by subst e; exact ⟨o.r, o.nd, o.nz, o.n0⟩
end Cd
namespace Cd
open PySem L2
/-! ### apart, by pieces -/
section
variable {qs r1 r2 : List Addr} {p q : Addr}
end
end Cd

set_option Elab.async false
set_option linter.all false
set_option maxRecDepth 100000
set_option maxHeartbeats 4000000
namespace Cd
open PySem L2
/-! ### shapes that are data: told as a whole -/
class Dat {α : Type} [Py α] (S : Sh α) : Prop where
  dat : ∀ {K : Fr} {Z : Hp} {v : V} {ps : List Addr} {a : α}, S.R K Z Z v ps a → Py.R K Z v a
instance {α : Type} [Py α] : Dat (Sh.told (α := α)) := ⟨fun h => h.2⟩
instance {α : Type} [Py α] : Dat (Sh.lt α) := ⟨fun ⟨p, xs, e1, _, h1, h2⟩ => ⟨p, xs, e1, h1, h2⟩⟩
instance {κ α : Type} [Sc κ] [DecidableEq κ] [Kt κ] [Py α] : Dat (Sh.dc κ α) := ⟨fun ⟨p, xs, e1, _, h1, h2⟩ => ⟨p, xs, e1, h1, h2⟩⟩
theorem allR_dat {α : Type} [Py α] {S : Sh α} [Dat S] {K : Fr} {Z : Hp} : ∀ {l : List α} {vs : List V} {ps : List Addr}, allR S K Z Z vs ps l → Paired (Py.R K Z) vs l
  | [], _, _, ⟨e, _⟩ => by rw [e]; exact .nil
  | a :: r, _, _, ⟨v, ws, qs, rs, e1, e2, h1, h2⟩ => by rw [e1]; exact .cons (Dat.dat h1) (allR_dat h2)
instance {α : Type} [Py α] {S : Sh α} [Dat S] : Dat (Sh.lst (ShL.all S)) := ⟨fun ⟨p, xs, qs, e1, _, h1, h2⟩ => ⟨p, xs, e1, h1, allR_dat h2⟩⟩
/-- pairs, rows of three and four -/
def Sh.pr {α β : Type} (S : Sh α) (T : Sh β) : Sh (α × β) := (Sh.tup (ShL.cons S (ShL.cons T ShL.nil))).via fun p => (p.1, (p.2, ()))
def Sh.t4 {α β γ δ : Type} (S : Sh α) (T : Sh β) (U : Sh γ) (W : Sh δ) : Sh (T4 α β γ δ) := (Sh.tup (ShL.cons S (ShL.cons T (ShL.cons U (ShL.cons W ShL.nil))))).via fun p => (p.x1, (p.x2, (p.x3, (p.x4, ()))))
instance {α β : Type} [Py α] [Py β] {S : Sh α} {T : Sh β} [Dat S] [Dat T] : Dat (Sh.pr S T) := ⟨fun ⟨p, xs, qs, e1, _, h1, v, ws, q1, r1, e2, _, g1, v2, ws2, q2, r2, e3, _, g2, e4, _⟩ => ⟨p, v, v2, e1, by rw [h1, e2, e3, e4], Dat.dat g1, Dat.dat g2⟩⟩
instance {α β γ δ : Type} [Py α] [Py β] [Py γ] [Py δ] {S : Sh α} {T : Sh β} {U : Sh γ} {W : Sh δ} [Dat S] [Dat T] [Dat U] [Dat W] : Dat (Sh.t4 S T U W) := ⟨fun ⟨p, xs, qs, e1, _, h1, v, ws, q1, r1, e2, _, g1, v2, ws2, q2, r2, e3, _, g2, v3, ws3, q3, r3, e4, _, g3, v4, ws4, q4, r4, e5, _, g4, e6, _⟩ =>
  ⟨p, v, v2, v3, v4, e1, by rw [h1, e2, e3, e4, e5, e6], Dat.dat g1, Dat.dat g2, Dat.dat g3, Dat.dat g4⟩⟩
/-- None, or a thing -/
def Sh.opt {α : Type} (S : Sh α) : Sh (Option α) where
  R := fun K Z H v ps o => match o with
    | none => v = .non ∧ ps = []
    | some a => S.R K Z H v ps a
  keep := fun {K Z Z' H H' v ps a} s h r => by
    cases a with
    | none => exact r
    | some a => exact S.keep s h r
  stands := fun {K Z H v ps a} r => by
    cases a with
    | none => intro q hq; rw [r.2] at hq; cases hq
    | some a => exact S.stands r
instance {α : Type} [Py α] {S : Sh α} [Dat S] : Dat (Sh.opt S) := ⟨fun {K Z v ps a} r => by
  cases a with
  | none => exact r.1
  | some a => exact Dat.dat (S := S) r⟩
section
variable {α β : Type} {S : Sh α} {SO : Sh β} {K : Fr} {Z H Z' H' Z0 H0 Z2 H2 : Hp} {v u : V} {ps qs : List Addr} {a x : α} {b : β} {put : α → β} {Q : VK}
theorem OwnO.tell [Py α] [Dat S] (o : OwnO S K H0 Z H v ps a) (c : Step Z0 H0 Z H) : ∃ Z', Step Z0 H0 Z' H ∧ Same Z Z' ∧ Py.R K Z' v a ∧ ∀ q, q ∉ ps → Z' q = Z q := by
  have s := tellL_same (H := H) o.nz
  refine ⟨tellL Z H ps, tellL_step c o.nz o.n0, s, Dat.dat (S := S) (S.keep s (fun q hq => ?_) o.r), fun q hq => ?_⟩
  · unfold tellL; rw [if_pos hq]
  · unfold tellL; rw [if_neg hq]
/-- seen as data -/
theorem OwnO.see [Py α] [Dat S] (o : OwnO S K H0 Z H v ps a) : Py.R K (tellL Z H ps) v a :=
  Dat.dat (S := S) (S.keep (tellL_same (H := H) o.nz) (fun q hq => by unfold tellL; rw [if_pos hq]) o.r)
theorem OwnO.seez (o : OwnO S K H0 Z H v ps a) (zh : Same Z H) : Same (tellL Z H ps) H := fun q u e => by
  unfold tellL at e
  split at e
  · exact e
  · exact zh _ _ e
theorem OwnO.ret [Py α] [Dat S] (o : OwnO S K H0 Z H v ps a) (c : Step Z0 H0 Z H) (k : Tel K Z0 H0 Q a) : Q v H := by
  obtain ⟨Z', c', _, r, _⟩ := o.tell c
  exact k _ _ _ c' r
theorem NewO.tel [Py α] [Dat S] (zh : Same Z H) (k : Tel K Z H Q a) : NewO S K Z H Q a := fun v ps Z' H' st o => o.ret st k
theorem NewO.gen (k : ∀ n, n = a → NewO S K Z H Q n) : NewO S K Z H Q a := k a rfl
theorem NewO.after (c : Step Z0 H0 Z H) (k : NewO S K Z0 H0 Q a) : NewO S K Z H Q a := fun v ps Z' H' st o =>
  k v ps Z' H' (c.trans st) ⟨o.r, o.nd, o.nz, fun q hq => c.hh.free (o.n0 q hq)⟩
theorem OwnO.non : OwnO (Sh.opt S) K H0 Z H .non [] none := ⟨⟨rfl, rfl⟩, List.nodup_nil, (fun _ h => nomatch h), (fun _ h => nomatch h)⟩
/-! ### a thing within one's own thing -/
structure Leaf (S : Sh α) (SO : Sh β) (K : Fr) (H0 Z H : Hp) (v : V) (ps : List Addr) (u : V) (qs : List Addr) (x : α) (put : α → β) (b : β) : Prop where
  o : OwnO SO K H0 Z H v ps b
  w : Within S SO K Z H v ps u qs x put
theorem Leaf.sub (l : Leaf S SO K H0 Z H v ps u qs x put b) : OwnO S K H0 Z H u qs x := l.o.sub l.w
theorem Leaf.step (l : Leaf S SO K H0 Z H v ps u qs x put b) (st : Step Z H Z' H') : Leaf S SO K H0 Z' H' v ps u qs x put b := by
  obtain ⟨o, r, ls, rs, e, bk⟩ := l
  have hk : ∀ q ∈ ps, H' q = H q := fun q hq => by
    obtain ⟨w, hw⟩ := o.stands q hq
    rw [hw]; exact st.hh _ _ hw
  refine ⟨o.step st, S.keep st.zz (fun q hq => hk q (by rw [e]; simp [hq])) r, ls, rs, e, fun Z2 H2 qs' x' s h hr => bk Z2 H2 qs' x' (st.zz.trans s) (fun q hq => ?_) hr⟩
  rw [h q hq]
  exact hk q (by rw [e]; simp only [List.mem_append] at hq ⊢; rcases hq with hq | hq <;> simp [hq])
theorem Leaf.mem (l : Leaf S SO K H0 Z H v ps u qs x put b) : ∀ q ∈ qs, q ∈ ps := l.w.mem
/-- it is changed where it stands -/
theorem Leaf.back {q : Addr} {w : HO} {x' : α} (l : Leaf S SO K H0 Z H v ps u qs x put b) (hq : q ∈ qs) (r' : S.R K Z (upd H q w) u qs x') : OwnO SO K H0 Z (upd H q w) v ps (put x') := by
  obtain ⟨o, r, ls, rs, e, bk⟩ := l
  have hnd := o.nd
  rw [e] at hnd
  obtain ⟨n1, n2, n3⟩ := List.nodup_append.mp hnd
  obtain ⟨n4, n5, n6⟩ := List.nodup_append.mp n1
  have hne : ∀ p ∈ ls ++ rs, p ≠ q := fun p hp ep => by
    subst ep
    rcases List.mem_append.mp hp with hp | hp
    · exact n6 p hp p hq rfl
    · exact n3 p (List.mem_append_right _ hq) p hp rfl
  have h2 := bk Z (upd H q w) qs x' (Same.refl _) (fun p hp => upd_ne (hne p hp)) r'
  rw [← e] at h2
  exact ⟨h2, o.nd, o.nz, o.n0⟩
end
section
variable {β : Type} {SO : Sh β} {K : Fr} {Z H Z' H' Z0 H0 Z2 H2 : Hp} {v u : V} {ps qs : List Addr} {b : β} {Q : VK}
theorem Leaf.item {α : Type} [Inhabited α] {S : Sh α} {x : List α} {put : List α → β} {i : Int} (l : Leaf (Sh.lst (ShL.all S)) SO K H0 Z H v ps u qs x put b) (hi : inR x.length i) :
    ∃ w rs, (∀ Q : VK, Q w H → rIxL K u (.int i) H Q) ∧ Leaf S SO K H0 Z H v ps w rs (getI x i) (fun z => put (setI x i z)) b := by
  obtain ⟨j, hj, hl⟩ := ixN_some hi
  have e : x[j]? = some (getI x i) := by
    have h := atI_get hi
    unfold atI at h
    rw [hj] at h
    exact h
  obtain ⟨p, xs, w, rs, ev, h1, h2, hlen, wi⟩ := Within.item l.w.r e
  subst ev
  refine ⟨w, rs, fun Q hQ => ⟨p, xs, i, w, rfl, rfl, SqL.of h1, ?_, hQ⟩, l.o, ?_⟩
  · unfold atI
    rw [hlen, hj]
    exact h2
  · have e2 : (fun z => put (setI x i z)) = fun z => put (x.set j z) := by
      funext z
      unfold setI
      rw [hj]
    rw [e2]
    exact l.w.trans wi
/-! ### reading -/
theorem OwnO.tyL {α : Type} {S : Sh α} {x : List α} (o : OwnO (Sh.lst (ShL.all S)) K H0 Z H u qs x) : tyV K "list" u H := by
  obtain ⟨p, xs, qs', rfl, _, h1, h2⟩ := o.r
  exact .inl ⟨rfl, xs, SqL.of h1⟩
end
section
variable {α : Type} {S : Sh α} {K : Fr} {Z H Z' H' Z0 H0 Z2 H2 : Hp} {v : V} {ps : List Addr} {a : α} {Q : VK}
theorem Pd.ownO [Py α] [DecidableEq α] [PyD α] [Dat S] (c : Step Z0 H0 Z H) (o : OwnO S K H0 Z H v ps a) : Pd K H v a := Pd.ref (o.seez c.zh) o.see
theorem Pt.ownO [Py α] [PtT α] [Dat S] (c : Step Z0 H0 Z H) (o : OwnO S K H0 Z H v ps a) : Pt K H v (PtT.t α) := PtT.pt (o.seez c.zh) o.see
/-! ### displays of things of one's own -/
theorem OwnL.nilA : OwnL (ShL.all S) K H0 Z H [] [] [] := ⟨⟨rfl, rfl⟩, List.nodup_nil, (fun _ h => nomatch h), (fun _ h => nomatch h)⟩
theorem OwnL.consA {vs : List V} {qs rs : List Addr} {l : List α} (o : OwnO S K H0 Z H v qs a) (t : OwnL (ShL.all S) K H0 Z H vs rs l) (hd : ∀ x ∈ qs, ∀ y ∈ rs, x ≠ y) : OwnL (ShL.all S) K H0 Z H (v :: vs) (qs ++ rs) (a :: l) :=
  ⟨⟨v, vs, qs, rs, rfl, rfl, o.r, t.r⟩, List.nodup_append.mpr ⟨o.nd, t.nd, hd⟩, fun q hq => (List.mem_append.mp hq).elim (o.nz q) (t.nz q), fun q hq => (List.mem_append.mp hq).elim (o.n0 q) (t.n0 q)⟩
end
section
variable {β : Type} {T : ShL β} {K : Fr} {Z H Z0 H0 : Hp} {vs : List V} {qs : List Addr} {b : β} {Q : VK}
theorem OwnL.step {Z' H' : Hp} (l : OwnL T K H0 Z H vs qs b) (st : Step Z H Z' H') : OwnL T K H0 Z' H' vs qs b :=
  ⟨T.keep st.zz (fun q hq => by obtain ⟨w, hw⟩ := T.stands l.r q hq; rw [hw]; exact st.hh _ _ hw) l.r, l.nd, fun q hq => by obtain ⟨w, hw⟩ := T.stands l.r q hq; exact (st.fr _ _ hw).trans (l.nz q hq), l.n0⟩
theorem OwnL.wrapL (c : Step Z0 H0 Z H) (l : OwnL T K H0 Z H vs qs b) {p : Addr} (hp : H p = none) : OwnO (Sh.lst T) K H0 Z (upd H p (.lst vs)) (.ref p) (p :: qs) b := by
  have l2 := l.step (Step.own (o := .lst vs) c.zh hp)
  refine ⟨⟨p, vs, qs, rfl, rfl, upd_same, l2.r⟩, List.nodup_cons.mpr ⟨fun h => ?_, l.nd⟩, fun q hq => ?_, fun q hq => ?_⟩
  · obtain ⟨w, hw⟩ := T.stands l.r p h
    rw [hp] at hw; cases hw
  · rcases List.mem_cons.mp hq with rfl | hq
    · exact c.zh.free hp
    · exact l.nz q hq
  · rcases List.mem_cons.mp hq with rfl | hq
    · exact c.hh.free hp
    · exact l.n0 q hq
end
/-! ### a list of things of one's own that grows -/
theorem allR_snoc {α : Type} {S : Sh α} {K : Fr} {Z H : Hp} {v : V} {qs : List Addr} {a : α} (h : S.R K Z H v qs a) : ∀ {l : List α} {vs : List V} {ps : List Addr}, allR S K Z H vs ps l → allR S K Z H (vs ++ [v]) (ps ++ qs) (l ++ [a])
  | [], _, _, ⟨e1, e2⟩ => by rw [e1, e2]; exact ⟨v, [], qs, [], rfl, by simp, h, rfl, rfl⟩
  | b :: r, _, _, ⟨w, ws, q1, r1, e1, e2, h1, h2⟩ => ⟨w, ws ++ [v], q1, r1 ++ qs, by rw [e1]; rfl, by rw [e2]; simp, h1, allR_snoc h h2⟩
section
variable {α : Type} {S : Sh α} {K : Fr} {Z H Z0 H0 : Hp} {v : V} {p : Addr} {ps qs : List Addr} {a : α} {l : List α} {Q : VK}
theorem Own.toO [Py α] (o : Own K H0 Z H p ([] : List α)) : OwnO (Sh.lst (ShL.all S)) K H0 Z H (.ref p) [p] ([] : List α) := by
  obtain ⟨⟨xs, h, pr⟩, nz, n0⟩ := o
  cases pr
  exact ⟨⟨p, [], [], rfl, rfl, h, rfl, rfl⟩, by simp, fun q hq => by rw [List.mem_singleton] at hq; rw [hq]; exact nz, fun q hq => by rw [List.mem_singleton] at hq; rw [hq]; exact n0⟩
theorem OwnO.push (o : OwnO (Sh.lst (ShL.all S)) K H0 Z H (.ref p) ps l) (o2 : OwnO S K H0 Z H v qs a) (hd : ∀ x ∈ ps, ∀ y ∈ qs, x ≠ y) (hs : l.length < sizeLine)
    (k : ∀ u, OwnO (Sh.lst (ShL.all S)) K H0 Z (upd H p u) (.ref p) (ps ++ qs) (l ++ [a]) → p ∈ ps → Q .non (upd H p u)) : rAppend (.ref p) [v] H Q := by
  obtain ⟨⟨p', xs, rs, ev, e1, h1, h2⟩, nd, nz, n0⟩ := o
  cases ev
  subst e1
  have hnp : p ∉ rs := (List.nodup_cons.mp nd).1
  have hpq : ∀ y ∈ qs, p ≠ y := hd p (by simp)
  refine ⟨p, xs, v, rfl, rfl, h1, by rw [allR_len h2]; exact hs, k _ ⟨⟨p, xs ++ [v], rs ++ qs, rfl, by simp, upd_same, allR_snoc (S.keep (Same.refl _) (fun q hq => upd_ne (fun e => hpq q hq e.symm)) o2.r) (allR_keep (Same.refl _) (fun q hq => upd_ne (fun e => hnp (e ▸ hq))) h2)⟩, ?_, ?_, ?_⟩ (by simp)⟩
  · exact List.nodup_append.mpr ⟨nd, o2.nd, hd⟩
  · exact fun q hq => (List.mem_append.mp hq).elim (nz q) (o2.nz q)
  · exact fun q hq => (List.mem_append.mp hq).elim (n0 q) (o2.n0 q)
theorem OwnO.here (o : OwnO (Sh.lst (ShL.all S)) K H0 Z H (.ref p) ps l) : p ∈ ps ∧ Z p = none ∧ H0 p = none := by
  obtain ⟨⟨p', xs, rs, ev, e1, h1, h2⟩, nd, nz, n0⟩ := o
  cases ev
  subst e1
  exact ⟨by simp, nz p (by simp), n0 p (by simp)⟩
end
/-! ### names of places -/
section
variable {α β : Type} {S : Sh α} {T : Sh β} {TL : ShL β} {K : Fr} {Z H Z0 H0 : Hp} {v : V} {p : Addr} {ps qs : List Addr}
theorem Own.ne_o {γ : Type} [Py γ] {l : List γ} (o : Own K H0 Z H p l) (h : ∀ q ∈ qs, H q = none) : ∀ x ∈ qs, x ≠ p := fun x hx e => by
  obtain ⟨w, hw⟩ := o.at
  rw [← e, h x hx] at hw; cases hw
theorem OwnD.ne_o {κ γ : Type} [Sc κ] [DecidableEq κ] [Kt κ] [Py γ] {l : Dct κ γ} (o : OwnD K H0 Z H p l) (h : ∀ q ∈ qs, H q = none) : ∀ x ∈ qs, x ≠ p := fun x hx e => by
  obtain ⟨w, hw⟩ := o.at
  rw [← e, h x hx] at hw; cases hw
theorem OwnN.ne_o {γ : Type} [Py γ] {l : List (List γ)} {rs : List Addr} (o : OwnN K H0 Z H p rs l) (h : ∀ q ∈ qs, H q = none) : ∀ x ∈ qs, ∀ y ∈ p :: rs, x ≠ y := fun x hx y hy e => by
  obtain ⟨w, hw⟩ := o.stands y hy
  rw [← e, h x hx] at hw; cases hw
end
/-! ### lent, with nothing kept of what was told: the answer is plain -/
section
variable {α : Type} {S : Sh α} {K : Fr} {Z Zb H : Hp} {Q : VK}
end
end Cd

set_option Elab.async false
set_option linter.all false
set_option maxRecDepth 100000
set_option maxHeartbeats 4000000
namespace Cd
open PySem L2 PyProof.Rows
/-! ### walks over rows of three and four -/
section
variable {K : Fr} {J : It} {tb : TS} {D : Ends} {σ : L2.St} {H Z : Hp}
end
section
variable {K : Fr} {J : It} {tt : TT} {te : TE} {σ : L2.St} {H Z : Hp} {vs : List Nat} {Q : VK}
end
/-! ### apart -/
section
variable {qs rs r1 r2 : List Addr} {p q : Addr}
end
section
variable {K : Fr} {Z H H0 : Hp} {p : Addr}
theorem Own.stn {α : Type} [Py α] {l : List α} (o : Own K H0 Z H p l) : ∀ y ∈ [p], ∃ u, H y = some u := fun y hy => by rw [List.mem_singleton.mp hy]; exact o.at
theorem OwnD.stn {κ α : Type} [Sc κ] [DecidableEq κ] [Kt κ] [Py α] {l : Dct κ α} (o : OwnD K H0 Z H p l) : ∀ y ∈ [p], ∃ u, H y = some u := fun y hy => by rw [List.mem_singleton.mp hy]; exact o.at
theorem OwnN.stn {α : Type} [Py α] {ps : List Addr} {l : List (List α)} (o : OwnN K H0 Z H p ps l) : ∀ y ∈ p :: ps, ∃ u, H y = some u := o.stands
theorem OwnO.stn {α : Type} {S : Sh α} {v : V} {ps : List Addr} {a : α} (o : OwnO S K H0 Z H v ps a) : ∀ y ∈ ps, ∃ u, H y = some u := o.stands
theorem OwnN.toO {α : Type} [Py α] {ps : List Addr} {m : List (List α)} (o : OwnN K H0 Z H p ps m) : OwnO (Sh.lst (ShL.all (Sh.lt α))) K H0 Z H (.ref p) (p :: ps) m := by
  obtain ⟨top, inn, nd, nz, n0⟩ := o
  refine ⟨⟨p, ps.map V.ref, ps, rfl, rfl, top, ?_⟩, nd, nz, n0⟩
  have key : ∀ {as : List Addr} {m : List (List α)}, Paired (fun a l => ∃ xs, H a = some (.lst xs) ∧ Paired (Py.R K Z) xs l) as m → allR (Sh.lt α) K Z H (as.map V.ref) as m := by
    intro as m h
    induction h with
    | nil => exact ⟨rfl, rfl⟩
    | cons r t ih =>
      obtain ⟨xs, hx, pr⟩ := r
      exact ⟨_, _, [_], _, rfl, rfl, ⟨_, xs, rfl, rfl, hx, pr⟩, ih⟩
  exact key inn
end
end Cd
namespace Cd
open PySem L2 PyProof.Rows
/-! ### new things of one's own, behind a loan -/
class NoZS {α : Type} (S : Sh α) : Prop where
  back : ∀ {K : Fr} {Z Z' H : Hp} {v : V} {ps : List Addr} {a : α}, S.R K Z H v ps a → S.R K Z' H v ps a
instance {α : Type} [Py α] [NoZ α] : NoZS (Sh.told (α := α)) := ⟨fun h => ⟨h.1, NoZ.back h.2⟩⟩
instance {α : Type} [Py α] [NoZ α] : NoZS (Sh.lt α) := ⟨fun ⟨p, xs, e1, e2, h1, h2⟩ => ⟨p, xs, e1, e2, h1, Paired.pImp (fun _ _ r => NoZ.back r) h2⟩⟩
instance {κ α : Type} [Sc κ] [DecidableEq κ] [Kt κ] [Py α] [NoZ α] : NoZS (Sh.dc κ α) := ⟨fun ⟨p, xs, e1, e2, h1, h2⟩ => ⟨p, xs, e1, e2, h1, Paired.pImp (fun _ _ r => ⟨r.1, NoZ.back r.2⟩) h2⟩⟩
theorem allR_noz {α : Type} {S : Sh α} [NoZS S] {K : Fr} {Z Z' H : Hp} : ∀ {l : List α} {vs : List V} {ps : List Addr}, allR S K Z H vs ps l → allR S K Z' H vs ps l
  | [], _, _, h => h
  | a :: r, _, _, ⟨v, ws, qs, rs, e1, e2, h1, h2⟩ => ⟨v, ws, qs, rs, e1, e2, NoZS.back h1, allR_noz h2⟩
instance {α : Type} {S : Sh α} [NoZS S] : NoZS (Sh.lst (ShL.all S)) := ⟨fun ⟨p, xs, qs, e1, e2, h1, h2⟩ => ⟨p, xs, qs, e1, e2, h1, allR_noz h2⟩⟩
instance {α β : Type} {S : Sh α} {T : Sh β} [NoZS S] [NoZS T] : NoZS (Sh.pr S T) := ⟨fun ⟨p, xs, qs, e1, e0, h1, v, ws, q1, r1, e2, f2, g1, v2, ws2, q2, r2, e3, f3, g2, e4, f4⟩ => ⟨p, xs, qs, e1, e0, h1, v, ws, q1, r1, e2, f2, NoZS.back (S := S) g1, v2, ws2, q2, r2, e3, f3, NoZS.back (S := T) g2, e4, f4⟩⟩
instance {α β γ δ : Type} {S : Sh α} {T : Sh β} {U : Sh γ} {W : Sh δ} [NoZS S] [NoZS T] [NoZS U] [NoZS W] : NoZS (Sh.t4 S T U W) := ⟨fun ⟨p, xs, qs, e1, e0, h1, v, ws, q1, r1, e2, f2, g1, v2, ws2, q2, r2, e3, f3, g2, v3, ws3, q3, r3, e4, f4, g3, v4, ws4, q4, r4, e5, f5, g4, e6, f6⟩ =>
  ⟨p, xs, qs, e1, e0, h1, v, ws, q1, r1, e2, f2, NoZS.back (S := S) g1, v2, ws2, q2, r2, e3, f3, NoZS.back (S := T) g2, v3, ws3, q3, r3, e4, f4, NoZS.back (S := U) g3, v4, ws4, q4, r4, e5, f5, NoZS.back (S := W) g4, e6, f6⟩⟩
instance {α : Type} {S : Sh α} [NoZS S] : NoZS (Sh.opt S) := ⟨fun {K Z Z' H v ps a} r => by
  cases a with
  | none => exact r
  | some a => exact NoZS.back (S := S) r⟩
section
variable {α : Type} {S : Sh α} {K : Fr} {Z Zb H : Hp} {Q : VK} {m : α} {ps : List Addr}
theorem NewO.bor [NoZS S] (s : Same Z Zb) (zh : Same Zb H) (k : NewO S K Z H Q m) : NewO S K Zb H Q m := fun v qs Z' H' st o =>
  k v qs Z H' (Step.bor (s.trans zh) s st) ⟨NoZS.back o.r, o.nd, fun q hq => (s.trans zh).free (o.n0 q hq), o.n0⟩
theorem NewO.brw [NoZS S] (b : Brw Z Zb ps) (zh : Same Z H) (k : NewO S K Z H Q m) : NewO S K Zb H Q m := fun v qs Z' H' st o =>
  k v qs _ H' (b.step zh st) ⟨NoZS.back o.r, o.nd, fun q hq => by unfold delL; split; rfl; exact o.nz q hq, o.n0⟩
end
end Cd
namespace Cd
open PySem L2 PyProof.Rows
end Cd
namespace Cd
open PySem L2 PyProof.Rows
section
variable {K : Fr} {Z H H0 : Hp} {u : V} {qs : List Addr} {Q : VK}
end
end Cd

set_option Elab.async false
set_option linter.all false
set_option maxRecDepth 100000
set_option maxHeartbeats 4000000
namespace Cd
open PySem L2 PyProof.Rows
/-! ### rows of three in their order -/
section
variable {α β γ : Type} [Py α] [DecidableEq α] [PyD α] [Py β] [DecidableEq β] [PyD β] [Py γ] [DecidableEq γ] [PyD γ] [SrtD α] [SrtD β] [SrtD γ]
theorem leD_t3 (p q : T3 α β γ) : leD p q = if p.x1 = q.x1 then (if p.x2 = q.x2 then leD p.x3 q.x3 else leD p.x2 q.x2) else leD p.x1 q.x1 := by
  show (!PySem.W.dataLt (.tuple [PyD.d q.x1, PyD.d q.x2, PyD.d q.x3]) (.tuple [PyD.d p.x1, PyD.d p.x2, PyD.d p.x3])) = _
  rw [PySem.W.dataLt_tuple, PySem.W.dataLt_cons (SrtD.alike _ _), PySem.W.dataLt_cons (SrtD.alike _ _), PySem.W.dataLt_cons (SrtD.alike _ _), PyD.eqv, PyD.eqv, PyD.eqv]
  by_cases h : q.x1 = p.x1
  · rw [if_pos (decide_eq_true h), if_pos h.symm]
    by_cases h2 : q.x2 = p.x2
    · rw [if_pos (decide_eq_true h2), if_pos h2.symm]
      by_cases h3 : q.x3 = p.x3
      · rw [if_pos (decide_eq_true h3), h3, leD_refl]
        rfl
      · rw [if_neg (by simpa using h3)]
        rfl
    · rw [if_neg (by simpa using h2), if_neg (fun e => h2 e.symm)]
      rfl
  · rw [if_neg (by simpa using h), if_neg (fun e => h e.symm)]
    rfl
theorem leD_t3p (p q : T3 α β γ) : leD p q = leD (p.x1, (p.x2, p.x3)) (q.x1, (q.x2, q.x3)) := by
  rw [leD_t3, leD_pair, leD_pair]
instance [OrdD α] [OrdD β] [OrdD γ] : OrdD (T3 α β γ) := ⟨fun a b c h1 h2 => by
  rw [leD_t3p] at *
  exact OrdD.tr _ _ _ h1 h2, fun a b => by
  rw [leD_t3p, leD_t3p]
  exact OrdD.tot _ _, fun a b h1 h2 => by
  rw [leD_t3p] at h1 h2
  have := OrdD.anti _ _ h1 h2
  cases a; cases b
  simp only [Prod.mk.injEq] at this
  obtain ⟨e1, e2, e3⟩ := this
  subst e1 e2 e3
  rfl⟩
end
end Cd

set_option Elab.async false
set_option linter.all false
set_option maxRecDepth 100000
set_option maxHeartbeats 4000000
namespace Cd
open PySem L2 PyProof.Rows
/-! ### tuples of one kind -/
structure TL (α : Type) where
  l : List α
deriving DecidableEq, Inhabited
instance {α : Type} [Py α] : Py (TL α) where
  R K Z v t := ∃ a xs, v = .ref a ∧ Z a = some (.tup xs) ∧ Paired (Py.R K Z) xs t.l
  mono := fun {K Z Z' v l} s h => by
    obtain ⟨a, xs, e, hz, p⟩ := h
    exact ⟨a, xs, e, s _ _ hz, Paired.pImp (fun _ _ r => Py.mono s r) p⟩
instance {α : Type} [Py α] [DecidableEq α] [PyD α] : PyD (TL α) where
  d t := .tuple (t.l.map PyD.d)
  dp := fun zh h => by
    obtain ⟨a, xs, rfl, hz, p⟩ := h
    exact .tup (SqT.of (zh _ _ hz)) (dpAll zh p)
  eqv := fun l m => by
    show PyData.eqvAll (l.l.map PyD.d) (m.l.map PyD.d) = _
    rw [eqvAll_map]
    obtain ⟨l⟩ := l
    obtain ⟨m⟩ := m
    exact decide_eq_decide.mpr ⟨fun h => by rw [show l = m from h], fun h => by injection h⟩
  dep := PyD.dep α + 1
  depth := fun l => Nat.succ_le_succ (depthAll_map l.l)
instance {α : Type} [Py α] [DecidableEq α] [PyD α] : PyN (TL α) := ⟨fun _ => by simp [PyD.d, PyData.eqv], fun _ => by simp [PyD.d, PyData.eqv]⟩
instance {α : Type} [Py α] : Nn (TL α) := ⟨fun h e => by obtain ⟨a, xs, e2, _⟩ := h; rw [e2] at e; cases e⟩
theorem Pt.tl {K : Fr} {Z H : Hp} {α : Type} [Py α] {v : V} {t : TL α} (zh : Same Z H) (h : Py.R K Z v t) : Pt K H v "tuple" := by
  obtain ⟨a, xs, rfl, hz, _⟩ := h
  exact .of (.base (.tup (zh _ _ hz)))
instance {α : Type} [Py α] : PtT (TL α) := ⟨"tuple", fun zh h => Pt.tl zh h⟩
instance {α : Type} [Py α] [NL α] : NL (TL α) := ⟨fun h r => by
  obtain ⟨a, xs, e, hz, p⟩ := r
  exact ⟨a, xs, e, delL_tup h hz, Paired.pImp (fun _ _ r => NL.back h r) p⟩⟩
section
variable {K : Fr} {Z H Z0 H0 : Hp} {Q : VK} {v x y : V} {α : Type} [Py α]
theorem Tel.lay {t : TL α} {xs : List V} (s : Same Z H) (pr : Paired (Py.R K Z) xs t.l) (k : Tel K Z H Q t) : ∀ p, H p = none → Q (.ref p) (upd H p (.tup xs)) := fun p hp => by
  have st := Step.new (o := .tup xs) s hp
  exact k _ _ _ st ⟨p, xs, rfl, upd_same, Paired.pImp (fun _ _ r => Py.mono st.zz r) pr⟩
theorem Tel.old {t : TL α} (s : Same Z H) (h : Py.R K Z v t) (k : Tel K Z H Q t) : Q v H := k _ _ _ (Step.refl s) h
theorem sl_tupAK {X : Cx} (e : X.K = K) : SlR X (rSlA K) := by subst e; exact sl_tupA
theorem op_catAK {X : Cx} (e : X.K = K) : OpR X (binaryOp .Add) (rCatA K) := by subst e; exact op_catA
theorem k_slTL {t : TL α} {lo hi : Option Int} (zh : Same Z H) (h : Py.R K Z v t) (k : Tel K Z H Q (⟨cutL t.l lo hi⟩ : TL α)) : rSlA K v lo hi H Q := by
  have h0 := h
  obtain ⟨a, xs, rfl, hz, p⟩ := h
  refine ⟨a, xs, rfl, SqT.of (zh _ _ hz), fun e => ?_, fun e => Tel.lay zh (p.pCut lo hi) k⟩
  have hl : (cutL t.l lo hi) = t.l := by
    obtain ⟨e1, e2⟩ := e
    unfold cutL
    rw [← p.pLen, e1, e2, Nat.sub_zero, p.pLen, List.drop_zero, List.take_length]
  refine Tel.old (t := ⟨cutL t.l lo hi⟩) zh ?_ k
  rw [hl]
  exact h0
theorem k_tupTL {xs : List V} {m : List α} (zh : Same Z H) (pr : Paired (Py.R K Z) xs m) (hs : xs.length ≤ sizeLine) (k : Tel K Z H Q (⟨m⟩ : TL α)) : rTupQ xs H Q := ⟨hs, fun p hp => Tel.lay zh (t := ⟨m⟩) pr k p hp⟩
theorem k_catTL {l m : TL α} (zh : Same Z H) (hx : Py.R K Z x l) (hy : Py.R K Z y m) (hs : l.l.length + m.l.length ≤ sizeLine) (k : Tel K Z H Q (⟨l.l ++ m.l⟩ : TL α)) : rCatA K x y H Q := by
  have hx0 := hx
  have hy0 := hy
  obtain ⟨a, xs, rfl, hz, p⟩ := hx
  obtain ⟨b, ys, rfl, hz2, p2⟩ := hy
  refine ⟨a, b, xs, ys, rfl, rfl, SqT.of (zh _ _ hz), SqT.of (zh _ _ hz2), by rw [p.pLen, p2.pLen]; exact hs, fun e => ?_, fun _ e => ?_, fun _ _ => Tel.lay (t := ⟨l.l ++ m.l⟩) zh (p.pApp p2) k⟩
  · have e2 : l.l = [] := List.eq_nil_of_length_eq_zero (by rw [← p.pLen, e]; rfl)
    refine Tel.old (t := ⟨l.l ++ m.l⟩) zh ?_ k
    rw [e2]
    exact hy0
  · have e2 : m.l = [] := List.eq_nil_of_length_eq_zero (by rw [← p2.pLen, e]; rfl)
    refine Tel.old (t := ⟨l.l ++ m.l⟩) zh ?_ k
    rw [e2, List.append_nil]
    exact hx0
end
/-! of one's own -/
def Sh.tl {α : Type} (S : Sh α) : Sh (TL α) := (Sh.tup (ShL.all S)).via TL.l
instance {α : Type} [Py α] {S : Sh α} [Dat S] : Dat (Sh.tl S) := ⟨fun ⟨p, xs, qs, e1, _, h1, h2⟩ => ⟨p, xs, e1, h1, allR_dat h2⟩⟩
instance {α : Type} {S : Sh α} [NoZS S] : NoZS (Sh.tl S) := ⟨fun ⟨p, xs, qs, e1, e2, h1, h2⟩ => ⟨p, xs, qs, e1, e2, h1, allR_noz h2⟩⟩
section
variable {α β : Type} {S : Sh α} {SO : Sh β} {K : Fr} {Z H Z' H' Z0 H0 Z2 H2 : Hp} {v u : V} {ps qs : List Addr} {b : β} {Q : VK}
end
end Cd
namespace Cd
end Cd

set_option Elab.async false
set_option linter.all false
set_option maxRecDepth 100000
set_option maxHeartbeats 4000000
namespace Cd
open PySem L2 PyProof.Rows
/-! ### a dict that may be locked: it can be read -/
structure FD (κ α : Type) where
  d : Dct κ α
section
variable {κ α : Type} [Sc κ] [DecidableEq κ] [Kt κ] [Py α]
instance : Py (FD κ α) where
  R K Z v f := ∃ a kvs, v = .ref a ∧ Rd Z a (.dK kvs) ∧ Paired (EntK K Z) kvs f.d.kv
  mono := fun {K Z Z' v l} s h => by
    obtain ⟨a, xs, e, hz, p⟩ := h
    refine ⟨a, xs, e, ?_, Paired.pImp (fun _ _ r => r.mono s) p⟩
    rcases hz with hz | ⟨o, hz⟩
    · exact .inl (s _ _ hz)
    · exact .inr ⟨o, s _ _ hz⟩
theorem FD.of {K : Fr} {Z : Hp} {v : V} {m : Dct κ α} (h : Py.R K Z v m) : Py.R K Z v (FD.mk m) := let ⟨a, xs, e, hz, pr⟩ := h; ⟨a, xs, e, .inl hz, pr⟩
theorem RD.fd {K : Fr} {Z H : Hp} {v : V} {m : Dct κ α} (zh : Same Z H) (h : Py.R K Z v (FD.mk m)) : RD K Z H v m := by
  obtain ⟨a, xs, e, hz, pr⟩ := h
  refine ⟨a, xs, e, ?_, pr⟩
  rcases hz with hz | ⟨o, hz⟩
  · exact .inl (zh _ _ hz)
  · exact .inr ⟨o, zh _ _ hz⟩
end
/-! ### locking -/
def FzR (Z Z' : Hp) : Prop := ∀ b u, Z b = some u → (∀ kvs, u ≠ .dK kvs) → (∀ o kvs, u ≠ .frz o (.dK kvs)) → Z' b = some u
class ND (α : Type) [Py α] : Prop where
  fz : ∀ {K : Fr} {Z Z' : Hp} {v : V} {a : α}, FzR Z Z' → Py.R K Z v a → Py.R K Z' v a
instance (priority := low) {α : Type} [Py α] [NoZ α] : ND α := ⟨fun _ h => NoZ.back h⟩
theorem FzR.l {Z Z' : Hp} (s : FzR Z Z') {b : Addr} {xs : List V} (h : Z b = some (.lst xs)) : Z' b = some (.lst xs) := s _ _ h (fun _ e => nomatch e) (fun _ _ e => nomatch e)
theorem FzR.t {Z Z' : Hp} (s : FzR Z Z') {b : Addr} {xs : List V} (h : Z b = some (.tup xs)) : Z' b = some (.tup xs) := s _ _ h (fun _ e => nomatch e) (fun _ _ e => nomatch e)
instance {α : Type} [Py α] [ND α] : ND (List α) := ⟨fun s h => let ⟨a, xs, e, hz, p⟩ := h; ⟨a, xs, e, s.l hz, Paired.pImp (fun _ _ r => ND.fz s r) p⟩⟩
instance {α : Type} [Py α] [ND α] : ND (TL α) := ⟨fun s h => let ⟨a, xs, e, hz, p⟩ := h; ⟨a, xs, e, s.t hz, Paired.pImp (fun _ _ r => ND.fz s r) p⟩⟩
instance {α β : Type} [Py α] [Py β] [ND α] [ND β] : ND (α × β) := ⟨fun s h => let ⟨a, x, y, e, hz, p, q⟩ := h; ⟨a, x, y, e, s.t hz, ND.fz s p, ND.fz s q⟩⟩
instance {α β γ : Type} [Py α] [Py β] [Py γ] [ND α] [ND β] [ND γ] : ND (T3 α β γ) := ⟨fun s h => let ⟨a, x, y, z, e, hz, p, q, r⟩ := h; ⟨a, x, y, z, e, s.t hz, ND.fz s p, ND.fz s q, ND.fz s r⟩⟩
instance {α β γ δ : Type} [Py α] [Py β] [Py γ] [Py δ] [ND α] [ND β] [ND γ] [ND δ] : ND (T4 α β γ δ) := ⟨fun s h => let ⟨a, x, y, z, w, e, hz, p, q, r, t⟩ := h; ⟨a, x, y, z, w, e, s.t hz, ND.fz s p, ND.fz s q, ND.fz s r, ND.fz s t⟩⟩
instance {α : Type} [Py α] [ND α] : ND (Option α) := ⟨fun {K Z Z' v a} s h => by
  cases a with
  | none => exact h
  | some a => exact ND.fz (α := α) s h⟩
instance : ND Scr := ⟨fun {K Z Z' v l} s h => by
  obtain ⟨a, e, hz⟩ := h
  refine ⟨a, e, ?_⟩
  rcases hz with (hz | ⟨o, hz⟩) | hz
  · exact .inl (.inl (s.l hz))
  · exact .inl (.inr ⟨o, s _ _ hz (fun _ e => nomatch e) (fun _ _ e => by injection e with _ e2; cases e2)⟩)
  · exact .inr hz⟩
instance {α β γ : Type} [Py α] [Py β] [Py γ] [ND α] [ND β] [ND γ] : ND (TO α β γ) := ⟨fun {K Z Z' v p} s r => by
  obtain ⟨x1, x2, x3⟩ := p
  obtain ⟨a, x, y, e, h1, h2, h3⟩ := r
  refine ⟨a, x, y, e, ND.fz s h1, ND.fz s h2, ?_⟩
  cases x3 with
  | none => exact s.t h3
  | some c =>
    obtain ⟨z, hz, h4⟩ := h3
    exact ⟨z, s.t hz, ND.fz s h4⟩⟩
section
variable {K : Fr} {Z H Z0 H0 Z' H' : Hp} {d : Addr} {kvs : List (Key × V)} {od : Obj}
theorem Step.lock (c : Step Z0 H0 Z H) (hd : Z d = some (.dK kvs)) (od : Obj) : Step (delL Z0 [d]) (delL H0 [d]) (upd Z d (.frz od (.dK kvs))) (upd H d (.frz od (.dK kvs))) := by
  refine ⟨fun b u e => ?_, fun b u e => ?_, fun b u e => ?_, fun b u e => ?_⟩
  · by_cases q : b = d
    · subst q; unfold delL at e; rw [if_pos (by simp)] at e; cases e
    · unfold delL at e; rw [if_neg (by simpa using q)] at e; rw [upd_ne q]; exact c.hh _ _ e
  · by_cases q : b = d
    · subst q; unfold delL at e; rw [if_pos (by simp)] at e; cases e
    · unfold delL at e; rw [if_neg (by simpa using q)] at e; rw [upd_ne q]; exact c.zz _ _ e
  · by_cases q : b = d
    · subst q; rw [upd_same] at e ⊢; exact e
    · rw [upd_ne q] at e ⊢; exact c.zh _ _ e
  · by_cases q : b = d
    · subst q; unfold delL at e; rw [if_pos (by simp)] at e; cases e
    · unfold delL at e ⊢
      rw [if_neg (by simpa using q)] at e ⊢
      rw [upd_ne q]; exact c.fr _ _ e
theorem Step.unlock (c : Step Z0 H0 Z H) (hd : Z d = some (.dK kvs)) (ci : Step (delL Z0 [d]) (delL H0 [d]) Z' H') : Step Z0 H0 (upd Z' d (.dK kvs)) (upd H' d (.dK kvs)) := by
  refine ⟨fun b u e => ?_, fun b u e => ?_, fun b u e => ?_, fun b u e => ?_⟩
  · by_cases q : b = d
    · subst q
      have h1 := c.hh _ _ e
      rw [c.zh _ _ hd] at h1
      rw [upd_same]; exact h1
    · rw [upd_ne q]; exact ci.hh _ _ (by unfold delL; rw [if_neg (by simpa using q)]; exact e)
  · by_cases q : b = d
    · subst q
      have h1 := c.zz _ _ e
      rw [hd] at h1
      rw [upd_same]; exact h1
    · rw [upd_ne q]; exact ci.zz _ _ (by unfold delL; rw [if_neg (by simpa using q)]; exact e)
  · by_cases q : b = d
    · subst q; rw [upd_same] at e ⊢; exact e
    · rw [upd_ne q] at e ⊢; exact ci.zh _ _ e
  · by_cases q : b = d
    · subst q
      have h1 := c.fr _ _ e
      rw [upd_same, ← h1]; exact hd.symm
    · rw [upd_ne q]
      have h1 := ci.fr b u (by unfold delL; rw [if_neg (by simpa using q)]; exact e)
      unfold delL at h1
      rw [if_neg (by simpa using q)] at h1
      exact h1
theorem lock_fz (hd : Z d = some (.dK kvs)) : FzR Z (upd Z d (.frz od (.dK kvs))) := fun b u e h1 _ => by
  by_cases q : b = d
  · subst q; rw [hd] at e; cases e; exact absurd rfl (h1 kvs)
  · rw [upd_ne q]; exact e
theorem unlock_fz (hd : Z d = some (.frz od (.dK kvs))) : FzR Z (upd Z d (.dK kvs)) := fun b u e h1 h2 => by
  by_cases q : b = d
  · subst q; rw [hd] at e; cases e; exact absurd rfl (h2 _ _)
  · rw [upd_ne q]; exact e
theorem FD.lock {κ α : Type} [Sc κ] [DecidableEq κ] [Kt κ] [Py α] [ND α] {v : V} {m : Dct κ α} (hd : Z d = some (.dK kvs)) (h : Py.R K Z v m) : Py.R K (upd Z d (.frz od (.dK kvs))) v (FD.mk m) := by
  obtain ⟨a, xs, e, hz, pr⟩ := h
  refine ⟨a, xs, e, ?_, Paired.pImp (fun _ _ r => ⟨r.1, ND.fz (lock_fz hd) r.2⟩) pr⟩
  by_cases q : a = d
  · subst q; rw [hd] at hz; cases hz; exact .inr ⟨od, upd_same⟩
  · exact .inl (by rw [upd_ne q]; exact hz)
theorem Own.lock {α : Type} [Py α] [ND α] {p : Addr} {l : List α} (o : Own K H0 Z H p l) (hd : Z d = some (.dK kvs)) : Own K (delL H0 [d]) (upd Z d (.frz od (.dK kvs))) (upd H d (.frz od (.dK kvs))) p l := by
  obtain ⟨⟨xs, h, pr⟩, nz, n0⟩ := o
  have q : p ≠ d := fun e => by rw [e, hd] at nz; cases nz
  exact ⟨⟨xs, by rw [upd_ne q]; exact h, Paired.pImp (fun _ _ r => ND.fz (lock_fz hd) r) pr⟩, by rw [upd_ne q]; exact nz, by unfold delL; split; rfl; exact n0⟩
theorem Own.unlock {α : Type} [Py α] [ND α] {p : Addr} {l : List α} (o : Own K (delL H0 [d]) Z' H' p l) (hd : Z' d = some (.frz od (.dK kvs))) : Own K H0 (upd Z' d (.dK kvs)) (upd H' d (.dK kvs)) p l := by
  obtain ⟨⟨xs, h, pr⟩, nz, n0⟩ := o
  have q : p ≠ d := fun e => by rw [e, hd] at nz; cases nz
  exact ⟨⟨xs, by rw [upd_ne q]; exact h, Paired.pImp (fun _ _ r => ND.fz (unlock_fz hd) r) pr⟩, by rw [upd_ne q]; exact nz, by unfold delL at n0; rw [if_neg (by simpa using q)] at n0; exact n0⟩
theorem OwnD.lock {κ α : Type} [Sc κ] [DecidableEq κ] [Kt κ] [Py α] [ND α] {p : Addr} {l : Dct κ α} (o : OwnD K H0 Z H p l) (hd : Z d = some (.dK kvs)) : OwnD K (delL H0 [d]) (upd Z d (.frz od (.dK kvs))) (upd H d (.frz od (.dK kvs))) p l := by
  obtain ⟨⟨xs, h, pr⟩, nz, n0⟩ := o
  have q : p ≠ d := fun e => by rw [e, hd] at nz; cases nz
  exact ⟨⟨xs, by rw [upd_ne q]; exact h, Paired.pImp (fun _ _ r => ⟨r.1, ND.fz (lock_fz hd) r.2⟩) pr⟩, by rw [upd_ne q]; exact nz, by unfold delL; split; rfl; exact n0⟩
theorem OwnD.unlock {κ α : Type} [Sc κ] [DecidableEq κ] [Kt κ] [Py α] [ND α] {p : Addr} {l : Dct κ α} (o : OwnD K (delL H0 [d]) Z' H' p l) (hd : Z' d = some (.frz od (.dK kvs))) : OwnD K H0 (upd Z' d (.dK kvs)) (upd H' d (.dK kvs)) p l := by
  obtain ⟨⟨xs, h, pr⟩, nz, n0⟩ := o
  have q : p ≠ d := fun e => by rw [e, hd] at nz; cases nz
  exact ⟨⟨xs, by rw [upd_ne q]; exact h, Paired.pImp (fun _ _ r => ⟨r.1, ND.fz (unlock_fz hd) r.2⟩) pr⟩, by rw [upd_ne q]; exact nz, by unfold delL at n0; rw [if_neg (by simpa using q)] at n0; exact n0⟩
class NDS {α : Type} (S : Sh α) : Prop where
  fz : ∀ {K : Fr} {Z Z' H : Hp} {v : V} {ps : List Addr} {a : α}, FzR Z Z' → S.R K Z H v ps a → S.R K Z' H v ps a
theorem OwnO.lock {α : Type} {S : Sh α} [NDS S] {v : V} {ps : List Addr} {a : α} (o : OwnO S K H0 Z H v ps a) (hd : Z d = some (.dK kvs)) : OwnO S K (delL H0 [d]) (upd Z d (.frz od (.dK kvs))) (upd H d (.frz od (.dK kvs))) v ps a := by
  have q : ∀ p ∈ ps, p ≠ d := fun p hp e => by have := o.nz p hp; rw [e, hd] at this; cases this
  refine ⟨NDS.fz (lock_fz hd) (S.keep (Same.refl _) (fun p hp => upd_ne (q p hp)) o.r), o.nd, fun p hp => ?_, fun p hp => ?_⟩
  · rw [upd_ne (q p hp)]; exact o.nz p hp
  · unfold delL; split; rfl; exact o.n0 p hp
theorem OwnO.unlock {α : Type} {S : Sh α} [NDS S] {v : V} {ps : List Addr} {a : α} (o : OwnO S K (delL H0 [d]) Z' H' v ps a) (hd : Z' d = some (.frz od (.dK kvs))) : OwnO S K H0 (upd Z' d (.dK kvs)) (upd H' d (.dK kvs)) v ps a := by
  have q : ∀ p ∈ ps, p ≠ d := fun p hp e => by have := o.nz p hp; rw [e, hd] at this; cases this
  refine ⟨NDS.fz (unlock_fz hd) (S.keep (Same.refl _) (fun p hp => upd_ne (q p hp)) o.r), o.nd, fun p hp => ?_, fun p hp => ?_⟩
  · rw [upd_ne (q p hp)]; exact o.nz p hp
  · have := o.n0 p hp
    unfold delL at this
    rw [if_neg (by simpa using q p hp)] at this
    exact this
end
instance {α : Type} [Py α] [ND α] : NDS (Sh.told (α := α)) := ⟨fun s h => ⟨h.1, ND.fz s h.2⟩⟩
instance {α : Type} [Py α] [ND α] : NDS (Sh.lt α) := ⟨fun s ⟨p, xs, e1, e2, h1, h2⟩ => ⟨p, xs, e1, e2, h1, Paired.pImp (fun _ _ r => ND.fz s r) h2⟩⟩
instance {κ α : Type} [Sc κ] [DecidableEq κ] [Kt κ] [Py α] [ND α] : NDS (Sh.dc κ α) := ⟨fun s ⟨p, xs, e1, e2, h1, h2⟩ => ⟨p, xs, e1, e2, h1, Paired.pImp (fun _ _ r => ⟨r.1, ND.fz s r.2⟩) h2⟩⟩
theorem allR_fz {α : Type} {S : Sh α} [NDS S] {K : Fr} {Z Z' H : Hp} (s : FzR Z Z') : ∀ {l : List α} {vs : List V} {ps : List Addr}, allR S K Z H vs ps l → allR S K Z' H vs ps l
  | [], _, _, h => h
  | a :: r, _, _, ⟨v, ws, qs, rs, e1, e2, h1, h2⟩ => ⟨v, ws, qs, rs, e1, e2, NDS.fz s h1, allR_fz s h2⟩
instance {α : Type} {S : Sh α} [NDS S] : NDS (Sh.lst (ShL.all S)) := ⟨fun s ⟨p, xs, qs, e1, e2, h1, h2⟩ => ⟨p, xs, qs, e1, e2, h1, allR_fz s h2⟩⟩
instance {α β : Type} {S : Sh α} {T : Sh β} [NDS S] [NDS T] : NDS (Sh.pr S T) := ⟨fun s ⟨p, xs, qs, e1, e0, h1, v, ws, q1, r1, e2, f2, g1, v2, ws2, q2, r2, e3, f3, g2, e4, f4⟩ => ⟨p, xs, qs, e1, e0, h1, v, ws, q1, r1, e2, f2, NDS.fz (S := S) s g1, v2, ws2, q2, r2, e3, f3, NDS.fz (S := T) s g2, e4, f4⟩⟩
instance {α : Type} {S : Sh α} [NDS S] : NDS (Sh.opt S) := ⟨fun {K Z Z' H v ps a} s r => by
  cases a with
  | none => exact r
  | some a => exact NDS.fz (S := S) s r⟩
section
variable {K : Fr} {Z : Hp} {d : Addr} {kvs : List (Key × V)} {od : Obj} {κ α : Type} [Sc κ] [DecidableEq κ] [Kt κ] [Py α]
end
theorem OwnD.stepD {κ α : Type} [Sc κ] [DecidableEq κ] [Kt κ] [Py α] {K : Fr} {Z H Z' H' H0 : Hp} {p : Addr} {l : Dct κ α} {qs : List Addr} (o : OwnD K H0 Z H p l) (st : Step Z (delL H qs) Z' H') (hn : p ∉ qs) : OwnD K H0 Z' H' p l := by
  obtain ⟨⟨xs, h, pr⟩, nz, n0⟩ := o
  have e : delL H qs p = some (.dK xs) := by rw [delL_out hn]; exact h
  exact ⟨⟨xs, st.hh _ _ e, Paired.pImp (fun _ _ r => r.mono st.zz) pr⟩, (st.fr _ _ e).trans nz, n0⟩
end Cd

set_option Elab.async false
set_option linter.all false
set_option maxRecDepth 100000
set_option maxHeartbeats 4000000
namespace Cd
open PySem L2 PyProof.Rows
/-! ### what a def comes to: an answer, a refusal, or what is not promised -/
inductive R (α : Type) where
  | ok (a : α) | ex (e : Er) | bad
def R.bind {α β : Type} (m : R α) (k : α → R β) : R β := match m with
  | .ok a => k a
  | .ex e => .ex e
  | .bad => .bad
/-- a refusal that is not looked for -/
def R.nx {α : Type} (m : R α) : R α := match m with
  | .ok a => .ok a
  | _ => .bad
noncomputable def chk {α : Type} (p : Prop) (k : R α) : R α := @ite _ p (Classical.propDecidable p) k .bad
def vl {α β : Type} (a : α) (k : α → R β) : R β := k a
@[simp] theorem R.bind_ok {α β : Type} (a : α) (k : α → R β) : (R.ok a).bind k = k a := rfl
@[simp] theorem R.bind_ex {α β : Type} (e : Er) (k : α → R β) : (R.ex e).bind k = .ex e := rfl
@[simp] theorem R.nx_ok {α : Type} (a : α) : (R.ok a).nx = .ok a := rfl
theorem chk_t {α : Type} {p : Prop} {k : R α} (h : p) : chk p k = k := if_pos h
theorem chk_eq {α : Type} {p : Prop} {k x : R α} (h : p) (e : k = x) : chk p k = x := (chk_t h).trans e
theorem bind_eq {α β : Type} {m : R α} {k : α → R β} {a : α} {x : R β} (h : m = .ok a) (e : k a = x) : m.bind k = x := by rw [h]; exact e
/-- what is wanted of it -/
def Good {α : Type} (m : R α) (W : α → Prop) (E : Er → Prop) : Prop := match m with
  | .ok a => W a
  | .ex e => E e
  | .bad => False
def NoE : Er → Prop := fun _ => False
section
variable {α β : Type} {m : R α} {k : α → R β} {W : α → Prop} {V : β → Prop} {E : Er → Prop}
theorem Good.imp {W' : α → Prop} {E' : Er → Prop} (h : Good m W E) (hw : ∀ a, W a → W' a) (he : ∀ e, E e → E' e) : Good m W' E' := by
  cases m with
  | ok a => exact hw a h
  | ex e => exact he e h
  | bad => exact h
theorem Good.chk {p : Prop} (h : Good (chk p m) W E) : p ∧ Good m W E := by
  by_cases q : p
  · rw [chk_t q] at h; exact ⟨q, h⟩
  · unfold Cd.chk at h; rw [if_neg q] at h; exact h.elim
theorem Good.vl {a x : α} (e : x = a) (h : Good (vl a k) V E) : Good (k x) V E := by subst e; exact h
theorem Good.bnd (h : Good (m.bind k) V E) : Good m (fun a => Good (k a) V E) E := by
  cases m with
  | ok a => exact h
  | ex e => exact h
  | bad => exact h
theorem Good.opn (h : Good m W E) : ∃ W' E', Good m W' E' ∧ (∀ a, W' a → W a) ∧ ∀ e, E' e → E e := ⟨W, E, h, fun _ h => h, fun _ h => h⟩
theorem Good.bndW (h : Good (m.bind k) V E) : ∃ W' : α → Prop, Good m W' E ∧ ∀ a, W' a → Good (k a) V E := ⟨_, h.bnd, fun _ h => h⟩
theorem Good.ifT {p : Prop} [Decidable p] {b : R α} (e : p) (h : Good (if p then m else b) W E) : Good m W E := by rw [if_pos e] at h; exact h
theorem Good.ifF {p : Prop} [Decidable p] {b : R α} (e : ¬ p) (h : Good (if p then b else m) W E) : Good m W E := by rw [if_neg e] at h; exact h
theorem Good.nx (h : Good m.nx W E) : Good m W NoE := by
  cases m with
  | ok a => exact h
  | ex e => exact h
  | bad => exact h
theorem Good.ok_of (h : Good m W E) (hx : ∀ e, E e → False) : ∃ a, m = .ok a ∧ W a := by
  cases m with
  | ok a => exact ⟨a, rfl, h⟩
  | ex e => exact (hx e h).elim
  | bad => exact h.elim
end
/-! loops -/
def forR {α S : Type} (f : S → α → R S) : S → List α → R S
  | s, [] => .ok s
  | s, x :: r => (f s x).bind fun s' => forR f s' r
def LR.nextR {S T : Type} (o : LR S T) (k : S → R (LR S T)) : R (LR S T) := match o with
  | .nxt s => k s
  | o => .ok o
def forL {α S T : Type} (f : S → α → R (LR S T)) : S → List α → R (LR S T)
  | s, [] => .ok (.nxt s)
  | s, x :: r => (f s x).bind fun o => LR.nextR o fun s' => forL f s' r
def LR.go {S T U : Type} (o : LR S T) (k : S → R U) (k2 : T → R U) : R U := match o with
  | .nxt s => k s
  | .brk s => k s
  | .ret v => k2 v
def whR {S : Type} (c : S → R Bool) (f : S → R S) : Nat → S → R S
  | 0, _ => .bad
  | n + 1, s => (c s).bind fun b => if b = true then (f s).bind fun s' => whR c f n s' else .ok s
def whL {S T : Type} (c : S → R Bool) (f : S → R (LR S T)) : Nat → S → R (LR S T)
  | 0, _ => .bad
  | n + 1, s => (c s).bind fun b => if b = true then (f s).bind fun o => LR.nextR o fun s' => whL c f n s' else .ok (.nxt s)
section
variable {α S T : Type} {W : S → Prop} {E : Er → Prop} {V : LR S T → Prop}
theorem Good.forR {f : S → α → R S} {s : S} {x : α} {r : List α} (h : Good (forR f s (x :: r)) W E) : ∃ W' : S → Prop, Good (f s x) W' E ∧ ∀ s', W' s' → Good (Cd.forR f s' r) W E := Good.bndW h
theorem Good.forL {f : S → α → R (LR S T)} {s : S} {x : α} {r : List α} (h : Good (forL f s (x :: r)) V E) : ∃ W' : LR S T → Prop, Good (f s x) W' E ∧ (∀ s', W' (.nxt s') → Good (Cd.forL f s' r) V E) ∧ (∀ s', W' (.brk s') → V (.brk s')) ∧ ∀ v, W' (.ret v) → V (.ret v) :=
  ⟨_, Good.bnd h, fun _ h => h, fun _ h => h, fun _ h => h⟩
theorem Good.whR {c : S → R Bool} {f : S → R S} {n : Nat} {s : S} (h : Good (whR c f (n + 1) s) W E) : ∃ W' : Bool → Prop, Good (c s) W' E ∧ (W' true → ∃ W2 : S → Prop, Good (f s) W2 E ∧ ∀ s', W2 s' → Good (Cd.whR c f n s') W E) ∧ (W' false → W s) :=
  ⟨_, Good.bnd h, fun h => ⟨_, Good.bnd (Good.ifT rfl h), fun _ h => h⟩, fun h => Good.ifF (by decide) h⟩
theorem Good.whL {c : S → R Bool} {f : S → R (LR S T)} {n : Nat} {s : S} (h : Good (whL c f (n + 1) s) V E) : ∃ W' : Bool → Prop, Good (c s) W' E ∧ (W' true → ∃ W2 : LR S T → Prop, Good (f s) W2 E ∧ (∀ s', W2 (.nxt s') → Good (Cd.whL c f n s') V E) ∧ (∀ s', W2 (.brk s') → V (.brk s')) ∧ ∀ v, W2 (.ret v) → V (.ret v)) ∧ (W' false → V (.nxt s)) :=
  ⟨_, Good.bnd h, fun h => ⟨_, Good.bnd (Good.ifT rfl h), fun _ h => h, fun _ h => h, fun _ h => h⟩, fun h => Good.ifF (by decide) h⟩
end
/-! loops, reckoned -/
section
variable {α β S T : Type}
@[simp] theorem forR_nil (f : S → α → R S) (s : S) : forR f s [] = .ok s := rfl
@[simp] theorem forL_nil (f : S → α → R (LR S T)) (s : S) : forL f s [] = .ok (.nxt s) := rfl
theorem forL_cons (f : S → α → R (LR S T)) (s : S) (x : α) (r : List α) : forL f s (x :: r) = (f s x).bind fun o => LR.nextR o fun s' => forL f s' r := rfl
@[simp] theorem go_nxt {U : Type} (s : S) (k : S → R U) (k2 : T → R U) : LR.go (.nxt s) k k2 = k s := rfl
@[simp] theorem go_brk {U : Type} (s : S) (k : S → R U) (k2 : T → R U) : LR.go (.brk s) k k2 = k s := rfl
@[simp] theorem go_ret {U : Type} (v : T) (k : S → R U) (k2 : T → R U) : LR.go (.ret v) k k2 = k2 v := rfl
end
/-! comprehensions whose items are reckoned by calls -/
def lcR {γ β : Type} (F : γ → R (Option β)) : List γ → R (List β)
  | [] => .ok []
  | x :: r => (F x).bind fun o => (lcR F r).bind fun bs => .ok (o.toList ++ bs)
theorem lcR_map {γ β : Type} {F : γ → R (Option β)} {f : γ → β} : ∀ {l : List γ}, (∀ x ∈ l, F x = .ok (some (f x))) → lcR F l = .ok (l.map f)
  | [], _ => rfl
  | x :: r, h => by
    show (F x).bind _ = _
    rw [h x List.mem_cons_self, R.bind_ok, lcR_map (fun y hy => h y (List.mem_cons_of_mem _ hy))]
    rfl
end Cd

set_option Elab.async false
set_option linter.all false
set_option maxRecDepth 100000
set_option maxHeartbeats 4000000
namespace Cd
open PySem L2 PyProof.Rows
/-! ### all that a def holds: told things and things of its own, apart from one another -/
structure Rt where
  {α : Type}
  S : Sh α
  v : V
  a : α
structure Sep (K : Fr) (Z0 H0 Z H : Hp) (G : List Rt) : Prop where
  st : Step Z0 H0 Z H
  ow : ∃ f : Nat → List Addr, (∀ i r, G[i]? = some r → OwnO r.S K H0 Z H r.v (f i) r.a) ∧ ∀ i j r s, i ≠ j → G[i]? = some r → G[j]? = some s → ∀ q ∈ f i, q ∉ f j
/-- kinds of objects that may be changed -/
def MutO : HO → Prop
  | .lst _ => True
  | .dK _ => True
  | .ins _ _ _ => True
  | .own _ => True
  | _ => False
class MutS {α : Type} (S : Sh α) : Prop where
  mt : ∀ {K : Fr} {Z H : Hp} {v : V} {ps : List Addr} {a : α}, S.R K Z H v ps a → ∀ q ∈ ps, ∃ u, H q = some u ∧ MutO u
/-- data that hold nothing that may be changed -/
class Imm (α : Type) [Py α] : Prop where
  imm : ∀ {K : Fr} {Z Z' : Hp} {v : V} {a : α}, (∀ b u, Z b = some u → ¬ MutO u → Z' b = some u) → Py.R K Z v a → Py.R K Z' v a
class ImmS {α : Type} (S : Sh α) : Prop where
  imm : ∀ {K : Fr} {Z Z' H : Hp} {v : V} {ps : List Addr} {a : α}, (∀ b u, Z b = some u → ¬ MutO u → Z' b = some u) → S.R K Z H v ps a → S.R K Z' H v ps a
section
variable {K : Fr} {Z0 H0 Z H Z' H' Z2 H2 Zb : Hp} {G G' : List Rt}
theorem Sep.zh (h : Sep K Z0 H0 Z H G) : Same Z H := h.st.zh
theorem Sep.start (zh : Same Z H) : Sep K Z H Z H [] := ⟨Step.refl zh, fun _ => [], fun i r e => by simp at e, fun i j r s _ e => by simp at e⟩
theorem Sep.base (st : Step Z0 H0 Z H) : Sep K Z0 H0 Z H [] := ⟨st, fun _ => [], fun i r e => by simp at e, fun i j r s _ e => by simp at e⟩
theorem Sep.step (h : Sep K Z0 H0 Z H G) (st : Step Z H Z' H') : Sep K Z0 H0 Z' H' G := by
  obtain ⟨c, f, h1, h2⟩ := h
  exact ⟨c.trans st, f, fun i r e => (h1 i r e).step st, h2⟩
theorem Sep.nth (h : Sep K Z0 H0 Z H G) (i : Nat) {r : Rt} (e : G[i]? = some r) : ∃ ps, OwnO r.S K H0 Z H r.v ps r.a := by
  obtain ⟨c, f, h1, h2⟩ := h
  exact ⟨f i, h1 i r e⟩
theorem Sep.fact {α : Type} [Py α] {v : V} {a : α} (h : Sep K Z0 H0 Z H G) (i : Nat) (e : G[i]? = some ⟨Sh.told, v, a⟩) : Py.R K Z v a := by
  obtain ⟨ps, o⟩ := h.nth i e
  exact o.r.2
theorem Sep.pushO {α : Type} {S : Sh α} {v : V} {ps : List Addr} {a : α} (h : Sep K Z0 H0 Z H G) (o : OwnO S K H0 Z H v ps a) (hd : ∀ f : Nat → List Addr, (∀ i r, G[i]? = some r → OwnO r.S K H0 Z H r.v (f i) r.a) → ∀ i r, G[i]? = some r → ∀ q ∈ f i, q ∉ ps) : Sep K Z0 H0 Z H (⟨S, v, a⟩ :: G) := by
  obtain ⟨c, f, h1, h2⟩ := h
  refine ⟨c, fun i => match i with | 0 => ps | i + 1 => f i, fun i r e => ?_, fun i j r s ne e1 e2 => ?_⟩
  · cases i with
    | zero => simp only [List.getElem?_cons_zero, Option.some.injEq] at e; subst e; exact o
    | succ i => simp only [List.getElem?_cons_succ] at e; exact h1 i r e
  · cases i with
    | zero =>
      cases j with
      | zero => exact (ne rfl).elim
      | succ j => intro q hq hq2; simp only [List.getElem?_cons_succ] at e2; exact hd f h1 j s e2 q hq2 hq
    | succ i =>
      cases j with
      | zero => intro q hq hq2; simp only [List.getElem?_cons_succ] at e1; exact hd f h1 i r e1 q hq hq2
      | succ j => simp only [List.getElem?_cons_succ] at e1 e2; exact h2 i j r s (fun x => ne (by rw [x])) e1 e2
theorem Sep.tel {α : Type} [Py α] {v : V} {a : α} (h : Sep K Z0 H0 Z H G) (r : Py.R K Z v a) : Sep K Z0 H0 Z H (⟨Sh.told, v, a⟩ :: G) :=
  h.pushO (OwnO.ofR r) fun _ _ _ _ _ _ _ => fun h => nomatch h
/-- a new thing of one's own -/
theorem Sep.own {α : Type} {S : Sh α} {v : V} {ps : List Addr} {a : α} (h : Sep K Z0 H0 Z H G) (st : Step Z H Z' H') (o : OwnO S K H Z' H' v ps a) : Sep K Z0 H0 Z' H' (⟨S, v, a⟩ :: G) := by
  have h' := h.step st
  obtain ⟨c, f0, h1, h2⟩ := h
  refine ⟨c.trans st, fun i => match i with | 0 => ps | i + 1 => f0 i, fun i r e => ?_, fun i j r s ne e1 e2 => ?_⟩
  · cases i with
    | zero => simp only [List.getElem?_cons_zero, Option.some.injEq] at e; subst e; exact ⟨o.r, o.nd, o.nz, fun q hq => c.hh.free (o.n0 q hq)⟩
    | succ i => simp only [List.getElem?_cons_succ] at e; exact (h1 i r e).step st
  · have key : ∀ i r, G[i]? = some r → ∀ q ∈ f0 i, q ∉ ps := fun i r e q hq hp => by
      obtain ⟨u, hu⟩ := (h1 i r e).stands q hq
      rw [o.n0 q hp] at hu; cases hu
    cases i with
    | zero =>
      cases j with
      | zero => exact (ne rfl).elim
      | succ j => intro q hq hq2; simp only [List.getElem?_cons_succ] at e2; exact key j s e2 q hq2 hq
    | succ i =>
      cases j with
      | zero => intro q hq hq2; simp only [List.getElem?_cons_succ] at e1; exact key i r e1 q hq hq2
      | succ j => simp only [List.getElem?_cons_succ] at e1 e2; exact h2 i j r s (fun x => ne (by rw [x])) e1 e2
theorem Sep.drop {r : Rt} (h : Sep K Z0 H0 Z H (r :: G)) : Sep K Z0 H0 Z H G := by
  obtain ⟨c, f, h1, h2⟩ := h
  exact ⟨c, fun i => f (i + 1), fun i r e => h1 (i + 1) r (by simpa using e), fun i j r s ne e1 e2 => h2 (i + 1) (j + 1) r s (by omega) (by simpa using e1) (by simpa using e2)⟩
theorem Sep.drop1 {r r1 : Rt} (h : Sep K Z0 H0 Z H (r :: r1 :: G)) : Sep K Z0 H0 Z H (r :: G) := by
  obtain ⟨c, f, h1, h2⟩ := h
  refine ⟨c, fun i => match i with | 0 => f 0 | i + 1 => f (i + 2), fun i s e => ?_, fun i j s t ne e1 e2 => ?_⟩
  · cases i with
    | zero => exact h1 0 s (by simpa using e)
    | succ i => exact h1 (i + 2) s (by simpa using e)
  · cases i with
    | zero =>
      cases j with
      | zero => exact (ne rfl).elim
      | succ j => exact h2 0 (j + 2) s t (by omega) (by simpa using e1) (by simpa using e2)
    | succ i =>
      cases j with
      | zero => exact h2 (i + 2) 0 s t (by omega) (by simpa using e1) (by simpa using e2)
      | succ j => exact h2 (i + 2) (j + 2) s t (by omega) (by simpa using e1) (by simpa using e2)
/-- some of them, in any order -/
theorem Sep.pick (h : Sep K Z0 H0 Z H G) (is : List Nat) (hn : is.Nodup) (e : is.map (fun i => G[i]?) = G'.map some) : Sep K Z0 H0 Z H G' := by
  obtain ⟨c, f, h1, h2⟩ := h
  have at_ : ∀ (k : Nat) (r : Rt), G'[k]? = some r → ∃ i, is[k]? = some i ∧ G[i]? = some r := fun k r hk => by
    have e1 : (G'.map (some : Rt → Option Rt))[k]? = some (some r) := by rw [List.getElem?_map, hk]; rfl
    rw [← e, List.getElem?_map] at e1
    obtain ⟨i, e2, e3⟩ := Option.map_eq_some_iff.mp e1
    exact ⟨i, e2, e3⟩
  refine ⟨c, fun k => f (is.getD k 0), fun k r hk => ?_, fun k l r s ne hk hl => ?_⟩
  · obtain ⟨i, e1, e2⟩ := at_ k r hk
    dsimp only
    rw [List.getD_eq_getElem?_getD, e1]
    exact h1 i r e2
  · obtain ⟨i, e1, e2⟩ := at_ k r hk
    obtain ⟨j, e3, e4⟩ := at_ l s hl
    dsimp only
    rw [List.getD_eq_getElem?_getD, List.getD_eq_getElem?_getD, e1, e3]
    refine h2 i j r s (fun x => ne ?_) e2 e4
    subst x
    obtain ⟨hk1, hk2⟩ := List.getElem?_eq_some_iff.mp e1
    obtain ⟨hl1, hl2⟩ := List.getElem?_eq_some_iff.mp e3
    exact (List.getElem_inj hn).mp (hk2.trans hl2.symm)
/-- the i-th is changed -/
theorem Sep.chg (h : Sep K Z0 H0 Z H G) (i : Nat) {r : Rt} (e : G[i]? = some r) : ∃ ps, OwnO r.S K H0 Z H r.v ps r.a ∧
    ∀ {Z' H' : Hp} {β : Type} {S' : Sh β} {v' : V} {ps' : List Addr} {b : β}, Step Z0 H0 Z' H' → Same Z Z' → (∀ q u, q ∉ ps → H q = some u → H' q = some u ∧ Z' q = Z q) → OwnO S' K H0 Z' H' v' ps' b → (∀ q ∈ ps', q ∈ ps ∨ H q = none) → Sep K Z0 H0 Z' H' (G.set i ⟨S', v', b⟩) := by
  obtain ⟨c, f, h1, h2⟩ := h
  refine ⟨f i, h1 i r e, fun {Z' H' β S' v' ps' b} st s hk o hf => ⟨st, fun j => if j = i then ps' else f j, fun j t ej => ?_, fun j k t u ne ej ek => ?_⟩⟩
  · rw [List.getElem?_set] at ej
    by_cases q : i = j
    · subst q
      rw [if_pos rfl] at ej
      split at ej
      · cases ej; dsimp only; rw [if_pos rfl]; exact o
      · cases ej
    · rw [if_neg q] at ej
      dsimp only
      rw [if_neg (fun x : j = i => q x.symm)]
      have oj := h1 j t ej
      have hq : ∀ x ∈ f j, x ∉ f i := h2 j i t r (fun x => q x.symm) ej e
      exact oj.keep s (fun x hx => by obtain ⟨u, hu⟩ := oj.stands x hx; rw [hu]; exact (hk x u (hq x hx) hu).1) (fun x hx => by obtain ⟨u, hu⟩ := oj.stands x hx; exact (hk x u (hq x hx) hu).2)
  · have old : ∀ j t, j ≠ i → (G.set i ⟨S', v', b⟩)[j]? = some t → G[j]? = some t := fun j t q ej => by
      rw [List.getElem?_set, if_neg (fun x => q x.symm)] at ej; exact ej
    have key : ∀ j t, j ≠ i → (G.set i ⟨S', v', b⟩)[j]? = some t → ∀ q ∈ f j, q ∉ ps' := fun j t qj ej q hq hp => by
      have ej' := old j t qj ej
      rcases hf q hp with h | h
      · exact h2 j i t r qj ej' e q hq h
      · obtain ⟨u, hu⟩ := (h1 j t ej').stands q hq
        rw [h] at hu; cases hu
    dsimp only
    by_cases qj : j = i
    · subst qj
      rw [if_pos rfl, if_neg (fun x : k = j => ne x.symm)]
      intro q hq hq2
      exact key k u (fun x => ne x.symm) ek q hq2 hq
    · rw [if_neg qj]
      by_cases qk : k = i
      · subst qk
        rw [if_pos rfl]
        exact key j t qj ej
      · rw [if_neg qk]
        exact h2 j k t u ne (old j t qj ej) (old k u qk ek)
/-- .. at one of its places -/
theorem Sep.mutO {α β : Type} {S : Sh α} {S' : Sh β} {v : V} {a : α} {b : β} {q : Addr} {w : HO} (h : Sep K Z0 H0 Z H G) (i : Nat) (e : G[i]? = some ⟨S, v, a⟩) (k : ∀ ps, OwnO S K H0 Z H v ps a → q ∈ ps ∧ OwnO S' K H0 Z (upd H q w) v ps b) : Sep K Z0 H0 Z (upd H q w) (G.set i ⟨S', v, b⟩) := by
  have c := h.st
  obtain ⟨ps, o, g⟩ := h.chg i e
  obtain ⟨hq, o'⟩ := k ps o
  refine g (c.mut (o.nz q hq) (o.n0 q hq)) (Same.refl _) (fun x u hx hu => ⟨by rw [upd_ne (fun x2 => hx (by rw [x2]; exact hq))]; exact hu, rfl⟩) o' fun x hx => .inl hx
theorem Sep.L {α : Type} [Py α] {p : Addr} {l : List α} (h : Sep K Z0 H0 Z H G) (i : Nat) (e : G[i]? = some ⟨Sh.lt α, .ref p, l⟩) : Own K H0 Z H p l := by
  obtain ⟨ps, o⟩ := h.nth i e
  obtain ⟨p', e1, _, o'⟩ := o.own
  cases e1; exact o'
theorem Sep.D {κ α : Type} [Sc κ] [DecidableEq κ] [Kt κ] [Py α] {p : Addr} {d : Dct κ α} (h : Sep K Z0 H0 Z H G) (i : Nat) (e : G[i]? = some ⟨Sh.dc κ α, .ref p, d⟩) : OwnD K H0 Z H p d := by
  obtain ⟨ps, o⟩ := h.nth i e
  obtain ⟨p', e1, _, o'⟩ := o.ownD
  cases e1; exact o'
theorem Sep.mutL {α : Type} [Py α] {p : Addr} {l l' : List α} {w : HO} (h : Sep K Z0 H0 Z H G) (i : Nat) (e : G[i]? = some ⟨Sh.lt α, .ref p, l⟩) (o' : Own K H0 Z (upd H p w) p l') : Sep K Z0 H0 Z (upd H p w) (G.set i ⟨Sh.lt α, .ref p, l'⟩) :=
  h.mutO i e fun ps o => by
    obtain ⟨p', e1, e2, _⟩ := o.own
    cases e1
    rw [e2]
    exact ⟨by simp, o'.shp⟩
theorem Sep.mutD {κ α : Type} [Sc κ] [DecidableEq κ] [Kt κ] [Py α] {p : Addr} {d d' : Dct κ α} {w : HO} (h : Sep K Z0 H0 Z H G) (i : Nat) (e : G[i]? = some ⟨Sh.dc κ α, .ref p, d⟩) (o' : OwnD K H0 Z (upd H p w) p d') : Sep K Z0 H0 Z (upd H p w) (G.set i ⟨Sh.dc κ α, .ref p, d'⟩) :=
  h.mutO i e fun ps o => by
    obtain ⟨p', e1, e2, _⟩ := o.ownD
    cases e1
    rw [e2]
    exact ⟨by simp, o'.shp⟩
/-- told from now on -/
theorem Sep.tell {α : Type} [Py α] {S : Sh α} [Dat S] {v : V} {a : α} (h : Sep K Z0 H0 Z H G) (i : Nat) (e : G[i]? = some ⟨S, v, a⟩) : ∃ Z', Same Z Z' ∧ Sep K Z0 H0 Z' H (G.set i ⟨Sh.told, v, a⟩) := by
  have c := h.st
  obtain ⟨ps, o, g⟩ := h.chg i e
  obtain ⟨Z', c', s, r, hz⟩ := o.tell c
  exact ⟨Z', s, g c' s (fun q u hq hu => ⟨hu, hz q hq⟩) (OwnO.ofR r) fun _ h => nomatch h⟩
/-- seen as data, for the while -/
theorem Sep.see {α : Type} [Py α] {S : Sh α} [Dat S] {v : V} {a : α} (h : Sep K Z0 H0 Z H G) (i : Nat) (e : G[i]? = some ⟨S, v, a⟩) : ∃ Zs, Same Zs H ∧ Py.R K Zs v a := by
  obtain ⟨ps, o⟩ := h.nth i e
  exact ⟨_, o.seez h.zh, o.see⟩
/-! ### names of places -/
class IsRef {α : Type} (S : Sh α) : Prop where
  rf : ∀ {K : Fr} {Z H : Hp} {v : V} {ps : List Addr} {a : α}, S.R K Z H v ps a → ∃ p, v = .ref p
theorem Sep.ref {α : Type} {S : Sh α} [IsRef S] {v : V} {a : α} (h : Sep K Z0 H0 Z H G) (i : Nat) (e : G[i]? = some ⟨S, v, a⟩) : ∃ p, v = .ref p := by
  obtain ⟨ps, o⟩ := h.nth i e
  exact IsRef.rf o.r
end
instance {α : Type} [Py α] : IsRef (Sh.lt α) := ⟨fun ⟨p, _, e, _⟩ => ⟨p, e⟩⟩
instance {κ α : Type} [Sc κ] [DecidableEq κ] [Kt κ] [Py α] : IsRef (Sh.dc κ α) := ⟨fun ⟨p, _, e, _⟩ => ⟨p, e⟩⟩
instance {β : Type} {T : ShL β} : IsRef (Sh.lst T) := ⟨fun ⟨p, _, _, e, _⟩ => ⟨p, e⟩⟩
instance {β : Type} {T : ShL β} : IsRef (Sh.tup T) := ⟨fun ⟨p, _, _, e, _⟩ => ⟨p, e⟩⟩
instance {β : Type} {C : Addr} {ns : List Str} {T : ShL β} : IsRef (Sh.ins C ns T) := ⟨fun ⟨p, _, _, _, e, _⟩ => ⟨p, e⟩⟩
instance {α β : Type} {S : Sh β} {f : α → β} [IsRef S] : IsRef (S.via f) := ⟨fun h => IsRef.rf (S := S) h⟩
instance {α β : Type} {S : Sh α} {T : Sh β} : IsRef (Sh.pr S T) := inferInstanceAs (IsRef (Sh.via _ _))
instance {α : Type} {S : Sh α} : IsRef (Sh.tl S) := inferInstanceAs (IsRef (Sh.via _ _))
/-! ### kinds -/
instance {α : Type} [Py α] : MutS (Sh.told (α := α)) := ⟨fun ⟨e, _⟩ q hq => by rw [e] at hq; cases hq⟩
instance {α : Type} [Py α] : MutS (Sh.lt α) := ⟨fun ⟨p, xs, _, e2, h, _⟩ q hq => by rw [e2, List.mem_singleton] at hq; rw [hq]; exact ⟨_, h, trivial⟩⟩
instance {κ α : Type} [Sc κ] [DecidableEq κ] [Kt κ] [Py α] : MutS (Sh.dc κ α) := ⟨fun ⟨p, xs, _, e2, h, _⟩ q hq => by rw [e2, List.mem_singleton] at hq; rw [hq]; exact ⟨_, h, trivial⟩⟩
theorem allR_mut {α : Type} {S : Sh α} [MutS S] {K : Fr} {Z H : Hp} : ∀ {l : List α} {vs : List V} {ps : List Addr}, allR S K Z H vs ps l → ∀ q ∈ ps, ∃ u, H q = some u ∧ MutO u
  | [], _, _, ⟨_, e⟩, q, hq => by rw [e] at hq; cases hq
  | a :: r, _, _, ⟨v, ws, qs, rs, e1, e2, h1, h2⟩, q, hq => by
    rw [e2] at hq
    exact (List.mem_append.mp hq).elim (MutS.mt h1 q) (allR_mut h2 q)
instance {α : Type} {S : Sh α} [MutS S] : MutS (Sh.lst (ShL.all S)) := ⟨fun ⟨p, xs, qs, _, e2, h, r⟩ q hq => by
  rw [e2] at hq
  rcases List.mem_cons.mp hq with rfl | hq
  · exact ⟨_, h, trivial⟩
  · exact allR_mut r q hq⟩
instance (priority := low) {α : Type} [Py α] [NoZ α] : Imm α := ⟨fun _ h => NoZ.back h⟩
theorem imm_t {Z Z' : Hp} (s : ∀ b u, Z b = some u → ¬ MutO u → Z' b = some u) {b : Addr} {xs : List V} (h : Z b = some (.tup xs)) : Z' b = some (.tup xs) := s _ _ h fun h => h
instance {α β : Type} [Py α] [Py β] [Imm α] [Imm β] : Imm (α × β) := ⟨fun s h => let ⟨a, x, y, e, hz, p, q⟩ := h; ⟨a, x, y, e, imm_t s hz, Imm.imm s p, Imm.imm s q⟩⟩
instance {α β γ : Type} [Py α] [Py β] [Py γ] [Imm α] [Imm β] [Imm γ] : Imm (T3 α β γ) := ⟨fun s h => let ⟨a, x, y, z, e, hz, p, q, r⟩ := h; ⟨a, x, y, z, e, imm_t s hz, Imm.imm s p, Imm.imm s q, Imm.imm s r⟩⟩
instance {α β γ δ : Type} [Py α] [Py β] [Py γ] [Py δ] [Imm α] [Imm β] [Imm γ] [Imm δ] : Imm (T4 α β γ δ) := ⟨fun s h => let ⟨a, x, y, z, w, e, hz, p, q, r, t⟩ := h; ⟨a, x, y, z, w, e, imm_t s hz, Imm.imm s p, Imm.imm s q, Imm.imm s r, Imm.imm s t⟩⟩
instance {α : Type} [Py α] [Imm α] : Imm (Option α) := ⟨fun {K Z Z' v a} s h => by
  cases a with
  | none => exact h
  | some a => exact Imm.imm (α := α) s h⟩
instance {α : Type} [Py α] [Imm α] : Imm (TL α) := ⟨fun s h => let ⟨a, xs, e, hz, p⟩ := h; ⟨a, xs, e, imm_t s hz, Paired.pImp (fun _ _ r => Imm.imm s r) p⟩⟩
instance {α β γ : Type} [Py α] [Py β] [Py γ] [Imm α] [Imm β] [Imm γ] : Imm (TO α β γ) := ⟨fun {K Z Z' v p} s r => by
  obtain ⟨x1, x2, x3⟩ := p
  obtain ⟨a, x, y, e, h1, h2, h3⟩ := r
  refine ⟨a, x, y, e, Imm.imm s h1, Imm.imm s h2, ?_⟩
  cases x3 with
  | none => exact imm_t s h3
  | some c =>
    obtain ⟨z, hz, h4⟩ := h3
    exact ⟨z, imm_t s hz, Imm.imm s h4⟩⟩
instance {α : Type} [Py α] [Imm α] : ImmS (Sh.told (α := α)) := ⟨fun s h => ⟨h.1, Imm.imm s h.2⟩⟩
instance {α : Type} [Py α] [Imm α] : ImmS (Sh.lt α) := ⟨fun s ⟨p, xs, e1, e2, h1, h2⟩ => ⟨p, xs, e1, e2, h1, Paired.pImp (fun _ _ r => Imm.imm s r) h2⟩⟩
instance {κ α : Type} [Sc κ] [DecidableEq κ] [Kt κ] [Py α] [Imm α] : ImmS (Sh.dc κ α) := ⟨fun s ⟨p, xs, e1, e2, h1, h2⟩ => ⟨p, xs, e1, e2, h1, Paired.pImp (fun _ _ r => ⟨r.1, Imm.imm s r.2⟩) h2⟩⟩
theorem allR_imm {α : Type} {S : Sh α} [ImmS S] {K : Fr} {Z Z' H : Hp} (s : ∀ b u, Z b = some u → ¬ MutO u → Z' b = some u) : ∀ {l : List α} {vs : List V} {ps : List Addr}, allR S K Z H vs ps l → allR S K Z' H vs ps l
  | [], _, _, h => h
  | a :: r, _, _, ⟨v, ws, qs, rs, e1, e2, h1, h2⟩ => ⟨v, ws, qs, rs, e1, e2, ImmS.imm s h1, allR_imm s h2⟩
instance {α : Type} {S : Sh α} [ImmS S] : ImmS (Sh.lst (ShL.all S)) := ⟨fun s ⟨p, xs, qs, e1, e2, h1, h2⟩ => ⟨p, xs, qs, e1, e2, h1, allR_imm s h2⟩⟩
instance {α : Type} {S : Sh α} [ImmS S] : ImmS (Sh.tl S) := ⟨fun s ⟨p, xs, qs, e1, e2, h1, h2⟩ => ⟨p, xs, qs, e1, e2, h1, allR_imm s h2⟩⟩
instance {α β : Type} {S : Sh α} {T : Sh β} [ImmS S] [ImmS T] : ImmS (Sh.pr S T) := ⟨fun s ⟨p, xs, qs, e1, e0, h1, v, ws, q1, r1, e2, f2, g1, v2, ws2, q2, r2, e3, f3, g2, e4, f4⟩ => ⟨p, xs, qs, e1, e0, h1, v, ws, q1, r1, e2, f2, ImmS.imm (S := S) s g1, v2, ws2, q2, r2, e3, f3, ImmS.imm (S := T) s g2, e4, f4⟩⟩
instance {α : Type} {S : Sh α} [ImmS S] : ImmS (Sh.opt S) := ⟨fun {K Z Z' H v ps a} s r => by
  cases a with
  | none => exact r
  | some a => exact ImmS.imm (S := S) s r⟩
/-! ### lent for reading -/
structure Bor (K : Fr) (Z H Zb : Hp) (ps : List Addr) : Prop where
  zz : Same Z Zb
  mu : ∀ q ∈ ps, ∃ u, H q = some u ∧ MutO u
  nz : ∀ q ∈ ps, Z q = none
  zb : ∀ q, q ∉ ps → Zb q = Z q
section
variable {K : Fr} {Z0 H0 Z H Z' H' Z2 H2 Zb : Hp} {G G' : List Rt} {ps : List Addr}
theorem Bor.nil : Bor K Z H Z [] := ⟨Same.refl _, (fun _ h => nomatch h), (fun _ h => nomatch h), fun _ _ => rfl⟩
theorem Sep.bor {α : Type} [Py α] {S : Sh α} [Dat S] [MutS S] {v : V} {a : α} (h : Sep K Z0 H0 Zb H G) (b : Bor K Z H Zb ps) (i : Nat) (e : G[i]? = some ⟨S, v, a⟩) : ∃ Zc qs, Bor K Z H Zc qs ∧ Sep K Z0 H0 Zc H (G.set i ⟨Sh.told, v, a⟩) := by
  have c := h.st
  obtain ⟨qs, o, g⟩ := h.chg i e
  obtain ⟨Zc, c', s, r, hz⟩ := o.tell c
  refine ⟨Zc, qs ++ ps, ⟨b.zz.trans s, fun q hq => ?_, fun q hq => ?_, fun q hq => ?_⟩, g c' s (fun q u hq hu => ⟨hu, hz q hq⟩) (OwnO.ofR r) fun _ h => nomatch h⟩
  · rcases List.mem_append.mp hq with hq | hq
    · exact MutS.mt o.r q hq
    · exact b.mu q hq
  · rcases List.mem_append.mp hq with hq | hq
    · exact b.zz.free (o.nz q hq)
    · exact b.nz q hq
  · rw [List.mem_append, not_or] at hq
    rw [hz q hq.1, b.zb q hq.2]
theorem Bor.back (b : Bor K Z H Zb ps) (zh : Same Z H) (st : Step Zb H Z2 H2) : Step Z H (delL Z2 ps) H2 := by
  refine ⟨st.hh, fun q u e => ?_, fun q u e => ?_, fun q u e => ?_⟩
  · unfold delL
    rw [if_neg (fun hm => by rw [b.nz q hm] at e; cases e)]
    exact st.zz _ _ (b.zz _ _ e)
  · unfold delL at e
    split at e
    · cases e
    · exact st.zh _ _ e
  · unfold delL
    by_cases hm : q ∈ ps
    · rw [if_pos hm, b.nz q hm]
    · rw [if_neg hm, st.fr q u e, b.zb q hm]
theorem Bor.im (b : Bor K Z H Zb ps) (st : Step Zb H Z2 H2) : ∀ q u, Z2 q = some u → ¬ MutO u → delL Z2 ps q = some u := fun q u e hu => by
  unfold delL
  rw [if_neg]
  · exact e
  · intro hm
    obtain ⟨w, h1, h2⟩ := b.mu q hm
    have := st.zh q u e
    rw [st.hh q w h1] at this
    cases this
    exact hu h2
theorem Bor.tel {α : Type} [Py α] [Imm α] {v : V} {a : α} (b : Bor K Z H Zb ps) (st : Step Zb H Z2 H2) (r : Py.R K Z2 v a) : Py.R K (delL Z2 ps) v a := Imm.imm (b.im st) r
/-- what came new, behind the lending -/
theorem Bor.own {α : Type} {S : Sh α} [ImmS S] {v : V} {qs : List Addr} {a : α} (b : Bor K Z H Zb ps) (st : Step Zb H Z' H') (st2 : Step Z' H' Z2 H2) (o : OwnO S K H' Z2 H2 v qs a) : OwnO S K H (delL Z2 ps) H2 v qs a :=
  ⟨ImmS.imm (b.im (st.trans st2)) o.r, o.nd, fun q hq => by unfold delL; split; rfl; exact o.nz q hq, fun q hq => st.hh.free (o.n0 q hq)⟩
/-! ### lent to be changed -/
/-- the beginning of a def to which a thing was lent -/
theorem Sep.lent {α : Type} {S : Sh α} {v : V} {a : α} (zh : Same Z H) (r : S.R K Z H v ps a) (nd : ps.Nodup) (nz : ∀ q ∈ ps, Z q = none) : Sep K Z (delL H ps) Z H [⟨S, v, a⟩] :=
  (Sep.base (Step.lent zh)).pushO ⟨r, nd, nz, fun q hq => delL_in hq⟩ fun _ _ i _ e => by simp at e
/-! ### what new things come as -/
theorem New.ownS {α : Type} [Py α] {Q : VK} {m : List α} (k : ∀ p ps Z' H', Step Z H Z' H' → OwnO (Sh.lt α) K H Z' H' (.ref p) ps m → Q (.ref p) H') : New K Z H Q m := fun p xs Z' H' st hp hl hz pr =>
  k p [p] Z' H' st (Own.shp ⟨⟨xs, hl, pr⟩, hz, hp⟩)
theorem NewD.ownS {κ α : Type} [Sc κ] [DecidableEq κ] [Kt κ] [Py α] {Q : VK} {m : Dct κ α} (k : ∀ p ps Z' H', Step Z H Z' H' → OwnO (Sh.dc κ α) K H Z' H' (.ref p) ps m → Q (.ref p) H') : NewD K Z H Q m := fun p xs Z' H' st hp hl hz pr =>
  k p [p] Z' H' st (OwnD.shp ⟨⟨xs, hl, pr⟩, hz, hp⟩)
end
end Cd

set_option Elab.async false
set_option linter.all false
set_option maxRecDepth 100000
set_option maxHeartbeats 4000000
namespace Cd
open PySem L2 PyProof.Rows
/-! ### comprehensions whose items are reckoned -/
section
variable {γ β : Type} {K : Fr} {J : It} {g : TG} {tt : TT} {te : TE} {σ : L2.St} {H Z : Hp} {L : List γ} {Y : γ → V → Hp → Hp → Prop} {vs : List Nat} {Q : VK}
theorem lcMK [Py β] (src : Src J Z L Y) (zh : Same Z H) (F : γ → R (Option β)) (hs : L.length < sizeLine) {W : List β → Prop} (hm : Good (lcR F L) W NoE)
    (el : ∀ a x Z' H' H2 (C : VK) (N : Hp → Prop) (Wo : Option β → Prop), a ∈ L → Step Z H Z' H' → Y a x H' H2 → Good (F a) Wo NoE →
      (∀ b, Wo (some b) → ∀ y Z2 H3, Step Z' H' Z2 H3 → Py.R K Z2 y b → C y H3) → (Wo none → ∀ Z2 H3, Step Z' H' Z2 H3 → N H3) →
      g x (wipe σ vs) H2 fun σ2 H3 => wipe σ2 vs = wipe σ vs ∧ tt σ2 H3 fun b H4 => if b = true then te σ2 H4 C else N H4)
    (k : ∀ bs, W bs → New K Z H Q bs) : lcRest J g tt te vs Q σ H := by
  intro D hD
  let Pv : Nat → Hp → Prop := fun i H' => i ≤ L.length ∧ ∃ Z' acc, Step Z H Z' H' ∧ Own K H Z' H' D acc ∧ acc.length ≤ i ∧ Good (lcR F (L.drop i)) (fun bs => W (acc ++ bs)) NoE
  refine ⟨fun i m H' => m = L.length - i ∧ Pv i H', ⟨L.length, by omega, Nat.zero_le _, Z, [], Step.own zh hD, ⟨⟨[], upd_same, .nil⟩, zh.free hD, hD⟩, Nat.le_refl _, hm⟩, ?_⟩
  rintro i m H' ⟨rfl, hi, Z', acc, st, ow, ha, hg⟩
  have zs : Same Z H' := st.zz.trans st.zh
  by_cases hlt : i < L.length
  · have ea : L[i]? = some L[i] := List.getElem?_eq_getElem hlt
    have ed : L.drop i = L[i] :: L.drop (i + 1) := List.drop_eq_getElem_cons hlt
    rw [ed] at hg
    have hg : Good (F L[i]) (fun o => Good (lcR F (L.drop (i + 1))) (fun bs => W (acc ++ (o.toList ++ bs))) NoE) NoE := (Good.bnd hg).imp (fun o h => Good.bnd h) fun _ h => h
    refine .inr ⟨src.go i _ H' ea zs, Pv (i + 1), fun H2 q => ⟨L.length - (i + 1), by omega, rfl, q⟩, fun x H2 y => ?_⟩
    refine el L[i] x Z' H' H2 _ _ _ (List.getElem_mem hlt) st (src.yld i _ H' x H2 ea zs y) hg (fun b hb y Z2 H3 st2 hr => ?_) (fun hn Z2 H3 st2 => ?_)
    · have ow2 := ow.step st2
      obtain ⟨⟨xs, h1, p1⟩, nz, n0⟩ := ow2
      refine ⟨xs, h1, by rw [p1.pLen]; omega, hlt, Z2, acc ++ [b], (st.trans st2).mut nz n0, ⟨⟨xs ++ [y], upd_same, p1.pApp (.cons hr .nil)⟩, nz, n0⟩, by rw [List.length_append, List.length_singleton]; omega, ?_⟩
      refine hb.imp (fun bs h => ?_) fun _ h => h
      rw [List.append_assoc]; exact h
    · exact ⟨hlt, Z2, acc, st.trans st2, ow.step st2, by omega, hn⟩
  · have e : i = L.length := by omega
    subst e
    rw [List.drop_length] at hg
    have hg : W (acc ++ []) := hg
    rw [List.append_nil] at hg
    refine .inl ⟨src.stop H' zs, ?_⟩
    obtain ⟨⟨xs, h1, p1⟩, nz, n0⟩ := ow
    exact k acc hg D xs Z' H' st hD h1 nz p1
end
/-! ### a walk's own list, as all that is held says -/
end Cd

set_option Elab.async false
set_option linter.all false
set_option maxRecDepth 100000
set_option maxHeartbeats 4000000
namespace Cd
open PySem L2 PyProof.Rows
/-! ### what is never reached -/
section
variable {X : Cx}
end
/-! ### names for what is looked for -/
def okIx (z : Str) (i : Int) : Prop := z.length ≤ sizeLine ∧ inR z.length i
def MulSOk (a : Str) (n : Int) : Prop := -(2 ^ 31) ≤ n ∧ n < 2 ^ 31 ∧ a.length * n.toNat ≤ 16777216
def fuelN : Nat := 1000000
section
variable {K : Fr} {Z H Z0 H0 Z' H' : Hp} {Q : VK} {G G' : List Rt}
theorem valK2 {te : TE} {σ : L2.St} (W : Bool → Prop) (ev : ∀ Q' : VK, (∀ b Z' H', W b → Step Z H Z' H' → Q' (.bl b) H') → te σ H Q') (k : ∀ b Z' H', W b → Step Z H Z' H' → Q (.bl b) H') : te σ H Q := ev Q k
theorem testK2 {tt : TT} {σ : L2.St} {R : Bool → Hp → Prop} (W : Bool → Prop) (ev : ∀ Q' : Bool → Hp → Prop, (∀ b Z' H', W b → Step Z H Z' H' → Q' b H') → tt σ H Q') (k : ∀ b Z' H', W b → Step Z H Z' H' → R b H') : tt σ H R := ev R k
theorem ite2b {b : Bool} {A B : Prop} (h : ∀ _ : Unit, if b = true then A else B) : if b = true then A else B := h ()
theorem Sep.bor0 (h : Sep K Z0 H0 Z H G) : Bor K Z H Z [] := Bor.nil
theorem k_catL {α : Type} [Py α] {x y : V} {l m : List α} (zh : Same Z H) (hx : RO K Z H x l) (hy : RO K Z H y m) (hs : l.length + m.length ≤ sizeLine) (k : New K Z H Q (l ++ m)) : rCat x y H Q := by
  obtain ⟨a, xs, rfl, hz, p⟩ := hx
  obtain ⟨b, ys, rfl, hz2, p2⟩ := hy
  exact ⟨a, b, xs, ys, rfl, rfl, hz, hz2, by rw [p.pLen, p2.pLen]; exact hs, New.lay zh (p.pApp p2) k⟩
/-! None -/
theorem Sep.nam {α : Type} {S : Sh α} {v : V} {a x : α} (h : Sep K Z0 H0 Z H G) (i : Nat) (e : G[i]? = some ⟨S, v, a⟩) (en : x = a) : Sep K Z0 H0 Z H (G.set i ⟨S, v, x⟩) := by
  subst en
  obtain ⟨ps, o, g⟩ := h.chg i e
  exact g h.st (Same.refl _) (fun q u _ hu => ⟨hu, rfl⟩) o fun _ h => .inl h
theorem Sep.chg1 {α : Type} {S : Sh α} {v : V} {a : α} (h : Sep K Z0 H0 Z H G) (i : Nat) (e : G[i]? = some ⟨S, v, a⟩) : ∃ ps, OwnO S K H0 Z H v ps a ∧
    ∀ (q : Addr) (w : HO) {β : Type} (S' : Sh β) {b : β}, q ∈ ps → OwnO S' K H0 Z (upd H q w) v ps b → Sep K Z0 H0 Z (upd H q w) (G.set i ⟨S', v, b⟩) := by
  have c := h.st
  obtain ⟨ps, o, g⟩ := h.chg i e
  exact ⟨ps, o, fun q w β S' b hq o' => g (c.mut (o.nz q hq) (o.n0 q hq)) (Same.refl _) (fun x u hx hu => ⟨by rw [upd_ne (fun x2 => hx (by rw [x2]; exact hq))]; exact hu, rfl⟩) o' fun x hx => .inl hx⟩
/-! ### displays of things that are held -/
structure SepF (K : Fr) (Z0 H0 Z H : Hp) (G : List Rt) (f : Nat → List Addr) : Prop where
  st : Step Z0 H0 Z H
  at_ : ∀ i r, G[i]? = some r → OwnO r.S K H0 Z H r.v (f i) r.a
  dj : ∀ i j r s, i ≠ j → G[i]? = some r → G[j]? = some s → ∀ q ∈ f i, q ∉ f j
theorem Sep.opnF (h : Sep K Z0 H0 Z H G) : ∃ f, SepF K Z0 H0 Z H G f := let ⟨c, f, h1, h2⟩ := h; ⟨f, c, h1, h2⟩
structure RowF (K : Fr) (H0 Z H : Hp) (G : List Rt) (f : Nat → List Addr) (is : List Nat) {β : Type} (T : ShL β) (vs : List V) (b : β) : Prop where
  row : OwnL T K H0 Z H vs (is.flatMap f) b
  inb : ∀ i ∈ is, ∃ r, G[i]? = some r
variable {f : Nat → List Addr} {is : List Nat} {vs : List V}
theorem SepF.nil (h : SepF K Z0 H0 Z H G f) : RowF K H0 Z H G f [] ShL.nil [] () := ⟨OwnL.nil, fun _ h => nomatch h⟩
theorem SepF.nilA {α : Type} {S : Sh α} (h : SepF K Z0 H0 Z H G f) : RowF K H0 Z H G f [] (ShL.all S) [] [] := ⟨OwnL.nilA, fun _ h => nomatch h⟩
theorem SepF.dis (h : SepF K Z0 H0 Z H G f) {i : Nat} {r : Rt} (e : G[i]? = some r) (hb : ∀ j ∈ is, ∃ r, G[j]? = some r) (hi : i ∉ is) : ∀ x ∈ f i, ∀ y ∈ is.flatMap f, x ≠ y := fun x hx y hy e2 => by
  obtain ⟨j, hj, hy⟩ := List.mem_flatMap.mp hy
  obtain ⟨s, hs⟩ := hb j hj
  subst e2
  exact h.dj i j r s (fun e3 => hi (by rw [e3]; exact hj)) e hs x hx hy
theorem SepF.cons {α β : Type} {S : Sh α} {T : ShL β} {v : V} {a : α} {b : β} (h : SepF K Z0 H0 Z H G f) (i : Nat) (e : G[i]? = some ⟨S, v, a⟩) (r : RowF K H0 Z H G f is T vs b) (hi : i ∉ is) : RowF K H0 Z H G f (i :: is) (ShL.cons S T) (v :: vs) (a, b) :=
  ⟨by rw [List.flatMap_cons]; exact OwnL.cons (h.at_ i _ e) r.row (h.dis e r.inb hi), fun j hj => (List.mem_cons.mp hj).elim (fun e2 => ⟨_, e2 ▸ e⟩) (r.inb j)⟩
theorem SepF.consA {α : Type} {S : Sh α} {v : V} {a : α} {b : List α} (h : SepF K Z0 H0 Z H G f) (i : Nat) (e : G[i]? = some ⟨S, v, a⟩) (r : RowF K H0 Z H G f is (ShL.all S) vs b) (hi : i ∉ is) : RowF K H0 Z H G f (i :: is) (ShL.all S) (v :: vs) (a :: b) :=
  ⟨by rw [List.flatMap_cons]; exact OwnL.consA (h.at_ i _ e) r.row (h.dis e r.inb hi), fun j hj => (List.mem_cons.mp hj).elim (fun e2 => ⟨_, e2 ▸ e⟩) (r.inb j)⟩
theorem SepF.laid {β : Type} {T : ShL β} {S : Sh β} {b : β} {p : Addr} {o : HO} (h : SepF K Z0 H0 Z H G f) (r : RowF K H0 Z H G f is T vs b) (js : List Nat) (hj : js.Nodup) (hd : ∀ j ∈ js, j ∉ is) (e : js.map (fun j => G[j]?) = G'.map some) (hp : H p = none)
    (w : OwnO S K H0 Z (upd H p o) (.ref p) (p :: is.flatMap f) b) : Sep K Z0 H0 Z (upd H p o) (⟨S, .ref p, b⟩ :: G') := by
  have st : Step Z H Z (upd H p o) := Step.own h.st.zh hp
  have h0 : Sep K Z0 H0 Z H G' := (show Sep K Z0 H0 Z H G from ⟨h.st, f, h.at_, h.dj⟩).pick js hj e
  have at_ : ∀ (k : Nat) (s : Rt), G'[k]? = some s → ∃ j, js[k]? = some j ∧ G[j]? = some s := fun k s hk => by
    have e1 : (G'.map (some : Rt → Option Rt))[k]? = some (some s) := by rw [List.getElem?_map, hk]; rfl
    rw [← e, List.getElem?_map] at e1
    obtain ⟨i, e2, e3⟩ := Option.map_eq_some_iff.mp e1
    exact ⟨i, e2, e3⟩
  refine ⟨h.st.trans st, fun k => match k with | 0 => p :: is.flatMap f | k + 1 => f (js.getD k 0), fun k s ek => ?_, fun k l s t ne ek el => ?_⟩
  · cases k with
    | zero => simp only [List.getElem?_cons_zero, Option.some.injEq] at ek; subst ek; exact w
    | succ k =>
      simp only [List.getElem?_cons_succ] at ek
      obtain ⟨j, e1, e2⟩ := at_ k s ek
      dsimp only
      rw [List.getD_eq_getElem?_getD, e1]
      exact (h.at_ j s e2).step st
  · have key : ∀ k s, G'[k]? = some s → ∀ q ∈ f (js.getD k 0), q ∉ p :: is.flatMap f := fun k s ek q hq hm => by
      obtain ⟨j, e1, e2⟩ := at_ k s ek
      rw [List.getD_eq_getElem?_getD, e1] at hq
      rcases List.mem_cons.mp hm with rfl | hm
      · obtain ⟨u, hu⟩ := (h.at_ j s e2).stands q hq
        rw [hp] at hu; cases hu
      · obtain ⟨i, hi, hq2⟩ := List.mem_flatMap.mp hm
        obtain ⟨r2, hr2⟩ := r.inb i hi
        have hjm : j ∈ js := List.mem_of_getElem? e1
        exact h.dj j i s r2 (fun e3 => hd j hjm (by rw [e3]; exact hi)) e2 hr2 q hq hq2
    cases k with
    | zero =>
      cases l with
      | zero => exact (ne rfl).elim
      | succ l => intro q hq hq2; simp only [List.getElem?_cons_succ] at el; exact key l t el q hq2 hq
    | succ k =>
      cases l with
      | zero => intro q hq hq2; simp only [List.getElem?_cons_succ] at ek; exact key k s ek q hq hq2
      | succ l =>
        simp only [List.getElem?_cons_succ] at ek el
        obtain ⟨j, e1, e2⟩ := at_ k s ek
        obtain ⟨j2, e3, e4⟩ := at_ l t el
        dsimp only
        rw [List.getD_eq_getElem?_getD, List.getD_eq_getElem?_getD, e1, e3]
        refine h.dj j j2 s t (fun x => ne ?_) e2 e4
        subst x
        obtain ⟨hk1, hk2⟩ := List.getElem?_eq_some_iff.mp e1
        obtain ⟨hl1, hl2⟩ := List.getElem?_eq_some_iff.mp e3
        have := (List.getElem_inj hj).mp (hk2.trans hl2.symm)
        omega
theorem SepF.lst {β : Type} {T : ShL β} {b : β} (h : SepF K Z0 H0 Z H G f) (r : RowF K H0 Z H G f is T vs b) (js : List Nat) (hj : js.Nodup) (hd : ∀ j ∈ js, j ∉ is) (e : js.map (fun j => G[j]?) = G'.map some) (hs : vs.length ≤ sizeLine)
    (k : ∀ p H', Step Z H Z H' → Sep K Z0 H0 Z H' (⟨Sh.lst T, .ref p, b⟩ :: G') → Q (.ref p) H') : rLstQ vs H Q :=
  ⟨hs, fun p hp => k p _ (Step.own h.st.zh hp) (h.laid r js hj hd e hp (r.row.wrapL h.st hp))⟩
end
/-! ### tuples of two or three -/
def toLen {α β γ : Type} (p : TO α β γ) : Int := if p.x3.isSome = true then 3 else 2
theorem Pt.to {K : Fr} {Z H : Hp} {α β γ : Type} [Py α] [Py β] [Py γ] {v : V} {p : TO α β γ} (zh : Same Z H) (h : Py.R K Z v p) : Pt K H v "tuple" := by
  obtain ⟨x1, x2, x3⟩ := p
  obtain ⟨a, x, y, rfl, _, _, h3⟩ := h
  cases x3 with
  | none => exact .of (.base (.tup (zh _ _ h3)))
  | some c => obtain ⟨z, hz, _⟩ := h3; exact .of (.base (.tup (zh _ _ hz)))
instance {α β γ : Type} [Py α] [Py β] [Py γ] : PtT (TO α β γ) := ⟨"tuple", fun zh h => Pt.to zh h⟩
theorem k_ninT {K : Fr} {Z H : Hp} {Q : VK} {α : Type} [Sc α] [DecidableEq α] [Fl α] {v : V} {a : α} {t : TL α} (zh : Same Z H) (h : Py.R K Z v t) (k : Q (.bl (!decide (a ∈ t.l))) H) : rIn K true (Sc.emb a) v H Q := by
  obtain ⟨p, xs, rfl, hz, pr⟩ := h
  obtain rfl := paired_emb pr
  refine ⟨p, _, rfl, .inr (SqT.of (zh _ _ hz)), Fl.flat a, allFlat _, ?_⟩
  rw [Fl.isIn]
  exact k
theorem inV_bl {ns : List Bool} {i : Bool} : inV (.bl i) (ns.map V.bl) = decide (i ∈ ns) := by
  unfold inV
  induction ns with
  | nil => simp
  | cons n r ih =>
    rw [List.map_cons, List.any_cons, ih]
    show ((n == i) || decide (i ∈ r)) = decide (i ∈ n :: r)
    cases n <;> cases i <;> simp
instance : Fl Bool := ⟨fun _ => rfl, fun l a => inV_bl⟩
/-! ### refusals, as the machine tells them -/
def ExR (ca : CA) (K : Fr) (Z H : Hp) : Er → Value → Option Addr → Prop
  | .ShopError, c, d => c = .ref ca.ShopError ∧ d = none
  | .NoCard, c, d => c = .ref ca.NoCard ∧ d = none
  | .NoField, c, d => c = .ref ca.NoField ∧ d = none
  | .NoOrder a b, c, d => c = .ref ca.NoOrder ∧ ∃ x, d = some x ∧ Z x = some (.xd [("place", .int b), ("deck", .int a)])
  | .NoBoard, c, d => c = .ref ca.NoBoard ∧ d = none
  | .Meet a b, c, d => c = .ref ca.Meet ∧ ∃ x v w, d = some x ∧ Z x = some (.xd [("other", w), ("one", v)]) ∧ Py.R K Z v a ∧ Py.R K Z w b
  | .NoAsking, c, d => c = .ref ca.NoAsking ∧ d = none
  | .NoTray, c, d => c = .ref ca.NoTray ∧ d = none
  | .NoPlan, c, d => c = .ref ca.NoPlan ∧ d = none
  | .NoRow, c, d => c = .ref ca.NoRow ∧ d = none
theorem lcKQ {γ β : Type} [Py β] {K : Fr} {J : It} {g : TG} {tt : TT} {te : TE} {σ : L2.St} {H Z : Hp} {L : List γ} {Y : γ → V → Hp → Hp → Prop} {vs : List Nat} {Q : VK} (src : Src J Z L Y) (zh : Same Z H) (f : γ → β) (p : γ → Bool) (hs : L.length < sizeLine)
    (el : ∀ a x Z' H' H2 (C : VK) (N : Hp → Prop), a ∈ L → Step Z H Z' H' → Y a x H' H2 →
      (∀ y Z2 H3, Step Z' H' Z2 H3 → p a = true → Py.R K Z2 y (f a) → C y H3) → (∀ Z2 H3, Step Z' H' Z2 H3 → p a = false → N H3) →
      g x (wipe σ vs) H2 fun σ2 H3 => wipe σ2 vs = wipe σ vs ∧ tt σ2 H3 fun b H4 => if b = true then te σ2 H4 C else N H4)
    (k : New K Z H Q ((L.filter p).map f)) : lcRest J g tt te vs Q σ H := lcK src zh f p hs el k
end Cd

set_option Elab.async false
set_option linter.all false
set_option maxRecDepth 100000
set_option maxHeartbeats 4000000
namespace Cd
open PySem L2 PyProof.Rows
/-! ### == and != of told data, by a function on the data -/
open PySem.SeqAt (EqAt RcAt RcNeAt)
def Cmp (A : Around) (s : Shared) (v u : Value) (b : Bool) : Prop := RcAt A s v u b ∧ RcNeAt A s v u (!b)
class EqA (α : Type) [Py α] where
  eqd : α → α → Bool
  dep : Nat
  cmp : ∀ {X : Cx} {pins : List (Addr × Obj)} {σ : L2.St} {H : Hp} {s : Shared} {x y : V} {v u : Value} {a b : α} {A : Around}, Inv X pins σ H s → Py.R X.K H x a → Py.R X.K H y b → RelV x v → RelV y u → A.units + dep < cLine → Cmp A s v u (eqd a b)
  at_ : ∀ {X : Cx} {pins : List (Addr × Obj)} {σ : L2.St} {H : Hp} {s : Shared} {x y : V} {v u : Value} {a b : α} {A : Around}, Inv X pins σ H s → Py.R X.K H x a → Py.R X.K H y b → RelV x v → RelV y u → A.units + dep < cLine → EqAt A s v u (eqd a b)
  same : ∀ {K : Fr} {H : Hp} {x : V} {a b : α}, Py.R K H x a → Py.R K H x b → eqd a b = true
/-- the function is equality -/
class EqL (α : Type) [Py α] [EqA α] [DecidableEq α] : Prop where
  lw : ∀ a b : α, EqA.eqd a b = decide (a = b)
theorem beq_dec {α : Type} [DecidableEq α] [BEq α] [LawfulBEq α] (a b : α) : (a == b) = decide (a = b) := by
  by_cases h : a = b
  · subst h; simp
  · simp [h]
instance : EqA Int where
  eqd a b := decide (a = b)
  dep := 0
  cmp := fun {X pins σ H s x y v u a b A} _ hx hy rx ry _ => by
    cases (show x = V.int a from hx); cases (show y = V.int b from hy)
    obtain ⟨t, rfl⟩ := rx; obtain ⟨t2, rfl⟩ := ry
    rw [← beq_dec]
    exact ⟨SeqAt.RcAt.int_int a t b t2, SeqAt.RcNeAt.int_int a t b t2⟩
  at_ := fun {X pins σ H s x y v u a b A} _ hx hy rx ry _ => by
    cases (show x = V.int a from hx); cases (show y = V.int b from hy)
    obtain ⟨t, rfl⟩ := rx; obtain ⟨t2, rfl⟩ := ry
    rw [← beq_dec]
    exact SeqAt.EqAt.int_int a t b t2
  same := fun {K H x a b} h1 h2 => by cases (show x = V.int a from h1); cases (show V.int a = V.int b from h2); simp
instance : EqL Int := ⟨fun _ _ => rfl⟩
instance : EqA Str where
  eqd a b := decide (a = b)
  dep := 0
  cmp := fun {X pins σ H s x y v u a b A} _ hx hy rx ry _ => by
    cases (show x = V.str a from hx); cases (show y = V.str b from hy)
    obtain ⟨t, rfl⟩ := rx; obtain ⟨t2, rfl⟩ := ry
    rw [← beq_dec]
    exact ⟨SeqAt.RcAt.str_str a t b t2, SeqAt.RcNeAt.str_str a t b t2⟩
  at_ := fun {X pins σ H s x y v u a b A} _ hx hy rx ry _ => by
    cases (show x = V.str a from hx); cases (show y = V.str b from hy)
    obtain ⟨t, rfl⟩ := rx; obtain ⟨t2, rfl⟩ := ry
    rw [← beq_dec]
    exact SeqAt.EqAt.str_str a t b t2
  same := fun {K H x a b} h1 h2 => by cases (show x = V.str a from h1); cases (show V.str a = V.str b from h2); simp
instance : EqL Str := ⟨fun _ _ => rfl⟩
instance : EqA Bool where
  eqd a b := decide (a = b)
  dep := 0
  cmp := fun {X pins σ H s x y v u a b A} _ hx hy rx ry _ => by
    cases (show x = V.bl a from hx); cases (show y = V.bl b from hy)
    cases (show v = Value.bool a from rx); cases (show u = Value.bool b from ry)
    rw [← beq_dec]
    exact ⟨SeqAt.RcAt.bool_bool a b, SeqAt.RcNeAt.bool_bool a b⟩
  at_ := fun {X pins σ H s x y v u a b A} _ hx hy rx ry _ => by
    cases (show x = V.bl a from hx); cases (show y = V.bl b from hy)
    cases (show v = Value.bool a from rx); cases (show u = Value.bool b from ry)
    rw [← beq_dec]
    exact SeqAt.EqAt.bool_bool a b
  same := fun {K H x a b} h1 h2 => by cases (show x = V.bl a from h1); cases (show V.bl a = V.bl b from h2); simp
instance : EqL Bool := ⟨fun _ _ => rfl⟩
instance : EqA Unit where
  eqd _ _ := true
  dep := 0
  cmp := fun {X pins σ H s x y v u a b A} _ hx hy rx ry _ => by
    cases (show x = V.non from hx); cases (show y = V.non from hy)
    cases (show v = Value.none from rx); cases (show u = Value.none from ry)
    exact ⟨SeqAt.RcAt.none_none, SeqAt.RcNeAt.none_none⟩
  at_ := fun {X pins σ H s x y v u a b A} _ hx hy rx ry _ => by
    cases (show x = V.non from hx); cases (show y = V.non from hy)
    cases (show v = Value.none from rx); cases (show u = Value.none from ry)
    exact SeqAt.EqAt.same _
  same := fun _ _ => rfl
instance : EqL Unit := ⟨fun _ _ => rfl⟩
/-! rows of values -/
inductive TEq (F : Value → Value → Bool → Prop) : List Value → List Value → List Bool → Prop
  | nilL {ws : List Value} : TEq F [] ws []
  | nilR {us : List Value} : TEq F us [] []
  | cons {v w : Value} {b : Bool} {us ws : List Value} {bs : List Bool} : F v w b → TEq F us ws bs → TEq F (v :: us) (w :: ws) (b :: bs)
theorem TEq.get {F : Value → Value → Bool → Prop} {us ws : List Value} {bs : List Bool} (h : TEq F us ws bs) : ∀ j (h1 : j < us.length) (h2 : j < ws.length), F us[j] ws[j] (bs.getD j true) := by
  induction h with
  | nilL => intro j h1 _; exact absurd h1 (Nat.not_lt_zero _)
  | nilR => intro j _ h2; exact absurd h2 (Nat.not_lt_zero _)
  | cons f _ ih =>
    intro j h1 h2
    cases j with
    | zero => exact f
    | succ j => exact ih j (Nat.lt_of_succ_lt_succ h1) (Nat.lt_of_succ_lt_succ h2)
theorem TEq.len {F : Value → Value → Bool → Prop} {us ws : List Value} {bs : List Bool} (h : TEq F us ws bs) : bs.length = min us.length ws.length := by
  induction h with
  | nilL => simp
  | nilR => simp
  | cons _ _ ih => simp only [List.length_cons]; omega
theorem range_getD : ∀ bs : List Bool, ((List.range bs.length).all fun j => bs.getD j true) = bs.all id := fun bs => by
  rw [Bool.eq_iff_iff, List.all_eq_true, List.all_eq_true]
  constructor
  · intro h b hb
    obtain ⟨i, hi, e⟩ := List.getElem_of_mem hb
    have := h i (List.mem_range.mpr hi)
    rw [List.getD_eq_getElem?_getD, List.getElem?_eq_getElem hi, e] at this
    exact this
  · intro h j hj
    have hj := List.mem_range.mp hj
    rw [List.getD_eq_getElem?_getD, List.getElem?_eq_getElem hj]
    exact h _ (List.getElem_mem hj)
section
variable {X : Cx} {pins : List (Addr × Obj)} {σ : L2.St} {H : Hp} {s : Shared} {A : Around}
theorem cmp_lists {p q : Addr} {xs ys : List V} {bs : List Bool} (I : Inv X pins σ H s) (hp : H p = some (.lst xs)) (hq : H q = some (.lst ys)) (hu : A.units < cLine)
    (t : ∀ us ws, Vals xs us → Vals ys ws → TEq (EqAt A.in1 s) us ws bs) : Cmp A s (.ref p) (.ref q) (bs.all id && xs.length == ys.length) := by
  obtain ⟨us, r1, p1, _⟩ := I.list (SqL.of hp)
  obtain ⟨ws, r2, p2, _⟩ := I.list (SqL.of hq)
  have te := t us ws r1 r2
  have l := te.len
  rw [r1.length, r2.length]
  by_cases e : us.length = ws.length
  · have sz : us.toArray.size = ws.toArray.size := by simpa using e
    have hb : bs.length = us.toArray.size := by rw [l, ← e]; simp
    have g : (List.range us.toArray.size).all (fun j => bs.getD j true) = (bs.all id && us.length == ws.length) := by
      rw [← hb, range_getD, e]; simp
    have he : ∀ j (h1 : j < us.toArray.size) (h2 : j < ws.toArray.size), EqAt A.in1 s us.toArray[j] ws.toArray[j] (bs.getD j true) := fun j h1 h2 => by
      have := te.get j (by simpa using h1) (by simpa using h2)
      simpa using this
    rw [← g]
    exact ⟨SeqAt.RcAt.lists p1.isList p2.isList sz hu he, SeqAt.RcNeAt.lists p1.isList p2.isList sz hu he⟩
  · have sz : (us.toArray.size != ws.toArray.size) = true := by simpa using e
    have g : (bs.all id && us.length == ws.length) = false := by simp [e]
    rw [g]
    exact ⟨SeqAt.RcAt.lists_lengths p1.isList p2.isList sz hu, SeqAt.RcNeAt.lists_lengths p1.isList p2.isList sz hu⟩
theorem cmp_tuples {p q : Addr} {xs ys : List V} {bs : List Bool} (I : Inv X pins σ H s) (hp : H p = some (.tup xs)) (hq : H q = some (.tup ys)) (hu : A.units < cLine)
    (t : ∀ us ws, Vals xs us → Vals ys ws → TEq (EqAt A.in1 s) us ws bs) : Cmp A s (.ref p) (.ref q) (bs.all id && xs.length == ys.length) := by
  obtain ⟨us, r1, p1, _⟩ := I.tuple (SqT.of hp)
  obtain ⟨ws, r2, p2, _⟩ := I.tuple (SqT.of hq)
  have te := t us ws r1 r2
  rw [r1.length, r2.length]
  have hb : bs.length = min us.toArray.size ws.toArray.size := by rw [te.len]; simp
  have g : ((List.range (min us.toArray.size ws.toArray.size)).all (fun j => bs.getD j true) && us.toArray.size == ws.toArray.size) = (bs.all id && us.length == ws.length) := by
    rw [← hb, range_getD]; simp
  have he : ∀ j (h1 : j < us.toArray.size) (h2 : j < ws.toArray.size), EqAt A.in1 s us.toArray[j] ws.toArray[j] (bs.getD j true) := fun j h1 h2 => by
    have := te.get j (by simpa using h1) (by simpa using h2)
    simpa using this
  rw [← g]
  exact ⟨SeqAt.RcAt.tuples p1 p2 hu he, SeqAt.RcNeAt.tuples p1 p2 hu he⟩
theorem at_refs {p q : Addr} {b : Bool} (c : Cmp A s (.ref p) (.ref q) b) (h : p = q → b = true) : EqAt A s (.ref p) (.ref q) b := by
  by_cases e : p = q
  · subst e; rw [h rfl]; exact SeqAt.EqAt.same _
  · exact SeqAt.EqAt.of_refs e c.1
theorem te_list {α : Type} [Py α] [EqA α] (I : Inv X pins σ H s) (hu : A.units + EqA.dep α < cLine) : ∀ {xs ys : List V} {l m : List α}, Paired (Py.R X.K H) xs l → Paired (Py.R X.K H) ys m → ∀ us ws, Vals xs us → Vals ys ws → TEq (EqAt A s) us ws (List.zipWith EqA.eqd l m)
  | _, _, _, _, .nil, _, _, _, .nil, _ => .nilL
  | _, _, _, _, .cons _ _, .nil, _, _, .cons _ _, .nil => .nilR
  | _, _, _, _, .cons r t, .cons r2 t2, _, _, .cons a c, .cons a2 c2 => .cons (EqA.at_ I r r2 a a2 hu) (te_list I hu t t2 _ _ c c2)
end
def eqLs {α : Type} [Py α] [EqA α] (l m : List α) : Bool := (List.zipWith EqA.eqd l m).all id && l.length == m.length
theorem same_list {α : Type} [Py α] [EqA α] {K : Fr} {H : Hp} : ∀ {xs : List V} {l m : List α}, Paired (Py.R K H) xs l → Paired (Py.R K H) xs m → eqLs l m = true
  | _, _, _, .nil, .nil => rfl
  | _, _, _, .cons r t, .cons r2 t2 => by
    have h := same_list t t2
    unfold eqLs at h ⊢
    rw [List.zipWith_cons_cons, List.all_cons, List.length_cons, List.length_cons]
    rw [Bool.and_eq_true] at h
    rw [EqA.same r r2, h.1]
    have := h.2
    simp at this ⊢
    exact this
theorem eqLs_lw {α : Type} [Py α] [EqA α] [DecidableEq α] [EqL α] : ∀ l m : List α, eqLs l m = decide (l = m)
  | [], [] => by simp [eqLs]
  | [], _ :: _ => by simp [eqLs]
  | _ :: _, [] => by simp [eqLs]
  | a :: l, b :: m => by
    have h := eqLs_lw l m
    unfold eqLs at h ⊢
    rw [List.zipWith_cons_cons, List.all_cons, List.length_cons, List.length_cons, EqL.lw]
    by_cases e : a = b
    · subst e
      simp at h ⊢
      exact h
    · simp [e]
instance {α : Type} [Py α] [EqA α] : EqA (List α) where
  eqd := eqLs
  dep := EqA.dep α + 1
  cmp := fun {X pins σ H s x y v u a b A} I hx hy rx ry hu => by
    obtain ⟨p, xs, rfl, hp, h1⟩ := hx
    obtain ⟨q, ys, rfl, hq, h2⟩ := hy
    cases (show v = Value.ref p from rx); cases (show u = Value.ref q from ry)
    have c := cmp_lists (A := A) I hp hq (by omega) (te_list (A := A.in1) I (by show A.units + 1 + _ < cLine; omega) h1 h2)
    rw [h1.pLen, h2.pLen] at c
    exact c
  at_ := fun {X pins σ H s x y v u a b A} I hx hy rx ry hu => by
    obtain ⟨p, xs, rfl, hp, h1⟩ := hx
    obtain ⟨q, ys, rfl, hq, h2⟩ := hy
    cases (show v = Value.ref p from rx); cases (show u = Value.ref q from ry)
    have c := cmp_lists (A := A) I hp hq (by omega) (te_list (A := A.in1) I (by show A.units + 1 + _ < cLine; omega) h1 h2)
    rw [h1.pLen, h2.pLen] at c
    refine at_refs c fun e => ?_
    subst e
    rw [hp] at hq; cases hq
    exact same_list h1 h2
  same := fun h1 h2 => by
    obtain ⟨p, xs, rfl, hp, h1⟩ := h1
    obtain ⟨q, ys, e, hq, h2⟩ := h2
    cases e
    rw [hp] at hq; cases hq
    exact same_list h1 h2
instance {α : Type} [Py α] [EqA α] [DecidableEq α] [EqL α] : EqL (List α) := ⟨eqLs_lw⟩
instance {α : Type} [Py α] [EqA α] : EqA (TL α) where
  eqd a b := eqLs a.l b.l
  dep := EqA.dep α + 1
  cmp := fun {X pins σ H s x y v u a b A} I hx hy rx ry hu => by
    obtain ⟨p, xs, rfl, hp, h1⟩ := hx
    obtain ⟨q, ys, rfl, hq, h2⟩ := hy
    cases (show v = Value.ref p from rx); cases (show u = Value.ref q from ry)
    have c := cmp_tuples (A := A) I hp hq (by omega) (te_list (A := A.in1) I (by show A.units + 1 + _ < cLine; omega) h1 h2)
    rw [h1.pLen, h2.pLen] at c
    exact c
  at_ := fun {X pins σ H s x y v u a b A} I hx hy rx ry hu => by
    obtain ⟨p, xs, rfl, hp, h1⟩ := hx
    obtain ⟨q, ys, rfl, hq, h2⟩ := hy
    cases (show v = Value.ref p from rx); cases (show u = Value.ref q from ry)
    have c := cmp_tuples (A := A) I hp hq (by omega) (te_list (A := A.in1) I (by show A.units + 1 + _ < cLine; omega) h1 h2)
    rw [h1.pLen, h2.pLen] at c
    refine at_refs c fun e => ?_
    subst e
    rw [hp] at hq; cases hq
    exact same_list h1 h2
  same := fun h1 h2 => by
    obtain ⟨p, xs, rfl, hp, h1⟩ := h1
    obtain ⟨q, ys, e, hq, h2⟩ := h2
    cases e
    rw [hp] at hq; cases hq
    exact same_list h1 h2
instance {α : Type} [Py α] [EqA α] [DecidableEq α] [EqL α] : EqL (TL α) := ⟨fun a b => by
  show eqLs a.l b.l = _
  rw [eqLs_lw]
  obtain ⟨l⟩ := a; obtain ⟨m⟩ := b
  exact decide_eq_decide.mpr ⟨fun h => by rw [show l = m from h], fun h => by injection h⟩⟩
instance {α β : Type} [Py α] [EqA α] [Py β] [EqA β] : EqA (α × β) where
  eqd a b := EqA.eqd a.1 b.1 && EqA.eqd a.2 b.2
  dep := max (EqA.dep β) (max (EqA.dep α) (0)) + 1
  cmp := fun {X pins σ H s x y v u a b A} I hx hy rx ry hu => by
    obtain ⟨p, y0, y1, rfl, hp, h0, h1⟩ := hx
    obtain ⟨q, z0, z1, rfl, hq, k0, k1⟩ := hy
    cases (show v = Value.ref p from rx); cases (show u = Value.ref q from ry)
    have c := cmp_tuples (A := A) (bs := [EqA.eqd a.1 b.1, EqA.eqd a.2 b.2]) I hp hq (by omega) (fun us ws v1 v2 => match us, ws, v1, v2 with | _, _, .cons r0 (.cons r1 (.nil)), .cons t0 (.cons t1 (.nil)) => .cons (EqA.at_ I h0 k0 r0 t0 (by show A.units + 1 + _ < cLine; omega)) (.cons (EqA.at_ I h1 k1 r1 t1 (by show A.units + 1 + _ < cLine; omega)) (.nilL)))
    have e : ([EqA.eqd a.1 b.1, EqA.eqd a.2 b.2].all id && [y0, y1].length == [z0, z1].length) = (EqA.eqd a.1 b.1 && EqA.eqd a.2 b.2) := by simp [Bool.and_assoc]
    rw [e] at c
    exact c
  at_ := fun {X pins σ H s x y v u a b A} I hx hy rx ry hu => by
    obtain ⟨p, y0, y1, rfl, hp, h0, h1⟩ := hx
    obtain ⟨q, z0, z1, rfl, hq, k0, k1⟩ := hy
    cases (show v = Value.ref p from rx); cases (show u = Value.ref q from ry)
    have c := cmp_tuples (A := A) (bs := [EqA.eqd a.1 b.1, EqA.eqd a.2 b.2]) I hp hq (by omega) (fun us ws v1 v2 => match us, ws, v1, v2 with | _, _, .cons r0 (.cons r1 (.nil)), .cons t0 (.cons t1 (.nil)) => .cons (EqA.at_ I h0 k0 r0 t0 (by show A.units + 1 + _ < cLine; omega)) (.cons (EqA.at_ I h1 k1 r1 t1 (by show A.units + 1 + _ < cLine; omega)) (.nilL)))
    have e : ([EqA.eqd a.1 b.1, EqA.eqd a.2 b.2].all id && [y0, y1].length == [z0, z1].length) = (EqA.eqd a.1 b.1 && EqA.eqd a.2 b.2) := by simp [Bool.and_assoc]
    rw [e] at c
    refine at_refs c fun e => ?_
    subst e
    rw [hp] at hq; cases hq
    rw [EqA.same h0 k0]; rw [EqA.same h1 k1]; rfl
  same := fun hx hy => by
    obtain ⟨p, y0, y1, rfl, hp, h0, h1⟩ := hx
    obtain ⟨q, z0, z1, e, hq, k0, k1⟩ := hy
    cases e
    rw [hp] at hq; cases hq
    rw [EqA.same h0 k0]; rw [EqA.same h1 k1]; rfl
instance {α β : Type} [Py α] [EqA α] [DecidableEq α] [EqL α] [Py β] [EqA β] [DecidableEq β] [EqL β] : EqL (α × β) := ⟨fun a b => by
  show (EqA.eqd a.1 b.1 && EqA.eqd a.2 b.2) = _
  rw [EqL.lw, EqL.lw]
  obtain ⟨c0, c1⟩ := a; obtain ⟨d0, d1⟩ := b
  rw [Bool.eq_iff_iff]; simp [and_assoc]⟩
instance {α β γ : Type} [Py α] [EqA α] [Py β] [EqA β] [Py γ] [EqA γ] : EqA (T3 α β γ) where
  eqd a b := EqA.eqd a.x1 b.x1 && EqA.eqd a.x2 b.x2 && EqA.eqd a.x3 b.x3
  dep := max (EqA.dep γ) (max (EqA.dep β) (max (EqA.dep α) (0))) + 1
  cmp := fun {X pins σ H s x y v u a b A} I hx hy rx ry hu => by
    obtain ⟨p, y0, y1, y2, rfl, hp, h0, h1, h2⟩ := hx
    obtain ⟨q, z0, z1, z2, rfl, hq, k0, k1, k2⟩ := hy
    cases (show v = Value.ref p from rx); cases (show u = Value.ref q from ry)
    have c := cmp_tuples (A := A) (bs := [EqA.eqd a.x1 b.x1, EqA.eqd a.x2 b.x2, EqA.eqd a.x3 b.x3]) I hp hq (by omega) (fun us ws v1 v2 => match us, ws, v1, v2 with | _, _, .cons r0 (.cons r1 (.cons r2 (.nil))), .cons t0 (.cons t1 (.cons t2 (.nil))) => .cons (EqA.at_ I h0 k0 r0 t0 (by show A.units + 1 + _ < cLine; omega)) (.cons (EqA.at_ I h1 k1 r1 t1 (by show A.units + 1 + _ < cLine; omega)) (.cons (EqA.at_ I h2 k2 r2 t2 (by show A.units + 1 + _ < cLine; omega)) (.nilL))))
    have e : ([EqA.eqd a.x1 b.x1, EqA.eqd a.x2 b.x2, EqA.eqd a.x3 b.x3].all id && [y0, y1, y2].length == [z0, z1, z2].length) = (EqA.eqd a.x1 b.x1 && EqA.eqd a.x2 b.x2 && EqA.eqd a.x3 b.x3) := by simp [Bool.and_assoc]
    rw [e] at c
    exact c
  at_ := fun {X pins σ H s x y v u a b A} I hx hy rx ry hu => by
    obtain ⟨p, y0, y1, y2, rfl, hp, h0, h1, h2⟩ := hx
    obtain ⟨q, z0, z1, z2, rfl, hq, k0, k1, k2⟩ := hy
    cases (show v = Value.ref p from rx); cases (show u = Value.ref q from ry)
    have c := cmp_tuples (A := A) (bs := [EqA.eqd a.x1 b.x1, EqA.eqd a.x2 b.x2, EqA.eqd a.x3 b.x3]) I hp hq (by omega) (fun us ws v1 v2 => match us, ws, v1, v2 with | _, _, .cons r0 (.cons r1 (.cons r2 (.nil))), .cons t0 (.cons t1 (.cons t2 (.nil))) => .cons (EqA.at_ I h0 k0 r0 t0 (by show A.units + 1 + _ < cLine; omega)) (.cons (EqA.at_ I h1 k1 r1 t1 (by show A.units + 1 + _ < cLine; omega)) (.cons (EqA.at_ I h2 k2 r2 t2 (by show A.units + 1 + _ < cLine; omega)) (.nilL))))
    have e : ([EqA.eqd a.x1 b.x1, EqA.eqd a.x2 b.x2, EqA.eqd a.x3 b.x3].all id && [y0, y1, y2].length == [z0, z1, z2].length) = (EqA.eqd a.x1 b.x1 && EqA.eqd a.x2 b.x2 && EqA.eqd a.x3 b.x3) := by simp [Bool.and_assoc]
    rw [e] at c
    refine at_refs c fun e => ?_
    subst e
    rw [hp] at hq; cases hq
    rw [EqA.same h0 k0]; rw [EqA.same h1 k1]; rw [EqA.same h2 k2]; rfl
  same := fun hx hy => by
    obtain ⟨p, y0, y1, y2, rfl, hp, h0, h1, h2⟩ := hx
    obtain ⟨q, z0, z1, z2, e, hq, k0, k1, k2⟩ := hy
    cases e
    rw [hp] at hq; cases hq
    rw [EqA.same h0 k0]; rw [EqA.same h1 k1]; rw [EqA.same h2 k2]; rfl
instance {α β γ : Type} [Py α] [EqA α] [DecidableEq α] [EqL α] [Py β] [EqA β] [DecidableEq β] [EqL β] [Py γ] [EqA γ] [DecidableEq γ] [EqL γ] : EqL (T3 α β γ) := ⟨fun a b => by
  show (EqA.eqd a.x1 b.x1 && EqA.eqd a.x2 b.x2 && EqA.eqd a.x3 b.x3) = _
  rw [EqL.lw, EqL.lw, EqL.lw]
  obtain ⟨c0, c1, c2⟩ := a; obtain ⟨d0, d1, d2⟩ := b
  rw [Bool.eq_iff_iff]; simp [and_assoc]⟩
instance {α β γ δ : Type} [Py α] [EqA α] [Py β] [EqA β] [Py γ] [EqA γ] [Py δ] [EqA δ] : EqA (T4 α β γ δ) where
  eqd a b := EqA.eqd a.x1 b.x1 && EqA.eqd a.x2 b.x2 && EqA.eqd a.x3 b.x3 && EqA.eqd a.x4 b.x4
  dep := max (EqA.dep δ) (max (EqA.dep γ) (max (EqA.dep β) (max (EqA.dep α) (0)))) + 1
  cmp := fun {X pins σ H s x y v u a b A} I hx hy rx ry hu => by
    obtain ⟨p, y0, y1, y2, y3, rfl, hp, h0, h1, h2, h3⟩ := hx
    obtain ⟨q, z0, z1, z2, z3, rfl, hq, k0, k1, k2, k3⟩ := hy
    cases (show v = Value.ref p from rx); cases (show u = Value.ref q from ry)
    have c := cmp_tuples (A := A) (bs := [EqA.eqd a.x1 b.x1, EqA.eqd a.x2 b.x2, EqA.eqd a.x3 b.x3, EqA.eqd a.x4 b.x4]) I hp hq (by omega) (fun us ws v1 v2 => match us, ws, v1, v2 with | _, _, .cons r0 (.cons r1 (.cons r2 (.cons r3 (.nil)))), .cons t0 (.cons t1 (.cons t2 (.cons t3 (.nil)))) => .cons (EqA.at_ I h0 k0 r0 t0 (by show A.units + 1 + _ < cLine; omega)) (.cons (EqA.at_ I h1 k1 r1 t1 (by show A.units + 1 + _ < cLine; omega)) (.cons (EqA.at_ I h2 k2 r2 t2 (by show A.units + 1 + _ < cLine; omega)) (.cons (EqA.at_ I h3 k3 r3 t3 (by show A.units + 1 + _ < cLine; omega)) (.nilL)))))
    have e : ([EqA.eqd a.x1 b.x1, EqA.eqd a.x2 b.x2, EqA.eqd a.x3 b.x3, EqA.eqd a.x4 b.x4].all id && [y0, y1, y2, y3].length == [z0, z1, z2, z3].length) = (EqA.eqd a.x1 b.x1 && EqA.eqd a.x2 b.x2 && EqA.eqd a.x3 b.x3 && EqA.eqd a.x4 b.x4) := by simp [Bool.and_assoc]
    rw [e] at c
    exact c
  at_ := fun {X pins σ H s x y v u a b A} I hx hy rx ry hu => by
    obtain ⟨p, y0, y1, y2, y3, rfl, hp, h0, h1, h2, h3⟩ := hx
    obtain ⟨q, z0, z1, z2, z3, rfl, hq, k0, k1, k2, k3⟩ := hy
    cases (show v = Value.ref p from rx); cases (show u = Value.ref q from ry)
    have c := cmp_tuples (A := A) (bs := [EqA.eqd a.x1 b.x1, EqA.eqd a.x2 b.x2, EqA.eqd a.x3 b.x3, EqA.eqd a.x4 b.x4]) I hp hq (by omega) (fun us ws v1 v2 => match us, ws, v1, v2 with | _, _, .cons r0 (.cons r1 (.cons r2 (.cons r3 (.nil)))), .cons t0 (.cons t1 (.cons t2 (.cons t3 (.nil)))) => .cons (EqA.at_ I h0 k0 r0 t0 (by show A.units + 1 + _ < cLine; omega)) (.cons (EqA.at_ I h1 k1 r1 t1 (by show A.units + 1 + _ < cLine; omega)) (.cons (EqA.at_ I h2 k2 r2 t2 (by show A.units + 1 + _ < cLine; omega)) (.cons (EqA.at_ I h3 k3 r3 t3 (by show A.units + 1 + _ < cLine; omega)) (.nilL)))))
    have e : ([EqA.eqd a.x1 b.x1, EqA.eqd a.x2 b.x2, EqA.eqd a.x3 b.x3, EqA.eqd a.x4 b.x4].all id && [y0, y1, y2, y3].length == [z0, z1, z2, z3].length) = (EqA.eqd a.x1 b.x1 && EqA.eqd a.x2 b.x2 && EqA.eqd a.x3 b.x3 && EqA.eqd a.x4 b.x4) := by simp [Bool.and_assoc]
    rw [e] at c
    refine at_refs c fun e => ?_
    subst e
    rw [hp] at hq; cases hq
    rw [EqA.same h0 k0]; rw [EqA.same h1 k1]; rw [EqA.same h2 k2]; rw [EqA.same h3 k3]; rfl
  same := fun hx hy => by
    obtain ⟨p, y0, y1, y2, y3, rfl, hp, h0, h1, h2, h3⟩ := hx
    obtain ⟨q, z0, z1, z2, z3, e, hq, k0, k1, k2, k3⟩ := hy
    cases e
    rw [hp] at hq; cases hq
    rw [EqA.same h0 k0]; rw [EqA.same h1 k1]; rw [EqA.same h2 k2]; rw [EqA.same h3 k3]; rfl
instance {α β γ δ : Type} [Py α] [EqA α] [DecidableEq α] [EqL α] [Py β] [EqA β] [DecidableEq β] [EqL β] [Py γ] [EqA γ] [DecidableEq γ] [EqL γ] [Py δ] [EqA δ] [DecidableEq δ] [EqL δ] : EqL (T4 α β γ δ) := ⟨fun a b => by
  show (EqA.eqd a.x1 b.x1 && EqA.eqd a.x2 b.x2 && EqA.eqd a.x3 b.x3 && EqA.eqd a.x4 b.x4) = _
  rw [EqL.lw, EqL.lw, EqL.lw, EqL.lw]
  obtain ⟨c0, c1, c2, c3⟩ := a; obtain ⟨d0, d1, d2, d3⟩ := b
  rw [Bool.eq_iff_iff]; simp [and_assoc]⟩
instance {α β : Type} [Py α] [EqA α] [Py β] [EqA β] : EqA (HL2 α β) where
  eqd a b := EqA.eqd a.x1 b.x1 && EqA.eqd a.x2 b.x2
  dep := max (EqA.dep β) (max (EqA.dep α) (0)) + 1
  cmp := fun {X pins σ H s x y v u a b A} I hx hy rx ry hu => by
    obtain ⟨p, y0, y1, rfl, hp, h0, h1⟩ := hx
    obtain ⟨q, z0, z1, rfl, hq, k0, k1⟩ := hy
    cases (show v = Value.ref p from rx); cases (show u = Value.ref q from ry)
    have c := cmp_lists (A := A) (bs := [EqA.eqd a.x1 b.x1, EqA.eqd a.x2 b.x2]) I hp hq (by omega) (fun us ws v1 v2 => match us, ws, v1, v2 with | _, _, .cons r0 (.cons r1 (.nil)), .cons t0 (.cons t1 (.nil)) => .cons (EqA.at_ I h0 k0 r0 t0 (by show A.units + 1 + _ < cLine; omega)) (.cons (EqA.at_ I h1 k1 r1 t1 (by show A.units + 1 + _ < cLine; omega)) (.nilL)))
    have e : ([EqA.eqd a.x1 b.x1, EqA.eqd a.x2 b.x2].all id && [y0, y1].length == [z0, z1].length) = (EqA.eqd a.x1 b.x1 && EqA.eqd a.x2 b.x2) := by simp [Bool.and_assoc]
    rw [e] at c
    exact c
  at_ := fun {X pins σ H s x y v u a b A} I hx hy rx ry hu => by
    obtain ⟨p, y0, y1, rfl, hp, h0, h1⟩ := hx
    obtain ⟨q, z0, z1, rfl, hq, k0, k1⟩ := hy
    cases (show v = Value.ref p from rx); cases (show u = Value.ref q from ry)
    have c := cmp_lists (A := A) (bs := [EqA.eqd a.x1 b.x1, EqA.eqd a.x2 b.x2]) I hp hq (by omega) (fun us ws v1 v2 => match us, ws, v1, v2 with | _, _, .cons r0 (.cons r1 (.nil)), .cons t0 (.cons t1 (.nil)) => .cons (EqA.at_ I h0 k0 r0 t0 (by show A.units + 1 + _ < cLine; omega)) (.cons (EqA.at_ I h1 k1 r1 t1 (by show A.units + 1 + _ < cLine; omega)) (.nilL)))
    have e : ([EqA.eqd a.x1 b.x1, EqA.eqd a.x2 b.x2].all id && [y0, y1].length == [z0, z1].length) = (EqA.eqd a.x1 b.x1 && EqA.eqd a.x2 b.x2) := by simp [Bool.and_assoc]
    rw [e] at c
    refine at_refs c fun e => ?_
    subst e
    rw [hp] at hq; cases hq
    rw [EqA.same h0 k0]; rw [EqA.same h1 k1]; rfl
  same := fun hx hy => by
    obtain ⟨p, y0, y1, rfl, hp, h0, h1⟩ := hx
    obtain ⟨q, z0, z1, e, hq, k0, k1⟩ := hy
    cases e
    rw [hp] at hq; cases hq
    rw [EqA.same h0 k0]; rw [EqA.same h1 k1]; rfl
instance {α β : Type} [Py α] [EqA α] [DecidableEq α] [EqL α] [Py β] [EqA β] [DecidableEq β] [EqL β] : EqL (HL2 α β) := ⟨fun a b => by
  show (EqA.eqd a.x1 b.x1 && EqA.eqd a.x2 b.x2) = _
  rw [EqL.lw, EqL.lw]
  obtain ⟨c0, c1⟩ := a; obtain ⟨d0, d1⟩ := b
  rw [Bool.eq_iff_iff]; simp [and_assoc]⟩
instance {α β γ : Type} [Py α] [EqA α] [Py β] [EqA β] [Py γ] [EqA γ] : EqA (HL3 α β γ) where
  eqd a b := EqA.eqd a.x1 b.x1 && EqA.eqd a.x2 b.x2 && EqA.eqd a.x3 b.x3
  dep := max (EqA.dep γ) (max (EqA.dep β) (max (EqA.dep α) (0))) + 1
  cmp := fun {X pins σ H s x y v u a b A} I hx hy rx ry hu => by
    obtain ⟨p, y0, y1, y2, rfl, hp, h0, h1, h2⟩ := hx
    obtain ⟨q, z0, z1, z2, rfl, hq, k0, k1, k2⟩ := hy
    cases (show v = Value.ref p from rx); cases (show u = Value.ref q from ry)
    have c := cmp_lists (A := A) (bs := [EqA.eqd a.x1 b.x1, EqA.eqd a.x2 b.x2, EqA.eqd a.x3 b.x3]) I hp hq (by omega) (fun us ws v1 v2 => match us, ws, v1, v2 with | _, _, .cons r0 (.cons r1 (.cons r2 (.nil))), .cons t0 (.cons t1 (.cons t2 (.nil))) => .cons (EqA.at_ I h0 k0 r0 t0 (by show A.units + 1 + _ < cLine; omega)) (.cons (EqA.at_ I h1 k1 r1 t1 (by show A.units + 1 + _ < cLine; omega)) (.cons (EqA.at_ I h2 k2 r2 t2 (by show A.units + 1 + _ < cLine; omega)) (.nilL))))
    have e : ([EqA.eqd a.x1 b.x1, EqA.eqd a.x2 b.x2, EqA.eqd a.x3 b.x3].all id && [y0, y1, y2].length == [z0, z1, z2].length) = (EqA.eqd a.x1 b.x1 && EqA.eqd a.x2 b.x2 && EqA.eqd a.x3 b.x3) := by simp [Bool.and_assoc]
    rw [e] at c
    exact c
  at_ := fun {X pins σ H s x y v u a b A} I hx hy rx ry hu => by
    obtain ⟨p, y0, y1, y2, rfl, hp, h0, h1, h2⟩ := hx
    obtain ⟨q, z0, z1, z2, rfl, hq, k0, k1, k2⟩ := hy
    cases (show v = Value.ref p from rx); cases (show u = Value.ref q from ry)
    have c := cmp_lists (A := A) (bs := [EqA.eqd a.x1 b.x1, EqA.eqd a.x2 b.x2, EqA.eqd a.x3 b.x3]) I hp hq (by omega) (fun us ws v1 v2 => match us, ws, v1, v2 with | _, _, .cons r0 (.cons r1 (.cons r2 (.nil))), .cons t0 (.cons t1 (.cons t2 (.nil))) => .cons (EqA.at_ I h0 k0 r0 t0 (by show A.units + 1 + _ < cLine; omega)) (.cons (EqA.at_ I h1 k1 r1 t1 (by show A.units + 1 + _ < cLine; omega)) (.cons (EqA.at_ I h2 k2 r2 t2 (by show A.units + 1 + _ < cLine; omega)) (.nilL))))
    have e : ([EqA.eqd a.x1 b.x1, EqA.eqd a.x2 b.x2, EqA.eqd a.x3 b.x3].all id && [y0, y1, y2].length == [z0, z1, z2].length) = (EqA.eqd a.x1 b.x1 && EqA.eqd a.x2 b.x2 && EqA.eqd a.x3 b.x3) := by simp [Bool.and_assoc]
    rw [e] at c
    refine at_refs c fun e => ?_
    subst e
    rw [hp] at hq; cases hq
    rw [EqA.same h0 k0]; rw [EqA.same h1 k1]; rw [EqA.same h2 k2]; rfl
  same := fun hx hy => by
    obtain ⟨p, y0, y1, y2, rfl, hp, h0, h1, h2⟩ := hx
    obtain ⟨q, z0, z1, z2, e, hq, k0, k1, k2⟩ := hy
    cases e
    rw [hp] at hq; cases hq
    rw [EqA.same h0 k0]; rw [EqA.same h1 k1]; rw [EqA.same h2 k2]; rfl
instance {α β γ : Type} [Py α] [EqA α] [DecidableEq α] [EqL α] [Py β] [EqA β] [DecidableEq β] [EqL β] [Py γ] [EqA γ] [DecidableEq γ] [EqL γ] : EqL (HL3 α β γ) := ⟨fun a b => by
  show (EqA.eqd a.x1 b.x1 && EqA.eqd a.x2 b.x2 && EqA.eqd a.x3 b.x3) = _
  rw [EqL.lw, EqL.lw, EqL.lw]
  obtain ⟨c0, c1, c2⟩ := a; obtain ⟨d0, d1, d2⟩ := b
  rw [Bool.eq_iff_iff]; simp [and_assoc]⟩
instance {α β γ δ : Type} [Py α] [EqA α] [Py β] [EqA β] [Py γ] [EqA γ] [Py δ] [EqA δ] : EqA (HL4 α β γ δ) where
  eqd a b := EqA.eqd a.x1 b.x1 && EqA.eqd a.x2 b.x2 && EqA.eqd a.x3 b.x3 && EqA.eqd a.x4 b.x4
  dep := max (EqA.dep δ) (max (EqA.dep γ) (max (EqA.dep β) (max (EqA.dep α) (0)))) + 1
  cmp := fun {X pins σ H s x y v u a b A} I hx hy rx ry hu => by
    obtain ⟨p, y0, y1, y2, y3, rfl, hp, h0, h1, h2, h3⟩ := hx
    obtain ⟨q, z0, z1, z2, z3, rfl, hq, k0, k1, k2, k3⟩ := hy
    cases (show v = Value.ref p from rx); cases (show u = Value.ref q from ry)
    have c := cmp_lists (A := A) (bs := [EqA.eqd a.x1 b.x1, EqA.eqd a.x2 b.x2, EqA.eqd a.x3 b.x3, EqA.eqd a.x4 b.x4]) I hp hq (by omega) (fun us ws v1 v2 => match us, ws, v1, v2 with | _, _, .cons r0 (.cons r1 (.cons r2 (.cons r3 (.nil)))), .cons t0 (.cons t1 (.cons t2 (.cons t3 (.nil)))) => .cons (EqA.at_ I h0 k0 r0 t0 (by show A.units + 1 + _ < cLine; omega)) (.cons (EqA.at_ I h1 k1 r1 t1 (by show A.units + 1 + _ < cLine; omega)) (.cons (EqA.at_ I h2 k2 r2 t2 (by show A.units + 1 + _ < cLine; omega)) (.cons (EqA.at_ I h3 k3 r3 t3 (by show A.units + 1 + _ < cLine; omega)) (.nilL)))))
    have e : ([EqA.eqd a.x1 b.x1, EqA.eqd a.x2 b.x2, EqA.eqd a.x3 b.x3, EqA.eqd a.x4 b.x4].all id && [y0, y1, y2, y3].length == [z0, z1, z2, z3].length) = (EqA.eqd a.x1 b.x1 && EqA.eqd a.x2 b.x2 && EqA.eqd a.x3 b.x3 && EqA.eqd a.x4 b.x4) := by simp [Bool.and_assoc]
    rw [e] at c
    exact c
  at_ := fun {X pins σ H s x y v u a b A} I hx hy rx ry hu => by
    obtain ⟨p, y0, y1, y2, y3, rfl, hp, h0, h1, h2, h3⟩ := hx
    obtain ⟨q, z0, z1, z2, z3, rfl, hq, k0, k1, k2, k3⟩ := hy
    cases (show v = Value.ref p from rx); cases (show u = Value.ref q from ry)
    have c := cmp_lists (A := A) (bs := [EqA.eqd a.x1 b.x1, EqA.eqd a.x2 b.x2, EqA.eqd a.x3 b.x3, EqA.eqd a.x4 b.x4]) I hp hq (by omega) (fun us ws v1 v2 => match us, ws, v1, v2 with | _, _, .cons r0 (.cons r1 (.cons r2 (.cons r3 (.nil)))), .cons t0 (.cons t1 (.cons t2 (.cons t3 (.nil)))) => .cons (EqA.at_ I h0 k0 r0 t0 (by show A.units + 1 + _ < cLine; omega)) (.cons (EqA.at_ I h1 k1 r1 t1 (by show A.units + 1 + _ < cLine; omega)) (.cons (EqA.at_ I h2 k2 r2 t2 (by show A.units + 1 + _ < cLine; omega)) (.cons (EqA.at_ I h3 k3 r3 t3 (by show A.units + 1 + _ < cLine; omega)) (.nilL)))))
    have e : ([EqA.eqd a.x1 b.x1, EqA.eqd a.x2 b.x2, EqA.eqd a.x3 b.x3, EqA.eqd a.x4 b.x4].all id && [y0, y1, y2, y3].length == [z0, z1, z2, z3].length) = (EqA.eqd a.x1 b.x1 && EqA.eqd a.x2 b.x2 && EqA.eqd a.x3 b.x3 && EqA.eqd a.x4 b.x4) := by simp [Bool.and_assoc]
    rw [e] at c
    refine at_refs c fun e => ?_
    subst e
    rw [hp] at hq; cases hq
    rw [EqA.same h0 k0]; rw [EqA.same h1 k1]; rw [EqA.same h2 k2]; rw [EqA.same h3 k3]; rfl
  same := fun hx hy => by
    obtain ⟨p, y0, y1, y2, y3, rfl, hp, h0, h1, h2, h3⟩ := hx
    obtain ⟨q, z0, z1, z2, z3, e, hq, k0, k1, k2, k3⟩ := hy
    cases e
    rw [hp] at hq; cases hq
    rw [EqA.same h0 k0]; rw [EqA.same h1 k1]; rw [EqA.same h2 k2]; rw [EqA.same h3 k3]; rfl
instance {α β γ δ : Type} [Py α] [EqA α] [DecidableEq α] [EqL α] [Py β] [EqA β] [DecidableEq β] [EqL β] [Py γ] [EqA γ] [DecidableEq γ] [EqL γ] [Py δ] [EqA δ] [DecidableEq δ] [EqL δ] : EqL (HL4 α β γ δ) := ⟨fun a b => by
  show (EqA.eqd a.x1 b.x1 && EqA.eqd a.x2 b.x2 && EqA.eqd a.x3 b.x3 && EqA.eqd a.x4 b.x4) = _
  rw [EqL.lw, EqL.lw, EqL.lw, EqL.lw]
  obtain ⟨c0, c1, c2, c3⟩ := a; obtain ⟨d0, d1, d2, d3⟩ := b
  rw [Bool.eq_iff_iff]; simp [and_assoc]⟩
instance {α β γ δ ε : Type} [Py α] [EqA α] [Py β] [EqA β] [Py γ] [EqA γ] [Py δ] [EqA δ] [Py ε] [EqA ε] : EqA (HL5 α β γ δ ε) where
  eqd a b := EqA.eqd a.x1 b.x1 && EqA.eqd a.x2 b.x2 && EqA.eqd a.x3 b.x3 && EqA.eqd a.x4 b.x4 && EqA.eqd a.x5 b.x5
  dep := max (EqA.dep ε) (max (EqA.dep δ) (max (EqA.dep γ) (max (EqA.dep β) (max (EqA.dep α) (0))))) + 1
  cmp := fun {X pins σ H s x y v u a b A} I hx hy rx ry hu => by
    obtain ⟨p, y0, y1, y2, y3, y4, rfl, hp, h0, h1, h2, h3, h4⟩ := hx
    obtain ⟨q, z0, z1, z2, z3, z4, rfl, hq, k0, k1, k2, k3, k4⟩ := hy
    cases (show v = Value.ref p from rx); cases (show u = Value.ref q from ry)
    have c := cmp_lists (A := A) (bs := [EqA.eqd a.x1 b.x1, EqA.eqd a.x2 b.x2, EqA.eqd a.x3 b.x3, EqA.eqd a.x4 b.x4, EqA.eqd a.x5 b.x5]) I hp hq (by omega) (fun us ws v1 v2 => match us, ws, v1, v2 with | _, _, .cons r0 (.cons r1 (.cons r2 (.cons r3 (.cons r4 (.nil))))), .cons t0 (.cons t1 (.cons t2 (.cons t3 (.cons t4 (.nil))))) => .cons (EqA.at_ I h0 k0 r0 t0 (by show A.units + 1 + _ < cLine; omega)) (.cons (EqA.at_ I h1 k1 r1 t1 (by show A.units + 1 + _ < cLine; omega)) (.cons (EqA.at_ I h2 k2 r2 t2 (by show A.units + 1 + _ < cLine; omega)) (.cons (EqA.at_ I h3 k3 r3 t3 (by show A.units + 1 + _ < cLine; omega)) (.cons (EqA.at_ I h4 k4 r4 t4 (by show A.units + 1 + _ < cLine; omega)) (.nilL))))))
    have e : ([EqA.eqd a.x1 b.x1, EqA.eqd a.x2 b.x2, EqA.eqd a.x3 b.x3, EqA.eqd a.x4 b.x4, EqA.eqd a.x5 b.x5].all id && [y0, y1, y2, y3, y4].length == [z0, z1, z2, z3, z4].length) = (EqA.eqd a.x1 b.x1 && EqA.eqd a.x2 b.x2 && EqA.eqd a.x3 b.x3 && EqA.eqd a.x4 b.x4 && EqA.eqd a.x5 b.x5) := by simp [Bool.and_assoc]
    rw [e] at c
    exact c
  at_ := fun {X pins σ H s x y v u a b A} I hx hy rx ry hu => by
    obtain ⟨p, y0, y1, y2, y3, y4, rfl, hp, h0, h1, h2, h3, h4⟩ := hx
    obtain ⟨q, z0, z1, z2, z3, z4, rfl, hq, k0, k1, k2, k3, k4⟩ := hy
    cases (show v = Value.ref p from rx); cases (show u = Value.ref q from ry)
    have c := cmp_lists (A := A) (bs := [EqA.eqd a.x1 b.x1, EqA.eqd a.x2 b.x2, EqA.eqd a.x3 b.x3, EqA.eqd a.x4 b.x4, EqA.eqd a.x5 b.x5]) I hp hq (by omega) (fun us ws v1 v2 => match us, ws, v1, v2 with | _, _, .cons r0 (.cons r1 (.cons r2 (.cons r3 (.cons r4 (.nil))))), .cons t0 (.cons t1 (.cons t2 (.cons t3 (.cons t4 (.nil))))) => .cons (EqA.at_ I h0 k0 r0 t0 (by show A.units + 1 + _ < cLine; omega)) (.cons (EqA.at_ I h1 k1 r1 t1 (by show A.units + 1 + _ < cLine; omega)) (.cons (EqA.at_ I h2 k2 r2 t2 (by show A.units + 1 + _ < cLine; omega)) (.cons (EqA.at_ I h3 k3 r3 t3 (by show A.units + 1 + _ < cLine; omega)) (.cons (EqA.at_ I h4 k4 r4 t4 (by show A.units + 1 + _ < cLine; omega)) (.nilL))))))
    have e : ([EqA.eqd a.x1 b.x1, EqA.eqd a.x2 b.x2, EqA.eqd a.x3 b.x3, EqA.eqd a.x4 b.x4, EqA.eqd a.x5 b.x5].all id && [y0, y1, y2, y3, y4].length == [z0, z1, z2, z3, z4].length) = (EqA.eqd a.x1 b.x1 && EqA.eqd a.x2 b.x2 && EqA.eqd a.x3 b.x3 && EqA.eqd a.x4 b.x4 && EqA.eqd a.x5 b.x5) := by simp [Bool.and_assoc]
    rw [e] at c
    refine at_refs c fun e => ?_
    subst e
    rw [hp] at hq; cases hq
    rw [EqA.same h0 k0]; rw [EqA.same h1 k1]; rw [EqA.same h2 k2]; rw [EqA.same h3 k3]; rw [EqA.same h4 k4]; rfl
  same := fun hx hy => by
    obtain ⟨p, y0, y1, y2, y3, y4, rfl, hp, h0, h1, h2, h3, h4⟩ := hx
    obtain ⟨q, z0, z1, z2, z3, z4, e, hq, k0, k1, k2, k3, k4⟩ := hy
    cases e
    rw [hp] at hq; cases hq
    rw [EqA.same h0 k0]; rw [EqA.same h1 k1]; rw [EqA.same h2 k2]; rw [EqA.same h3 k3]; rw [EqA.same h4 k4]; rfl
instance {α β γ δ ε : Type} [Py α] [EqA α] [DecidableEq α] [EqL α] [Py β] [EqA β] [DecidableEq β] [EqL β] [Py γ] [EqA γ] [DecidableEq γ] [EqL γ] [Py δ] [EqA δ] [DecidableEq δ] [EqL δ] [Py ε] [EqA ε] [DecidableEq ε] [EqL ε] : EqL (HL5 α β γ δ ε) := ⟨fun a b => by
  show (EqA.eqd a.x1 b.x1 && EqA.eqd a.x2 b.x2 && EqA.eqd a.x3 b.x3 && EqA.eqd a.x4 b.x4 && EqA.eqd a.x5 b.x5) = _
  rw [EqL.lw, EqL.lw, EqL.lw, EqL.lw, EqL.lw]
  obtain ⟨c0, c1, c2, c3, c4⟩ := a; obtain ⟨d0, d1, d2, d3, d4⟩ := b
  rw [Bool.eq_iff_iff]; simp [and_assoc]⟩
/-! None beside other data -/
class NnA (α : Type) [Py α] where
  nn : ∀ {X : Cx} {pins : List (Addr × Obj)} {σ : L2.St} {H : Hp} {s : Shared} {x : V} {v : Value} {a : α} {A : Around}, Inv X pins σ H s → Py.R X.K H x a → RelV x v → A.units < cLine → (Cmp A s .none v false ∧ Cmp A s v .none false) ∧ EqAt A s .none v false ∧ EqAt A s v .none false
  ne : ∀ {K : Fr} {H : Hp} {a : α}, ¬ Py.R K H .non a
instance : NnA Int := ⟨fun {X pins σ H s x v a A} _ hx rx _ => by
  cases (show x = V.int a from hx); obtain ⟨t, rfl⟩ := rx
  exact ⟨⟨⟨SeqAt.RcAt.none_int a t, SeqAt.RcNeAt.none_int a t⟩, SeqAt.RcAt.int_none a t, SeqAt.RcNeAt.int_none a t⟩, SeqAt.EqAt.none_int a t, SeqAt.EqAt.int_none a t⟩, fun h => nomatch h⟩
instance : NnA Str := ⟨fun {X pins σ H s x v a A} _ hx rx _ => by
  cases (show x = V.str a from hx); obtain ⟨t, rfl⟩ := rx
  exact ⟨⟨⟨SeqAt.RcAt.none_str a t, SeqAt.RcNeAt.none_str a t⟩, SeqAt.RcAt.str_none a t, SeqAt.RcNeAt.str_none a t⟩, SeqAt.EqAt.none_str a t, SeqAt.EqAt.str_none a t⟩, fun h => nomatch h⟩
instance : NnA Bool := ⟨fun {X pins σ H s x v a A} _ hx rx _ => by
  cases (show x = V.bl a from hx); cases (show v = Value.bool a from rx)
  exact ⟨⟨⟨SeqAt.RcAt.none_bool a, SeqAt.RcNeAt.none_bool a⟩, SeqAt.RcAt.bool_none a, SeqAt.RcNeAt.bool_none a⟩, SeqAt.EqAt.none_bool a, SeqAt.EqAt.bool_none a⟩, fun h => nomatch h⟩
theorem nn_list {X : Cx} {pins : List (Addr × Obj)} {σ : L2.St} {H : Hp} {s : Shared} {p : Addr} {xs : List V} {A : Around} (I : Inv X pins σ H s) (hp : H p = some (.lst xs)) (hu : A.units < cLine) : (Cmp A s .none (.ref p) false ∧ Cmp A s (.ref p) .none false) ∧ EqAt A s .none (.ref p) false ∧ EqAt A s (.ref p) .none false := by
  obtain ⟨us, _, p1, _⟩ := I.list (SqL.of hp)
  exact ⟨⟨⟨SeqAt.RcAt.none_list p1.isList hu, SeqAt.RcNeAt.none_list p1.isList hu⟩, SeqAt.RcAt.list_none p1.isList hu, SeqAt.RcNeAt.list_none p1.isList hu⟩, SeqAt.EqAt.none_list p1.isList hu, SeqAt.EqAt.list_none p1.isList hu⟩
theorem nn_tuple {X : Cx} {pins : List (Addr × Obj)} {σ : L2.St} {H : Hp} {s : Shared} {p : Addr} {xs : List V} {A : Around} (I : Inv X pins σ H s) (hp : H p = some (.tup xs)) (hu : A.units < cLine) : (Cmp A s .none (.ref p) false ∧ Cmp A s (.ref p) .none false) ∧ EqAt A s .none (.ref p) false ∧ EqAt A s (.ref p) .none false := by
  obtain ⟨us, _, p1, _⟩ := I.tuple (SqT.of hp)
  exact ⟨⟨⟨SeqAt.RcAt.none_tuple p1 hu, SeqAt.RcNeAt.none_tuple p1 hu⟩, SeqAt.RcAt.tuple_none p1 hu, SeqAt.RcNeAt.tuple_none p1 hu⟩, SeqAt.EqAt.none_tuple p1 hu, SeqAt.EqAt.tuple_none p1 hu⟩
section
variable {α β γ δ ε : Type} [Py α] [Py β] [Py γ] [Py δ] [Py ε]
instance : NnA (List α) := ⟨fun I hx rx hu => by
  obtain ⟨p, xs, rfl, hp, _⟩ := hx; cases rx
  exact nn_list I hp hu, fun ⟨_, _, e, _⟩ => nomatch e⟩
instance : NnA (HL2 α β) := ⟨fun I hx rx hu => by
  obtain ⟨p, _, _, rfl, hp, _⟩ := hx; cases rx
  exact nn_list I hp hu, fun ⟨_, _, _, e, _⟩ => nomatch e⟩
instance : NnA (TL α) := ⟨fun I hx rx hu => by
  obtain ⟨p, xs, rfl, hp, _⟩ := hx; cases rx
  exact nn_tuple I hp hu, fun ⟨_, _, e, _⟩ => nomatch e⟩
instance : NnA (α × β) := ⟨fun I hx rx hu => by
  obtain ⟨p, _, _, rfl, hp, _⟩ := hx; cases rx
  exact nn_tuple I hp hu, fun ⟨_, _, _, e, _⟩ => nomatch e⟩
instance : NnA (T3 α β γ) := ⟨fun I hx rx hu => by
  obtain ⟨p, _, _, _, rfl, hp, _⟩ := hx; cases rx
  exact nn_tuple I hp hu, fun ⟨_, _, _, _, e, _⟩ => nomatch e⟩
instance : NnA (T4 α β γ δ) := ⟨fun I hx rx hu => by
  obtain ⟨p, _, _, _, _, rfl, hp, _⟩ := hx; cases rx
  exact nn_tuple I hp hu, fun ⟨_, _, _, _, _, e, _⟩ => nomatch e⟩
instance : NnA (TO α β γ) := ⟨fun {X pins σ H s x v a A} I hx rx hu => by
  obtain ⟨x1, x2, x3⟩ := a
  obtain ⟨p, _, _, rfl, _, _, h3⟩ := hx; cases rx
  cases x3 with
  | none => exact nn_tuple I h3 hu
  | some c => obtain ⟨_, hz, _⟩ := h3; exact nn_tuple I hz hu, fun {K H a} h => by obtain ⟨_, _, _, e, _⟩ := h; cases e⟩
end
instance {α : Type} [Py α] [EqA α] [NnA α] : EqA (Option α) where
  eqd a b := match a, b with
    | none, none => true
    | some a, some b => EqA.eqd a b
    | _, _ => false
  dep := EqA.dep α
  cmp := fun {X pins σ H s x y v u a b A} I hx hy rx ry hu => by
    cases a with
    | none =>
      cases (show x = V.non from hx); cases (show v = Value.none from rx)
      cases b with
      | none => cases (show y = V.non from hy); cases (show u = Value.none from ry); exact ⟨SeqAt.RcAt.none_none, SeqAt.RcNeAt.none_none⟩
      | some b => exact (NnA.nn (α := α) (a := b) I hy ry (by omega)).1.1
    | some a =>
      cases b with
      | none => cases (show y = V.non from hy); cases (show u = Value.none from ry); exact (NnA.nn (α := α) (a := a) I hx rx (by omega)).1.2
      | some b => exact EqA.cmp (α := α) I hx hy rx ry hu
  at_ := fun {X pins σ H s x y v u a b A} I hx hy rx ry hu => by
    cases a with
    | none =>
      cases (show x = V.non from hx); cases (show v = Value.none from rx)
      cases b with
      | none => cases (show y = V.non from hy); cases (show u = Value.none from ry); exact SeqAt.EqAt.same _
      | some b => exact (NnA.nn (α := α) (a := b) I hy ry (by omega)).2.1
    | some a =>
      cases b with
      | none => cases (show y = V.non from hy); cases (show u = Value.none from ry); exact (NnA.nn (α := α) (a := a) I hx rx (by omega)).2.2
      | some b => exact EqA.at_ (α := α) I hx hy rx ry hu
  same := fun {K H x a b} hx hy => by
    cases a with
    | none =>
      cases (show x = V.non from hx)
      cases b with
      | none => rfl
      | some b => exact (NnA.ne (α := α) hy).elim
    | some a =>
      cases b with
      | none => cases (show x = V.non from hy); exact (NnA.ne (α := α) hx).elim
      | some b => exact EqA.same (α := α) hx hy
instance {α : Type} [Py α] [EqA α] [NnA α] [DecidableEq α] [EqL α] : EqL (Option α) := ⟨fun a b => by
  cases a <;> cases b <;> first | rfl | simp [EqA.eqd] | skip
  rename_i a b
  exact (EqL.lw a b).trans (by simp)⟩
instance {α β γ : Type} [Py α] [EqA α] [Py β] [EqA β] [Py γ] [EqA γ] : EqA (TO α β γ) where
  eqd a b := EqA.eqd a.x1 b.x1 && (EqA.eqd a.x2 b.x2 && match a.x3, b.x3 with
    | none, none => true
    | some c, some d => EqA.eqd c d
    | _, _ => false)
  dep := max (EqA.dep α) (max (EqA.dep β) (EqA.dep γ)) + 1
  cmp := fun {X pins σ H s x y v u a b A} I hx hy rx ry hu => by
    obtain ⟨a1, a2, a3⟩ := a; obtain ⟨b1, b2, b3⟩ := b
    obtain ⟨p, y0, y1, rfl, h0, h1, h2⟩ := hx
    obtain ⟨q, z0, z1, rfl, k0, k1, k2⟩ := hy
    cases (show v = Value.ref p from rx); cases (show u = Value.ref q from ry)
    have u1 : A.in1.units + EqA.dep α < cLine := by show A.units + 1 + _ < cLine; omega
    have u2 : A.in1.units + EqA.dep β < cLine := by show A.units + 1 + _ < cLine; omega
    have u3 : A.in1.units + EqA.dep γ < cLine := by show A.units + 1 + _ < cLine; omega
    cases a3 with
    | none =>
      cases b3 with
      | none =>
        have c := cmp_tuples (A := A) (bs := [EqA.eqd a1 b1, EqA.eqd a2 b2]) I h2 k2 (by omega) (fun us ws v1 v2 => match us, ws, v1, v2 with | _, _, .cons r0 (.cons r1 .nil), .cons t0 (.cons t1 .nil) => .cons (EqA.at_ I h0 k0 r0 t0 u1) (.cons (EqA.at_ I h1 k1 r1 t1 u2) .nilL))
        simpa using c
      | some d =>
        obtain ⟨z2, k2, k3⟩ := k2
        have c := cmp_tuples (A := A) (bs := [EqA.eqd a1 b1, EqA.eqd a2 b2]) I h2 k2 (by omega) (fun us ws v1 v2 => match us, ws, v1, v2 with | _, _, .cons r0 (.cons r1 .nil), .cons t0 (.cons t1 _) => .cons (EqA.at_ I h0 k0 r0 t0 u1) (.cons (EqA.at_ I h1 k1 r1 t1 u2) .nilL))
        simpa using c
    | some c =>
      obtain ⟨y2, h2, h3⟩ := h2
      cases b3 with
      | none =>
        have c := cmp_tuples (A := A) (bs := [EqA.eqd a1 b1, EqA.eqd a2 b2]) I h2 k2 (by omega) (fun us ws v1 v2 => match us, ws, v1, v2 with | _, _, .cons r0 (.cons r1 _), .cons t0 (.cons t1 .nil) => .cons (EqA.at_ I h0 k0 r0 t0 u1) (.cons (EqA.at_ I h1 k1 r1 t1 u2) .nilR))
        simpa using c
      | some d =>
        obtain ⟨z2, k2, k3⟩ := k2
        have cc := cmp_tuples (A := A) (bs := [EqA.eqd a1 b1, EqA.eqd a2 b2, EqA.eqd c d]) I h2 k2 (by omega) (fun us ws v1 v2 => match us, ws, v1, v2 with | _, _, .cons r0 (.cons r1 (.cons r2 .nil)), .cons t0 (.cons t1 (.cons t2 .nil)) => .cons (EqA.at_ I h0 k0 r0 t0 u1) (.cons (EqA.at_ I h1 k1 r1 t1 u2) (.cons (EqA.at_ I h3 k3 r2 t2 u3) .nilL)))
        simpa using cc
  at_ := fun {X pins σ H s x y v u a b A} I hx hy rx ry hu => by
    obtain ⟨a1, a2, a3⟩ := a; obtain ⟨b1, b2, b3⟩ := b
    obtain ⟨p, y0, y1, rfl, h0, h1, h2⟩ := hx
    obtain ⟨q, z0, z1, rfl, k0, k1, k2⟩ := hy
    cases (show v = Value.ref p from rx); cases (show u = Value.ref q from ry)
    have u1 : A.in1.units + EqA.dep α < cLine := by show A.units + 1 + _ < cLine; omega
    have u2 : A.in1.units + EqA.dep β < cLine := by show A.units + 1 + _ < cLine; omega
    have u3 : A.in1.units + EqA.dep γ < cLine := by show A.units + 1 + _ < cLine; omega
    cases a3 with
    | none =>
      cases b3 with
      | none =>
        have c := cmp_tuples (A := A) (bs := [EqA.eqd a1 b1, EqA.eqd a2 b2]) I h2 k2 (by omega) (fun us ws v1 v2 => match us, ws, v1, v2 with | _, _, .cons r0 (.cons r1 .nil), .cons t0 (.cons t1 .nil) => .cons (EqA.at_ I h0 k0 r0 t0 u1) (.cons (EqA.at_ I h1 k1 r1 t1 u2) .nilL))
        refine at_refs (by simpa using c) fun e => ?_
        subst e; rw [h2] at k2; cases k2
        rw [EqA.same h0 k0, EqA.same h1 k1]; rfl
      | some d =>
        obtain ⟨z2, k2, k3⟩ := k2
        have c := cmp_tuples (A := A) (bs := [EqA.eqd a1 b1, EqA.eqd a2 b2]) I h2 k2 (by omega) (fun us ws v1 v2 => match us, ws, v1, v2 with | _, _, .cons r0 (.cons r1 .nil), .cons t0 (.cons t1 _) => .cons (EqA.at_ I h0 k0 r0 t0 u1) (.cons (EqA.at_ I h1 k1 r1 t1 u2) .nilL))
        refine at_refs (by simpa using c) fun e => ?_
        subst e; rw [h2] at k2; cases k2
    | some c =>
      obtain ⟨y2, h2, h3⟩ := h2
      cases b3 with
      | none =>
        have c := cmp_tuples (A := A) (bs := [EqA.eqd a1 b1, EqA.eqd a2 b2]) I h2 k2 (by omega) (fun us ws v1 v2 => match us, ws, v1, v2 with | _, _, .cons r0 (.cons r1 _), .cons t0 (.cons t1 .nil) => .cons (EqA.at_ I h0 k0 r0 t0 u1) (.cons (EqA.at_ I h1 k1 r1 t1 u2) .nilR))
        refine at_refs (by simpa using c) fun e => ?_
        subst e; rw [h2] at k2; cases k2
      | some d =>
        obtain ⟨z2, k2, k3⟩ := k2
        have cc := cmp_tuples (A := A) (bs := [EqA.eqd a1 b1, EqA.eqd a2 b2, EqA.eqd c d]) I h2 k2 (by omega) (fun us ws v1 v2 => match us, ws, v1, v2 with | _, _, .cons r0 (.cons r1 (.cons r2 .nil)), .cons t0 (.cons t1 (.cons t2 .nil)) => .cons (EqA.at_ I h0 k0 r0 t0 u1) (.cons (EqA.at_ I h1 k1 r1 t1 u2) (.cons (EqA.at_ I h3 k3 r2 t2 u3) .nilL)))
        refine at_refs (by simpa using cc) fun e => ?_
        subst e; rw [h2] at k2; cases k2
        show (EqA.eqd a1 b1 && (EqA.eqd a2 b2 && EqA.eqd c d)) = true
        rw [EqA.same h0 k0, EqA.same h1 k1, EqA.same h3 k3]; rfl
  same := fun {K H x a b} hx hy => by
    obtain ⟨a1, a2, a3⟩ := a; obtain ⟨b1, b2, b3⟩ := b
    obtain ⟨p, y0, y1, rfl, h0, h1, h2⟩ := hx
    obtain ⟨q, z0, z1, e, k0, k1, k2⟩ := hy
    cases e
    cases a3 with
    | none =>
      cases b3 with
      | none => rw [h2] at k2; cases k2; dsimp only; rw [EqA.same h0 k0, EqA.same h1 k1]; rfl
      | some d => obtain ⟨z2, k2, k3⟩ := k2; rw [h2] at k2; cases k2
    | some c =>
      obtain ⟨y2, h2, h3⟩ := h2
      cases b3 with
      | none => rw [h2] at k2; cases k2
      | some d => obtain ⟨z2, k2, k3⟩ := k2; rw [h2] at k2; cases k2; show (EqA.eqd a1 b1 && (EqA.eqd a2 b2 && EqA.eqd c d)) = true; rw [EqA.same h0 k0, EqA.same h1 k1, EqA.same h3 k3]; rfl
instance {α β γ : Type} [Py α] [EqA α] [DecidableEq α] [EqL α] [Py β] [EqA β] [DecidableEq β] [EqL β] [Py γ] [EqA γ] [DecidableEq γ] [EqL γ] : EqL (TO α β γ) := ⟨fun a b => by
  obtain ⟨a1, a2, a3⟩ := a; obtain ⟨b1, b2, b3⟩ := b
  show (EqA.eqd a1 b1 && (EqA.eqd a2 b2 && _)) = _
  rw [EqL.lw, EqL.lw]
  cases a3 <;> cases b3 <;> (try dsimp only) <;> (try rw [EqL.lw]) <;> rw [Bool.eq_iff_iff] <;> simp⟩
/-! ### the comparison itself; dicts -/
class EqC (α : Type) [Py α] where
  eqc : α → α → Bool
  dpc : Nat
  cmp : ∀ {X : Cx} {pins : List (Addr × Obj)} {σ : L2.St} {H : Hp} {s : Shared} {x y : V} {v u : Value} {a b : α} {A : Around}, Inv X pins σ H s → Py.R X.K H x a → Py.R X.K H y b → RelV x v → RelV y u → A.units + dpc < cLine →
    (∀ (E Q : Value → Shared → Prop), Q (.bool (eqc a b)) s → wpAny (model X.prog X.w) A (compareOp .Eq v u) Q E s) ∧ ∀ (E Q : Value → Shared → Prop), Q (.bool (!eqc a b)) s → wpAny (model X.prog X.w) A (compareOp .NotEq v u) Q E s
instance {α : Type} [Py α] [EqA α] : EqC α where
  eqc := EqA.eqd
  dpc := EqA.dep α
  cmp := fun I hx hy rx ry hu => let c := EqA.cmp I hx hy rx ry hu; ⟨fun E Q q => c.1 _ _ E Q q, fun E Q q => c.2 _ _ E Q q⟩
section
variable {κ α : Type} [Sc κ] [DecidableEq κ] [Kt κ] [Py α] [EqA α]
def eqDs (m n : Dct κ α) : Bool := m.kv.length == n.kv.length && m.kv.all fun p => match dGet n.kv p.1 with
  | none => false
  | some b => EqA.eqd p.2 b
theorem hitsD {X : Cx} {pins : List (Addr × Obj)} {σ : L2.St} {H : Hp} {s : Shared} {A : Around} (I : Inv X pins σ H s) (hu : A.units + EqA.dep α < cLine) {n : List (κ × α)} {kb : List (Key × V)} {vb : List (Key × Value)} (pb : Paired (EntK X.K H) kb n) (rb : KV kb vb) :
    ∀ {m : List (κ × α)} {ka : List (Key × V)} {va : List (Key × Value)}, Paired (EntK X.K H) ka m → KV ka va → PySem.W.KeqHits A s vb va (m.all fun p => match dGet n p.1 with | none => false | some b => EqA.eqd p.2 b)
  | _, _, _, .nil, .nil => .nil
  | _, _, (key, v) :: r, .cons (b := q) e t, .cons h t2 => by
    have e1 : Kt.key q.1 = key := e.1.symm.trans h.1
    rw [List.all_cons]
    have rr := rb.val key
    rw [← e1] at rr ⊢
    rcases ent_get q.1 pb with ⟨h1, h2⟩ | ⟨w, a, h1, h2, h3⟩
    · rw [h2]
      dsimp only
      rw [Bool.false_and]
      rw [h1] at rr
      refine .miss ?_
      cases hv : valueAt vb (Kt.key q.1) with
      | none => rfl
      | some y => rw [hv] at rr; exact rr.elim
    · rw [h2]
      dsimp only
      rw [h1] at rr
      obtain ⟨y, hy, ry⟩ := rr.some_of
      exact .hit hy (EqA.at_ I e.2 h3 h.2 ry hu) (hitsD I hu pb rb t t2)
instance : EqC (Dct κ α) where
  eqc := eqDs
  dpc := EqA.dep α + 1
  cmp := fun {X pins σ H s x y v u a b A} I hx hy rx ry hu => by
    obtain ⟨p, ka, rfl, hp, h1⟩ := hx
    obtain ⟨q, kb, rfl, hq, h2⟩ := hy
    cases (show v = Value.ref p from rx); cases (show u = Value.ref q from ry)
    obtain ⟨_, ya, va, ra, da⟩ := (show ObjOk X.prog X.w H s.heap p (.dK ka) from I.hok p _ hp)
    obtain ⟨_, yb, vb, rb, db⟩ := (show ObjOk X.prog X.w H s.heap q (.dK kb) from I.hok q _ hq)
    have hits := hitsD (A := A.in1) I (by show A.units + 1 + _ < cLine; omega) h2 rb h1 ra
    have la : va.length = a.kv.length := by rw [← ra.length]; exact h1.pLen
    have lb : vb.length = b.kv.length := by rw [← rb.length]; exact h2.pLen
    refine ⟨fun E Q hQ => PySem.W.keq_eq (knd := mixKind X.prog X.w) ya yb da db (by omega) (fun _ => hits) ?_, fun E Q hQ => PySem.W.keq_ne (knd := mixKind X.prog X.w) ya yb da db (by omega) (fun _ => hits) ?_⟩
    · rw [la, lb]; exact hQ
    · rw [la, lb]; exact hQ
end
def rEqC (K : Fr) : R2 := fun x y H Q => ∃ (b : Bool) (n : Nat), n ≤ 64 ∧ (∀ {X : Cx} {pins : List (Addr × Obj)} {σ : L2.St} {s : Shared} {v u : Value}, X.K = K → Inv X pins σ H s → RelV x v → RelV y u → X.A.units + n < cLine →
  ∀ (E Q : Value → Shared → Prop), Q (.bool b) s → wpAny (model X.prog X.w) X.A (compareOp .Eq v u) Q E s) ∧ Q (.bl b) H
def rNeC (K : Fr) : R2 := fun x y H Q => ∃ (b : Bool) (n : Nat), n ≤ 64 ∧ (∀ {X : Cx} {pins : List (Addr × Obj)} {σ : L2.St} {s : Shared} {v u : Value}, X.K = K → Inv X pins σ H s → RelV x v → RelV y u → X.A.units + n < cLine →
  ∀ (E Q : Value → Shared → Prop), Q (.bool b) s → wpAny (model X.prog X.w) X.A (compareOp .NotEq v u) Q E s) ∧ Q (.bl b) H
theorem op_eqC {X : Cx} (hu : X.A.units + 64 < cLine) : OpR X (compareOp .Eq) (rEqC X.K) := by
  intro pins s σ H x y v u Q I rx ry h
  obtain ⟨b, n, hn, h, q⟩ := h
  exact h rfl I rx ry (by omega) _ _ ⟨.bl b, H, I, rfl, q⟩
/-- what a value tells now -/
structure Rn {α : Type} [Py α] (K : Fr) (H : Hp) (v : V) (a : α) : Prop where
  r : Py.R K H v a
section
variable {K : Fr} {Z H Z0 H0 : Hp} {Q : VK} {α : Type} [Py α]
theorem Rn.tel {v : V} {a : α} (zh : Same Z H) (h : Py.R K Z v a) : Rn K H v a := ⟨Py.mono zh h⟩
theorem Rn.own {S : Sh α} [Dat S] {v : V} {ps : List Addr} {a : α} (zh : Same Z H) (o : OwnO S K H0 Z H v ps a) : Rn K H v a := ⟨Py.mono (o.seez zh) o.see⟩
theorem Rn.sc {α : Type} [Sc α] {a : α} : Rn K H (Sc.emb a) a := ⟨rfl⟩
theorem Rn.some {v : V} {a : α} (h : Rn K H v a) : Rn K H v (some a) := ⟨h.r⟩
theorem Rn.none : Rn K H .non (none : Option α) := ⟨rfl⟩
theorem k_eqC [EqC α] {x y : V} {a b : α} (hx : Rn K H x a) (hy : Rn K H y b) (hd : EqC.dpc α ≤ 64) (k : Q (.bl (EqC.eqc a b)) H) : rEqC K x y H Q :=
  ⟨_, _, hd, fun e I rx ry hu E Q' q => (EqC.cmp (A := _) I (by rw [e]; exact hx.r) (by rw [e]; exact hy.r) rx ry hu).1 E Q' q, k⟩
theorem k_eqL [EqA α] [DecidableEq α] [EqL α] {x y : V} {a b : α} (hx : Rn K H x a) (hy : Rn K H y b) (hd : EqA.dep α ≤ 64) (k : Q (.bl (decide (a = b))) H) : rEqC K x y H Q := k_eqC hx hy hd (by rw [show EqC.eqc a b = decide (a = b) from EqL.lw a b]; exact k)
end
end Cd

set_option Elab.async false
set_option linter.all false
set_option maxRecDepth 100000
set_option maxHeartbeats 4000000
namespace Cd
open PySem L2 PyProof.Rows
/-! ### a dict that is locked while it is walked -/
class AllND (G : List Rt) : Prop where
  nd : ∀ r ∈ G, NDS r.S
instance : AllND [] := ⟨fun _ h => nomatch h⟩
instance {α : Type} {S : Sh α} [h : NDS S] {v : V} {a : α} {G : List Rt} [t : AllND G] : AllND (⟨S, v, a⟩ :: G) := ⟨fun r hr => (List.mem_cons.mp hr).elim (fun e => e ▸ h) (t.nd r)⟩
section
variable {K : Fr} {Z0 H0 Z H Z' H' : Hp} {G : List Rt} {d : Addr} {kvs : List (Key × V)} {od : Obj}
theorem Sep.lock (h : Sep K Z0 H0 Z H G) [AllND G] (hd : Z d = some (.dK kvs)) (od : Obj) : Sep K (delL Z0 [d]) (delL H0 [d]) (upd Z d (.frz od (.dK kvs))) (upd H d (.frz od (.dK kvs))) G := by
  obtain ⟨c, f, h1, h2⟩ := h
  exact ⟨c.lock hd od, f, fun i r e => by
    haveI := AllND.nd r (List.mem_of_getElem? e)
    exact (h1 i r e).lock hd, h2⟩
theorem Sep.unlock (h : Sep K (delL Z0 [d]) (delL H0 [d]) Z' H' G) [AllND G] (c : Step Z0 H0 Z H) (hd : Z d = some (.dK kvs)) (hf : Z' d = some (.frz od (.dK kvs))) : Sep K Z0 H0 (upd Z' d (.dK kvs)) (upd H' d (.dK kvs)) G := by
  obtain ⟨c2, f, h1, h2⟩ := h
  exact ⟨Step.unlock c hd c2, f, fun i r e => by
    haveI := AllND.nd r (List.mem_of_getElem? e)
    exact (h1 i r e).unlock hf, h2⟩
end
/-- lent while a scalar is reckoned -/
structure BorS (Z H Zb : Hp) (ps : List Addr) : Prop where
  zz : Same Z Zb
  nz : ∀ q ∈ ps, Z q = none
  zb : ∀ q, q ∉ ps → Zb q = Z q
theorem Sep.bor0S {K : Fr} {Z0 H0 Z H : Hp} {G : List Rt} (h : Sep K Z0 H0 Z H G) : BorS Z H Z [] := ⟨Same.refl _, (fun _ h => nomatch h), fun _ _ => rfl⟩
theorem Sep.borS {K : Fr} {Z0 H0 Z H Zb : Hp} {G : List Rt} {ps : List Addr} {α : Type} [Py α] {S : Sh α} [Dat S] {v : V} {a : α} (h : Sep K Z0 H0 Zb H G) (b : BorS Z H Zb ps) (i : Nat) (e : G[i]? = some ⟨S, v, a⟩) : ∃ Zc qs, BorS Z H Zc qs ∧ Sep K Z0 H0 Zc H (G.set i ⟨Sh.told, v, a⟩) := by
  have c := h.st
  obtain ⟨qs, o, g⟩ := h.chg i e
  obtain ⟨Zc, c', s, r, hz⟩ := o.tell c
  refine ⟨Zc, qs ++ ps, ⟨b.zz.trans s, fun q hq => ?_, fun q hq => ?_⟩, g c' s (fun q u hq hu => ⟨hu, hz q hq⟩) (OwnO.ofR r) fun _ h => nomatch h⟩
  · rcases List.mem_append.mp hq with hq | hq
    · exact b.zz.free (o.nz q hq)
    · exact b.nz q hq
  · rw [List.mem_append, not_or] at hq
    rw [hz q hq.1, b.zb q hq.2]
theorem BorS.back {Z H Zb Z2 H2 : Hp} {ps : List Addr} (b : BorS Z H Zb ps) (zh : Same Z H) (st : Step Zb H Z2 H2) : Step Z H (delL Z2 ps) H2 := by
  refine ⟨st.hh, fun q u e => ?_, fun q u e => ?_, fun q u e => ?_⟩
  · unfold delL
    rw [if_neg (fun hm => by rw [b.nz q hm] at e; cases e)]
    exact st.zz _ _ (b.zz _ _ e)
  · unfold delL at e
    split at e
    · cases e
    · exact st.zh _ _ e
  · unfold delL
    by_cases hm : q ∈ ps
    · rw [if_pos hm, b.nz q hm]
    · rw [if_neg hm, st.fr q u e, b.zb q hm]
/-- what came new out of a lending -/
theorem Bor.own2 {α : Type} {S : Sh α} [ImmS S] {K : Fr} {Z H Z2 H2 Zb H' : Hp} {ps : List Addr} {v : V} {qs : List Addr} {a : α} (b : Bor K Z H Zb ps) (h : Same H H') (st : Step Zb H Z2 H2) (o : OwnO S K H' Z2 H2 v qs a) : OwnO S K H (delL Z2 ps) H2 v qs a :=
  ⟨ImmS.imm (b.im st) o.r, o.nd, fun q hq => by unfold delL; split; rfl; exact o.nz q hq, fun q hq => h.free (o.n0 q hq)⟩
theorem r_some {α : Type} [Py α] {K : Fr} {Z : Hp} {v : V} {a : α} (h : Py.R K Z v a) : Py.R K Z v (some a) := h
section
variable {Q : VK} {H : Hp} {p : Addr}
end
end Cd

set_option Elab.async false
set_option linter.all false
set_option maxRecDepth 100000
set_option maxHeartbeats 4000000
namespace Cd
open PySem L2
/-! ### the plain laws: what is reckoned, and what it is -/
def Yes {α : Type} (m : R α) (Q : α → Prop) : Prop := ∃ a, m = .ok a ∧ Q a
section
variable {α β γ S T : Type} {m : R α} {k : α → R β} {Q : α → Prop} {P : α → Prop} {V : β → Prop}
theorem Yes.ok {a : α} (h : Q a) : Yes (.ok a) Q := ⟨a, rfl, h⟩
theorem Yes.bind (h : Yes m P) (h2 : ∀ a, P a → Yes (k a) V) : Yes (m.bind k) V := by
  obtain ⟨a, rfl, p⟩ := h
  exact h2 a p
theorem Yes.bindE {a : α} (h : m = .ok a) (h2 : Yes (k a) V) : Yes (m.bind k) V := by rw [h]; exact h2
theorem Yes.imp (h : Yes m P) (h2 : ∀ a, P a → Q a) : Yes m Q := let ⟨a, e, p⟩ := h; ⟨a, e, h2 a p⟩
theorem Yes.chk {p : Prop} (hp : p) (h : Yes m Q) : Yes (Cd.chk p m) Q := by rw [chk_t hp]; exact h
theorem Yes.vl {a : α} (h : Yes (k a) V) : Yes (Cd.vl a k) V := h
theorem Yes.vli {a : α} (h : ∀ x, x = a → Yes (k x) V) : Yes (Cd.vl a k) V := h a rfl
theorem Yes.ite {c : Prop} [Decidable c] {n : R α} (h1 : c → Yes m Q) (h2 : ¬ c → Yes n Q) : Yes (if c then m else n) Q := by
  by_cases h : c
  · rw [if_pos h]; exact h1 h
  · rw [if_neg h]; exact h2 h
theorem Yes.iteT {c : Prop} [Decidable c] {n : R α} (h : c) (h1 : Yes m Q) : Yes (if c then m else n) Q := by rw [if_pos h]; exact h1
theorem Yes.iteF {c : Prop} [Decidable c] {n : R α} (h : ¬ c) (h1 : Yes n Q) : Yes (if c then m else n) Q := by rw [if_neg h]; exact h1
theorem Yes.opt {o : Option β} {n : R α} {f : β → R α} (h1 : o = none → Yes n Q) (h2 : ∀ b, o = some b → Yes (f b) Q) : Yes (optB o n f) Q := by
  cases o with
  | none => exact h1 rfl
  | some b => exact h2 b rfl
theorem Yes.eq (h : Yes m fun r => r = a) : m = .ok a := by obtain ⟨b, e, rfl⟩ := h; exact e
theorem Yes.of {a : α} (h : m = .ok a) (q : Q a) : Yes m Q := ⟨a, h, q⟩
theorem Yes.nx (h : Yes m Q) : Yes m.nx Q := by obtain ⟨a, rfl, q⟩ := h; exact ⟨a, rfl, q⟩
theorem Yes.and (h : Yes m P) (h2 : Yes m Q) : Yes m fun a => P a ∧ Q a := by
  obtain ⟨a, rfl, p⟩ := h
  obtain ⟨b, e, q⟩ := h2
  cases e
  exact ⟨a, rfl, p, q⟩
/-- a loop: I of what was walked -/
theorem Yes.forR {f : S → α → R S} {l : List α} {s : S} {W : S → Prop} (I : List α → S → Prop) (h0 : I [] s) (st : ∀ p x r, l = p ++ x :: r → ∀ s, I p s → Yes (f s x) (I (p ++ [x]))) (hw : ∀ s, I l s → W s) : Yes (Cd.forR f s l) W := by
  have key : ∀ (r p : List α) (s : S), l = p ++ r → I p s → Yes (Cd.forR f s r) (I l) := by
    intro r
    induction r with
    | nil => intro p s e h; rw [List.append_nil] at e; subst e; exact Yes.ok h
    | cons x r ih => intro p s e h; exact Yes.bind (st p x r e s h) fun s' h' => ih (p ++ [x]) s' (by rw [e]; simp) h'
  exact (key l [] s rfl h0).imp hw
/-- what a turn may come to -/
def Tn (N B : S → Prop) (V : T → Prop) : LR S T → Prop
  | .nxt s => N s
  | .brk s => B s
  | .ret v => V v
theorem Yes.forL {f : S → α → R (LR S T)} {l : List α} {s : S} {W : LR S T → Prop} (I : List α → S → Prop) (B : S → Prop) (V : T → Prop) (h0 : I [] s) (st : ∀ p x r, l = p ++ x :: r → ∀ s, I p s → Yes (f s x) (Tn (I (p ++ [x])) B V)) (hw : ∀ o, Tn (I l) B V o → W o) : Yes (Cd.forL f s l) W := by
  have key : ∀ (r p : List α) (s : S), l = p ++ r → I p s → Yes (Cd.forL f s r) (Tn (I l) B V) := by
    intro r
    induction r with
    | nil => intro p s e h; rw [List.append_nil] at e; subst e; exact Yes.ok h
    | cons x r ih =>
      intro p s e h
      refine Yes.bind (st p x r e s h) fun o ho => ?_
      cases o with
      | nxt s' => exact ih (p ++ [x]) s' (by rw [e]; simp) ho
      | brk s' => exact ⟨_, rfl, ho⟩
      | ret v => exact ⟨_, rfl, ho⟩
  exact (key l [] s rfl h0).imp hw
theorem Yes.go {N B : S → Prop} {W : T → Prop} {m : R (LR S T)} {k : S → R β} {k2 : T → R β} (h : Yes m (Tn N B W)) (h1 : ∀ s, N s → Yes (k s) V) (h2 : ∀ s, B s → Yes (k s) V) (h3 : ∀ v, W v → Yes (k2 v) V) : Yes (m.bind fun o => LR.go o k k2) V :=
  Yes.bind h fun o ho => match o, ho with
    | .nxt s, ho => h1 s ho
    | .brk s, ho => h2 s ho
    | .ret v, ho => h3 v ho
/-- a loop with returns (no breaks): I of what was walked, V of what is returned -/
theorem Yes.forLg {f : S → α → R (LR S T)} {l : List α} {s : S} {k : S → R β} {k2 : T → R β} (I : List α → S → Prop) (W : T → Prop) (h0 : I [] s) (st : ∀ p x r, l = p ++ x :: r → ∀ s, I p s → Yes (f s x) (Tn (I (p ++ [x])) (fun _ => False) W)) (h1 : ∀ s, I l s → Yes (k s) V) (h3 : ∀ v, W v → Yes (k2 v) V) : Yes ((Cd.forL f s l).bind fun o => LR.go o k k2) V :=
  Yes.go (Yes.forL I (fun _ => False) W h0 st fun _ h => h) h1 (fun _ h => h.elim) h3
theorem Yes.whR {c : S → R Bool} {f : S → R S} {s : S} {W : S → Prop} (I : S → Prop) (mu : S → Nat) (h0 : I s) (hc : ∀ s, I s → Yes (c s) fun b => if b = true then Yes (f s) (fun s' => I s' ∧ mu s' < mu s) else W s) {n : Nat} (hn : mu s < n) : Yes (Cd.whR c f n s) W := by
  induction n generalizing s with
  | zero => omega
  | succ n ih =>
    refine Yes.bind (hc s h0) fun b hb => ?_
    cases b with
    | false => exact ⟨_, rfl, hb⟩
    | true => exact Yes.bind (P := fun s' => I s' ∧ mu s' < mu s) hb fun s' h' => ih h'.1 (by omega)
theorem Yes.whL {c : S → R Bool} {f : S → R (LR S T)} {s : S} {W : LR S T → Prop} (I : S → Prop) (mu : S → Nat) (h0 : I s) (hc : ∀ s, I s → Yes (c s) fun b => if b = true then Yes (f s) (Tn (fun s' => I s' ∧ mu s' < mu s) (fun s' => W (.brk s')) (fun v => W (.ret v))) else W (.nxt s)) {n : Nat} (hn : mu s < n) : Yes (Cd.whL c f n s) W := by
  induction n generalizing s with
  | zero => omega
  | succ n ih =>
    refine Yes.bind (hc s h0) fun b hb => ?_
    cases b with
    | false => exact ⟨_, rfl, hb⟩
    | true =>
      refine Yes.bind (P := Tn (fun s' => I s' ∧ mu s' < mu s) (fun s' => W (.brk s')) (fun v => W (.ret v))) hb fun o ho => ?_
      cases o with
      | nxt s' => exact ih ho.1 (by have := ho.2; omega)
      | brk s' => exact ⟨_, rfl, ho⟩
      | ret v => exact ⟨_, rfl, ho⟩
theorem Yes.lcR {F : γ → R (Option β)} {l : List γ} {W : List β → Prop} (I : List γ → List β → Prop) (h0 : I [] []) (st : ∀ p x r, l = p ++ x :: r → ∀ s, I p s → Yes (F x) fun o => I (p ++ [x]) (s ++ o.toList)) (hw : ∀ s, I l s → W s) : Yes (Cd.lcR F l) W := by
  have key : ∀ (r p : List γ) (s : List β), l = p ++ r → I p s → Yes (Cd.lcR F r) fun t => I l (s ++ t) := by
    intro r
    induction r with
    | nil => intro p s e h; rw [List.append_nil] at e; subst e; exact ⟨[], rfl, by show I _ (s ++ []); rw [List.append_nil]; exact h⟩
    | cons x r ih =>
      intro p s e h
      refine Yes.bind (st p x r e s h) fun o ho => Yes.bind (ih (p ++ [x]) (s ++ o.toList) (by rw [e]; simp) ho) fun t ht => Yes.ok ?_
      show I l (s ++ (o.toList ++ t)); rw [← List.append_assoc]; exact ht
  exact (key l [] [] rfl h0).imp fun t ht => hw t ht
end
theorem mem_mid {α : Type} {l p r : List α} {x : α} (e : l = p ++ x :: r) : x ∈ l := by rw [e]; simp
theorem len_mid {α : Type} {l p r : List α} {x : α} (e : l = p ++ x :: r) : p.length < l.length := by rw [e]; simp
theorem b2 {b : Bool} (h : ¬ b = true) : b = false := by cases b <;> first | rfl | exact absurd rfl h
end Cd

set_option Elab.async false
set_option linter.all false
set_option maxRecDepth 100000
set_option maxHeartbeats 4000000
namespace Cd
open PySem L2
/-! ### cards, signs, columns, dealing (plain) -/
def KN : List Nat := [32, 48, 49, 50, 51, 52, 53, 54, 55, 56, 57, 65, 66, 67, 68, 69, 70, 71, 72, 73, 74, 75, 76, 77, 78, 79, 80, 81, 82, 83, 84, 85, 86, 87, 88, 89, 90]
def signOk (z : Str) : Prop := ∃ c ∈ KN, z = sg c
def textOk (z : Str) : Prop := ∀ c ∈ codes z, c ∈ KN
def cardOk (z : Str) : Prop := z.length = 40 ∧ textOk z
def markOk (z : Str) : Prop := z.length = 4 ∧ textOk z
def menuOk (z : Str) : Prop := (0 < z.length ∧ z.length ≤ 37) ∧ textOk z
def colsOk (l : List Int) : Prop := ∀ x ∈ l, 1 ≤ x ∧ x ≤ 40
def deckOk (l : List Str) : Prop := ∀ z ∈ l, cardOk z
def codeAt (c : Int) (z : Str) : Nat := (codes z).getD (c - 1).toNat 0
def buckets (c : Int) (l : List Str) : List (List Str) := KN.map (fun s => l.filter (fun z => decide (codeAt c z = s)))
def dealt (c : Int) (l : List Str) : List Str := (buckets c l).flatten
def dealtAll : List Int → List Str → List Str
  | [], l => l
  | c :: r, l => dealtAll r (dealt c l)
def keyOf (cols : List Int) (z : Str) : List Nat := cols.map (fun c => codeAt c z)
def stepOf (l : List Str) (p : TO Str Int Str) : List Str := if p.x1 = "deal" then dealt p.x2 l else l.filter (fun z => decide (chS z (p.x2 - 1) = p.x3.getD default))
def digL : Nat → Int → List Nat
  | 0, _ => []
  | w + 1, v => digL w (v / 10) ++ [48 + (v % 10).toNat]
theorem sz_le {n : Nat} (h : n ≤ 1000000) : n ≤ sizeLine := Nat.le_trans h (by decide)
theorem sz_lt {n : Nat} (h : n < 1000000) : n < sizeLine := Nat.lt_of_lt_of_le h (by decide)
theorem rangeL_mem {lo : Int} {n : Nat} {x : Int} (h : x ∈ rangeL lo n) : lo ≤ x ∧ x < lo + (n : Int) := by
  unfold rangeL at h
  obtain ⟨i, hi, rfl⟩ := List.mem_map.mp h
  have := List.mem_range.mp hi
  omega
/-! the signs -/
/-! dealing: the same cards, in the order of the column, else as they were -/
end Cd

set_option Elab.async false
set_option linter.all false
set_option maxRecDepth 100000
set_option maxHeartbeats 4000000
namespace Cd
open PySem L2 PyProof.Rows
/-! ### a thing of one's own goes into a list of one's own -/
theorem Sep.tyL {K : Fr} {Z0 H0 Z H : Hp} {G : List Rt} {β : Type} {T : ShL β} {p : Addr} {l : β} (h : Sep K Z0 H0 Z H G) (i : Nat) (e : G[i]? = some ⟨Sh.lst T, .ref p, l⟩) : tyV K "list" (.ref p) H := by
  obtain ⟨ps, o⟩ := h.nth i e
  obtain ⟨p', xs, qs, e1, _, h1, _⟩ := o.r
  cases e1
  exact .inl ⟨rfl, xs, SqL.of h1⟩
end Cd

set_option Elab.async false
set_option linter.all false
set_option maxRecDepth 100000
set_option maxHeartbeats 4000000
namespace Cd
open PySem L2
/-! ### boards (plain) -/
def wireOk (w : Int × Int) : Prop := (1 ≤ w.1 ∧ w.1 ≤ 40) ∧ 1 ≤ w.2 ∧ w.2 ≤ 36
def boardOk (l : List (Int × Int)) : Prop := ∀ w ∈ l, wireOk w
theorem nodup_bound : ∀ (n : Nat) (l : List Int), l.Nodup → (∀ x ∈ l, 1 ≤ x ∧ x ≤ (n : Int)) → l.length ≤ n
  | 0, l, _, h => by
    cases l with
    | nil => exact Nat.le_refl _
    | cons a r => have := h a List.mem_cons_self; omega
  | n + 1, l, hn, h => by
    by_cases hm : ((n + 1 : Nat) : Int) ∈ l
    · have h1 := nodup_bound n (l.erase ((n + 1 : Nat) : Int)) (hn.erase _) (fun x hx => by
        have h2 := h x (List.mem_of_mem_erase hx)
        have h3 : x ≠ ((n + 1 : Nat) : Int) := fun e => hn.not_mem_erase (e ▸ hx)
        omega)
      rw [List.length_erase_of_mem hm] at h1
      omega
    · have h1 := nodup_bound n l hn (fun x hx => by
        have h2 := h x hx
        have h3 : x ≠ ((n + 1 : Nat) : Int) := fun e => hm (e ▸ hx)
        omega)
      omega
theorem board36 {l : List (Int × Int)} (h : boardOk l) (hn : (l.map (·.2)).Nodup) : l.length ≤ 36 := by
  have := nodup_bound 36 (l.map (·.2)) hn (fun x hx => by
    obtain ⟨w, hw, rfl⟩ := List.mem_map.mp hx
    have := (h w hw).2
    exact ⟨this.1, this.2⟩)
  rwa [List.length_map] at this
theorem at_wire {l : List (Int × Int)} (hn : (l.map (·.2)).Nodup) {w : Int × Int} (hw : w ∈ l) : dAt (⟨l.map fun w => (w.2, w)⟩ : Dct Int (Int × Int)) w.2 = w := by
  unfold dAt
  dsimp only
  have key : ∀ l : List (Int × Int), (l.map (·.2)).Nodup → w ∈ l → dGet (l.map fun w => (w.2, w)) w.2 = some w := by
    intro l
    induction l with
    | nil => intro _ h; cases h
    | cons a r ih =>
      intro hn hw
      rw [List.map_cons, List.nodup_cons] at hn
      rw [List.map_cons]
      rcases List.mem_cons.mp hw with rfl | hw
      · exact dGet_pos (p := (w.2, w)) rfl
      · rw [dGet_neg (fun e => hn.1 (by
          have e2 : a.2 = w.2 := e
          rw [e2]
          exact List.mem_map_of_mem hw))]
        exact ih hn.2 hw
  rw [key l hn hw]
  rfl
def swp (w : Int × Int) : Int × Int := (w.2, w.1)
theorem swp_swp (l : List (Int × Int)) : (l.map swp).map swp = l := by
  rw [List.map_map]
  exact (List.map_congr_left fun w _ => rfl).trans (List.map_id l)
/-- the board as the law writes it -/
def due (l : List (Int × Int)) : List (Int × Int) := (sortP (l.map swp)).map swp
theorem due_perm (l : List (Int × Int)) : (due l).Perm l := by
  have := ((sortP_perm (l.map swp)).map swp)
  rwa [swp_swp] at this
theorem due_ok {l : List (Int × Int)} (h : boardOk l) : boardOk (due l) := fun w hw => h w ((due_perm l).mem_iff.mp hw)
theorem due_nd {l : List (Int × Int)} (h : (l.map (·.2)).Nodup) : ((due l).map (·.2)).Nodup := (((due_perm l).map (·.2)).nodup_iff).mpr h
/-- the wires of the kept keys, in order, are the sorted wires -/
theorem due_keys {l : List (Int × Int)} (hn : (l.map (·.2)).Nodup) : (sortI ((l.map fun w => (w.2, w)).map (·.1))).map (fun t => dAt (⟨l.map fun w => (w.2, w)⟩ : Dct Int (Int × Int)) t) = due l := by
  rw [List.map_map]
  show (sortI (l.map (·.2))).map _ = _
  generalize hf : (fun t => dAt (⟨l.map fun w => (w.2, w)⟩ : Dct Int (Int × Int)) t) = f
  have hfw : ∀ w ∈ l, f w.2 = w := fun w hw => by rw [← hf]; exact at_wire hn hw
  have hp : ((sortI (l.map (·.2))).map f).Perm l := by
    have h1 := (sortI_perm (l.map (·.2))).map f
    rw [List.map_map] at h1
    have h2 : l.map (f ∘ (·.2)) = l := (List.map_congr_left fun w hw => hfw w hw).trans (List.map_id l)
    rwa [h2] at h1
  have h3 : ((sortI (l.map (·.2))).map f).map swp = sortP (l.map swp) := by
    refine sorted_uniq ((hp.map swp).trans (sortP_perm _).symm) ?_ (sortP_srt _)
    rw [List.map_map, List.pairwise_map]
    refine List.Pairwise.imp_of_mem (fun {x y} hx hy hxy => ?_) (sortI_srt _)
    obtain ⟨w, hw, rfl⟩ := List.mem_map.mp (sortI_mem.mp hx)
    obtain ⟨w', hw', rfl⟩ := List.mem_map.mp (sortI_mem.mp hy)
    show leP (swp (f w.2)) (swp (f w'.2)) = true
    rw [hfw w hw, hfw w' hw']
    unfold leP swp
    dsimp only
    rw [decide_eq_true_eq]
    by_cases q : w.2 = w'.2
    · have e : w = w' := by rw [← hfw w hw, ← hfw w' hw', q]
      subst e
      omega
    · omega
  unfold due
  rw [← h3, swp_swp]
/-- sorted wires stay -/
theorem due_id {l : List (Int × Int)} (h : l.Pairwise fun a b => a.2 < b.2) : due l = l := by
  unfold due
  have : sortP (l.map swp) = l.map swp := by
    refine sorted_uniq (sortP_perm _) (sortP_srt _) ?_
    rw [List.pairwise_map]
    refine h.imp fun {a b} q => ?_
    unfold leP swp
    simp only [decide_eq_true_eq]
    omega
  rw [this, swp_swp]
/-! texts joined and split again -/
/-! numbers up to forty as texts -/
def NumOk (n : Nat) : Bool := let z := toStr (n : Int); decide (PySem.intText? z = some (n : Int)) && (decide (z.length ≤ 2) && (decide (1 ≤ z.length) && (((codes z).all fun c => decide (48 ≤ c) && decide (c ≤ 57)) && (!decide (chS z 0 = ("0" : Str))))))
structure Num (z : Str) (n : Int) : Prop where
  it : PySem.intText? z = some n
  l2 : z.length ≤ 2
  l1 : 1 ≤ z.length
  fg : ∀ c ∈ codes z, 48 ≤ c ∧ c ≤ 57
  n0 : ¬ chS z 0 = "0"
theorem Num.int {z : Str} {n : Int} (h : Num z n) : intS z = n := by unfold intS; rw [h.it]; rfl
/-- a run of wires -/
def ex (p : (Int × Int) × (Int × Int)) : List (Int × Int) := (rangeL 0 (p.2.1 - p.1.1 + 1).toNat).map fun k => (p.1.1 + k, p.1.2 + k)
structure RunOk (p : (Int × Int) × (Int × Int)) : Prop where
  a : wireOk p.1
  b : wireOk p.2
  le : p.1.1 ≤ p.2.1
  w : p.2.1 - p.1.1 = p.2.2 - p.1.2
def sideT (a b : Int) : Str := if a = b then toStr a else toStr a ++ "-" ++ toStr b
def pieceT (p : (Int × Int) × (Int × Int)) : Str := sideT p.1.1 p.2.1 ++ ">" ++ sideT p.1.2 p.2.2
/-- the runs of a board -/
def rStep (rs : List ((Int × Int) × (Int × Int))) (w : Int × Int) : List ((Int × Int) × (Int × Int)) := match rs.getLast? with
  | none => [(w, w)]
  | some p => if w = (p.2.1 + 1, p.2.2 + 1) then rs.dropLast ++ [(p.1, w)] else rs ++ [(w, w)]
def runs (l : List (Int × Int)) : List ((Int × Int) × (Int × Int)) := l.foldl rStep []
theorem due_srt {l : List (Int × Int)} (hn : (l.map (·.2)).Nodup) : (due l).Pairwise fun a b => a.2 < b.2 := by
  have h1 := due_nd hn
  rw [List.nodup_iff_pairwise_ne, List.pairwise_map] at h1
  have h2 : (due l).Pairwise fun a b => leP (swp a) (swp b) = true := by
    unfold due
    rw [List.pairwise_map]
    refine (sortP_srt _).imp fun {a b} h => ?_
    exact h
  refine (h1.and h2).imp fun {a b} h => ?_
  have h3 := h.2
  unfold leP swp at h3
  simp only [decide_eq_true_eq] at h3
  have := h.1
  omega
theorem srt_nd {l : List (Int × Int)} (h : l.Pairwise fun a b => a.2 < b.2) : (l.map (·.2)).Nodup := by
  rw [List.nodup_iff_pairwise_ne, List.pairwise_map]
  exact h.imp fun {a b} q => by omega
end Cd

set_option Elab.async false
set_option linter.all false
set_option maxRecDepth 100000
set_option maxHeartbeats 4000000
namespace Cd
open PySem L2 PyProof.Rows
/-! ### a list of two taken apart by a target -/
end Cd

set_option Elab.async false
set_option linter.all false
set_option maxRecDepth 100000
set_option maxHeartbeats 4000000
/-! ### several except clauses, with names or without, and else -/
namespace L2
open PySem PySem.Spec PyProof.Rows
/-- the reading of a clause that names the refusal, in slot i -/
def asT (i : Nat) (ts : Addr → Value → Option Addr → TS) : Addr → Value → Option Addr → TS := fun a cls d D σ H =>
  ts a cls d { nx := fun σ' H' => D.nx (σ'.set i none) H', rt := D.rt, bk := fun σ' H' => D.bk (σ'.set i none) H', ct := fun σ' H' => D.ct (σ'.set i none) H' } (σ.set i (some (.ref a))) H
/-- the clauses, one after the other, and their readings -/
inductive HdsN (X : Cx) : List ExceptHandler → List (Value × (Addr → Value → Option Addr → TS)) → Prop
  | nil : HdsN X [] []
  | cons {x : Str} {c : Value} {ts : Addr → Value → Option Addr → TS} {b₀ : Stmt} {suite : List Stmt} {np pos' : Pos} {hds : List ExceptHandler} {l : List (Value × (Addr → Value → Option Addr → TS))} (hc : Names X x c)
      (hsu : ∀ (a : Addr) (oe : Obj) (cls : Value) (d : Option Addr) (pn : List (Addr × Obj)), Zc cls d oe → (∃ vs, oe.data = .fields vs) → PSs (X.suite a ((a, oe) :: pn)) (b₀ :: suite) (ts a cls d)) (r : HdsN X hds l) :
      HdsN X (.ExceptHandler (some (.Name x np)) none (b₀ :: suite) pos' :: hds) ((c, ts) :: l)
  | named {x n : Str} {i : Nat} {c : Value} {ts : Addr → Value → Option Addr → TS} {b₀ : Stmt} {suite : List Stmt} {np pos' : Pos} {hds : List ExceptHandler} {l : List (Value × (Addr → Value → Option Addr → TS))} (hN : X.N.Nodup) (hi : X.N[i]? = some n) (hln : X.env.kindOf n = some .local) (hc : Names X x c)
      (hsu : ∀ (a : Addr) (oe : Obj) (cls : Value) (d : Option Addr) (pn : List (Addr × Obj)), Zc cls d oe → (∃ vs, oe.data = .fields vs) → PSs (X.suite a ((a, oe) :: pn)) (b₀ :: suite) (ts a cls d)) (r : HdsN X hds l) :
      HdsN X (.ExceptHandler (some (.Name x np)) (some n) (b₀ :: suite) pos' :: hds) ((c, asT i ts) :: l)
section
variable {X : Cx} {body : List Stmt} {h₀ : ExceptHandler} {hds : List ExceptHandler} {l : List (Value × (Addr → Value → Option Addr → TS))} {pos : Pos} {tb : WX → TS} {Wout : WX}
theorem ps_try_manyN {orelse : List Stmt} {u : TS} (ho : PSs X orelse u) (hs : X.stack = X.env :: X.outer) (hf : X.env.frame = some X.env.locals) (tk : Takes X Wout)
    (hb : ∀ (W : WX) (pn : List (Addr × Obj)) (xe : Value → Shared → Prop), Takes (X.tr pn xe) W → PassesOwn (model X.prog X.w) X.A X.env xe → PSs (X.tr pn xe) body (tb W))
    (hh : HdsN X (h₀ :: hds) l) : PS X (.Try body (h₀ :: hds) orelse [] pos) (fun D σ H => tb (wMany X.K Wout D l) { D with nx := u D } σ H) := by
  refine ⟨fun pins s σ H D I h => ?_⟩
  have ok := I.ok
  have hfr : X.A.frames = some (X.env :: X.outer) := by rw [ok.frames, hs]
  refine wpAny_Try_except ?_
  refine wpAny_mono ((hb (wMany X.K Wout D l) (X.pn ++ pins) (fun e s₁ => wpAny (model X.prog X.w) X.A (noteFrame e X.env) (fun _ s₂ => wpAny (model X.prog X.w) X.A (setFlight e none) (fun _ s₃ =>
    wpAny (model X.prog X.w) X.A (handleBy e X.env (h₀ :: hds)) (SP X pins D) X.xe s₃) X.xe s₂) X.xe s₁) (fun w s' xx => ?_) PassesOwn.looking).run [] s σ H { D with nx := u D } (I.toTry _) h) (fun f s1 hsp => ?_) (fun e s1 he => he)
  · obtain ⟨a, B, sI, pins', σ', H', cls, d, rfl, J', nb, up, sky, na, os, ag, w⟩ := xx
    have J : Inv X pins σ' H' sI := J'.ofTry ok
    have sky' : Sky B (X.env :: X.outer) a (Zc cls d) X.env.locals s'.heap := by rw [← hs]; exact sky
    show wpAny (model X.prog X.w) X.A (noteFrame (.ref a) X.env) _ _ _
    refine Sky.land Zc.steady hfr hf sky' fun h3 fl3 up3 => ?_
    have J3 : Inv X pins σ' H' { s' with heap := h3 } := J.landed nb fl3.1 (up.trans up3) os ag
    obtain ⟨oe3, vs3, he3, hz3, hd3⟩ := fl3.there
    have nfr : a ∉ frs (X.env :: X.outer) := fun hm => by
      obtain ⟨_, o', e', hnf⟩ := fl3.2.2.1.mem hm
      rw [he3] at e'; cases e'
      exact hnf _ hd3
    have nL : a ≠ X.env.locals := fun z => nfr (List.mem_filterMap.mpr ⟨X.env, List.mem_cons_self, by rw [hf, z]⟩)
    have nF : a ∉ X.fs := fun hm => by
      obtain ⟨e, he, q⟩ := List.mem_filterMap.mp hm
      exact nfr (List.mem_filterMap.mpr ⟨e, List.mem_cons_of_mem _ he, q⟩)
    have S3 := J3.suite he3 hd3 na nL nF
    have test : ∀ {x : Str} {np : Pos} {c : Value}, Names X x c → ∀ {Q : Value → Shared → Prop} {E : Value → Shared → Prop}, Q c { s' with heap := h3 } → wpAny (model X.prog X.w) (X.A.mark (some (.ref a))) (eval (.Name x np) X.env) Q E { s' with heap := h3 } := fun {x np c} hc {Q E} q => by
      obtain ⟨hg, hdbg, hm | ⟨hm, hv, hnn⟩⟩ := hc
      · exact ld_glob (X := X.suite a ((a, oe3) :: (X.pn ++ pins))) S3 hg hm q hdbg
      · exact ld_blt (X := X.suite a ((a, oe3) :: (X.pn ++ pins))) S3 hg hm hv q hnn hdbg
    have LT : PySem.W.Looks (model X.prog X.w) h3 (typeOf (.ref a)) cls := fun A Q E s k q => wpAny_typeOf_ref (k _ _ he3) (by rw [hz3.1]; exact q)
    have go : ∀ {hds' : List ExceptHandler} {l' : List (Value × (Addr → Value → Option Addr → TS))}, HdsN X hds' l' → wMany X.K Wout D l' cls d σ' H' →
        wpAny (model X.prog X.w) X.A (handleBy (.ref a) X.env hds') (SP X pins D) X.xe { s' with heap := h3 } := by
      intro hds' l' hk
      induction hk with
      | nil =>
        intro w
        refine wpAny_handleBy_nil ?_
        obtain ⟨k1, k2, k3, oe, vs, T, oT, ts', he, hz, hd, h1, hr⟩ := id fl3
        unfold PySem.passOn
        refine wpAny_bind (wpAny_field he hd h1 ?_)
        rw [if_neg (show ¬ ((Value.ref T == Value.none) = true) from by simp)]
        have fin : wpAny (model X.prog X.w) X.A (setFlight (.ref a) X.env.frame) (fun _ s4 => wpAny (model X.prog X.w) X.A (throw (.ref a) : Sem Flow) (SP X pins D) X.xe s4) X.xe { s' with heap := h3 } := by
          rw [hf]
          refine HandSPX.setFlight_upZ fl3 fun h4 hh4 up4 => wpAny_throw (tk _ _ ?_)
          exact ⟨a, B, sI, pins, σ', H', cls, d, rfl, J, nb, (up.trans up3).trans up4, .inr (.inr (by rw [hs]; exact hh4)), na, os, ag, w⟩
        first
          | exact wpAny_bind (wpAny_pure (wpAny_bind fin))
          | exact wpAny_bind fin
      | @cons x c ts b₀ suite np pos' hds2 l2 hc hsu r ih =>
        intro w
        obtain ⟨b, hb1, hyes, hno⟩ := w
        refine wpAny_handleBy_cons (codeAny_handlers_test ?_) (by intro q; cases q)
        refine test hc ((PySem.W.exm_one (M := model X.prog X.w) (J3.kIn) LT hb1).here ?_)
        cases b with
        | true =>
          refine codeAny_handlers_suite (HandSPX.lands_againZ fl3 fun h4 fl4 up4 => ?_)
          have J4 : Inv X pins σ' H' { s' with heap := h4 } := J.landed nb fl4.1 ((up.trans up3).trans up4) os ag
          obtain ⟨oe4, vs4, he4, hz4, hd4⟩ := fl4.there
          refine wpAny_mono ((hsu a oe4 cls d (X.pn ++ pins) hz4 ⟨_, hd4⟩).run [] _ _ H' _ (J4.suite he4 hd4 na nL nF) (hyes rfl a na)) (fun f s6 hsp => ?_) (fun _ _ z => False.elim z)
          cases f with
          | next => obtain ⟨σ6, H6, S6, q6⟩ := hsp; exact ⟨_, _, S6.unsuite ok, q6⟩
          | brk => obtain ⟨σ6, H6, S6, q6⟩ := hsp; exact ⟨_, _, S6.unsuite ok, q6⟩
          | cont => obtain ⟨σ6, H6, S6, q6⟩ := hsp; exact ⟨_, _, S6.unsuite ok, q6⟩
          | ret u => obtain ⟨v6, σ6, H6, S6, r6, q6⟩ := hsp; exact ⟨_, _, _, S6.unsuite ok, r6, q6⟩
        | false =>
          show wpAny _ X.A (handleBy (.ref a) X.env hds2) _ _ _
          exact ih (hno rfl)
      | @named x n i c ts b₀ suite np pos' hds2 l2 hN hi hln hc hsu r ih =>
        intro w
        obtain ⟨b, hb1, hyes, hno⟩ := w
        refine wpAny_handleBy_cons (codeAny_handlers_test ?_) (by intro q; cases q)
        refine test hc ((PySem.W.exm_one (M := model X.prog X.w) (J3.kIn) LT hb1).here ?_)
        cases b with
        | true =>
          refine codeAny_handlers_suite_as (HandSPX.lands_againZ fl3 fun h4 fl4 up4 => ?_)
          have J4 : Inv X pins σ' H' { s' with heap := h4 } := J.landed nb fl4.1 ((up.trans up3).trans up4) os ag
          obtain ⟨oe4, vs4, he4, hz4, hd4⟩ := fl4.there
          refine store_ok (X := X.suite a ((a, oe4) :: (X.pn ++ pins))) (v := .ref a) (J4.suite he4 hd4 na nL nF) hN hi (.inl hln) rfl (fun s5 S5 => ?_) (.inr hln)
          refine wpAny_mono ((hsu a oe4 cls d (X.pn ++ pins) hz4 ⟨_, hd4⟩).run [] s5 _ H' _ S5 (hyes rfl a na)) (fun f s6 hsp => ?_) (fun _ _ z => False.elim z)
          have end_ : ∀ {σ6 : St} {H6 : Hp} {Q : Shared → Prop}, Inv (X.suite a ((a, oe4) :: (X.pn ++ pins))) [] σ6 H6 s6 → (∀ s7, Inv X pins (σ6.set i none) H6 s7 → Q s7) →
              wpAny (model X.prog X.w) X.A (do bindName X.env n .none; unbindBehindTheSuite X.env n pos') (fun _ s7 => Q s7) X.xe s6 := fun {σ6 H6 Q} S6 hq => gone_ok (S6.unsuite ok) hN hi hln hq
          cases f with
          | next => obtain ⟨σ6, H6, S6, q6⟩ := hsp; exact end_ S6 fun s7 J7 => ⟨_, _, J7, q6⟩
          | brk => obtain ⟨σ6, H6, S6, q6⟩ := hsp; exact end_ S6 fun s7 J7 => ⟨_, _, J7, q6⟩
          | cont => obtain ⟨σ6, H6, S6, q6⟩ := hsp; exact end_ S6 fun s7 J7 => ⟨_, _, J7, q6⟩
          | ret u => obtain ⟨v6, σ6, H6, S6, r6, q6⟩ := hsp; exact end_ S6 fun s7 J7 => ⟨_, _, _, J7, r6, q6⟩
        | false =>
          show wpAny _ X.A (handleBy (.ref a) X.env hds2) _ _ _
          exact ih (hno rfl)
    exact go hh w
  · cases f with
    | next => obtain ⟨σ', H', J', q⟩ := hsp; exact ho.run pins s1 σ' H' D (J'.ofTry ok) q
    | brk => obtain ⟨σ', H', J', q⟩ := hsp; exact ⟨σ', H', J'.ofTry ok, q⟩
    | cont => obtain ⟨σ', H', J', q⟩ := hsp; exact ⟨σ', H', J'.ofTry ok, q⟩
    | ret u => obtain ⟨v, σ', H', J', r, q⟩ := hsp; exact ⟨v, σ', H', J'.ofTry ok, r, q⟩
end
end L2
namespace Cd
open PySem L2
/-! ### a try, as a mirror -/
/-- what is not caught goes on -/
def R.tr {α β : Type} (m : R α) (k : α → R β) (f : Er → R β) : R β := match m with
  | .ok a => k a
  | .ex e => f e
  | .bad => .bad
theorem Good.tr {α β : Type} {m : R α} {k : α → R β} {f : Er → R β} {V : β → Prop} {E : Er → Prop} (h : Good (m.tr k f) V E) : Good m (fun a => Good (k a) V E) (fun e => Good (f e) V E) := by
  cases m with
  | ok a => exact h
  | ex e => exact h
  | bad => exact h
end Cd

set_option Elab.async false
set_option linter.all false
set_option maxRecDepth 100000
set_option maxHeartbeats 4000000
namespace Cd
open PySem L2 PyProof.Rows
/-! ### objects: a husk and its attributes, each a thing by itself -/
/-- an instance of the class that the module's name nm names -/
def Sh.objK {β : Type} (nm : Str) (ns : List Str) (T : ShL β) : Sh β where
  R := fun K Z H v ps b => ∃ C, PySem.W.nsIn K mainGlobals nm = some (some (.ref C)) ∧ (Sh.ins C ns T).R K Z H v ps b
  keep := fun s h ⟨C, e, r⟩ => ⟨C, e, (Sh.ins C ns T).keep s h r⟩
  stands := fun ⟨C, _, r⟩ q hq => (Sh.ins C ns T).stands r q hq
/-- the object without its attributes' things: what it holds is the list of its attributes' values -/
def Sh.husk (nm : Str) (ns : List Str) : Sh (List V) where
  R := fun K Z H v ps vs => ∃ C p dx, PySem.W.nsIn K mainGlobals nm = some (some (.ref C)) ∧ v = .ref p ∧ ps = [p, dx] ∧ H p = some (.ins C dx (ns.zip vs)) ∧ H dx = some (.own p) ∧ vs.length = ns.length
  keep := fun s h ⟨C, p, dx, e0, e1, e2, h1, h2, hl⟩ => ⟨C, p, dx, e0, e1, e2, (h p (by rw [e2]; simp)).trans h1, (h dx (by rw [e2]; simp)).trans h2, hl⟩
  stands := fun ⟨C, p, dx, e0, e1, e2, h1, h2, hl⟩ q hq => by
    rw [e2] at hq
    rcases List.mem_cons.mp hq with rfl | hq
    · exact ⟨_, h1⟩
    · rw [List.mem_singleton] at hq; subst hq; exact ⟨_, h2⟩
/-- the attributes' things, at the values vs -/
def Sh.rowS {β : Type} (T : ShL β) (vs : List V) : Sh β where
  R := fun K Z H _ ps b => T.R K Z H vs ps b
  keep := fun s h r => T.keep s h r
  stands := fun r q hq => T.stands r q hq
section
variable {K : Fr} {Z0 H0 Z H : Hp} {G : List Rt} {α β γ : Type}
theorem Sep.split2 {S1 : Sh α} {S2 : Sh β} {S3 : Sh γ} {v1 v2 v3 : V} {a1 : α} {a2 : β} {a3 : γ} (h : Sep K Z0 H0 Z H (⟨S3, v3, a3⟩ :: G)) {f : Nat → List Addr} (hf : f = f)
    (c : ∀ rs, S3.R K Z H v3 rs a3 → ∃ ps qs, rs = ps ++ qs ∧ S1.R K Z H v1 ps a1 ∧ S2.R K Z H v2 qs a2) : Sep K Z0 H0 Z H (⟨S1, v1, a1⟩ :: ⟨S2, v2, a2⟩ :: G) := by
  obtain ⟨st, f, h1, h2⟩ := h
  have o : OwnO S3 K H0 Z H v3 (f 0) a3 := h1 0 _ rfl
  obtain ⟨ps, qs, e, r1, r2⟩ := c _ o.r
  obtain ⟨n1, n2, n3⟩ := List.nodup_append.mp (e ▸ o.nd)
  have i1 : ∀ q ∈ ps, q ∈ f 0 := fun q hq => by rw [e]; exact List.mem_append_left _ hq
  have i2 : ∀ q ∈ qs, q ∈ f 0 := fun q hq => by rw [e]; exact List.mem_append_right _ hq
  refine ⟨st, fun i => match i with | 0 => ps | 1 => qs | i + 2 => f (i + 1), fun i r er => ?_, fun i j r s ne er es => ?_⟩
  · match i with
    | 0 => simp only [List.getElem?_cons_zero, Option.some.injEq] at er; subst er; exact ⟨r1, n1, fun q hq => o.nz q (i1 q hq), fun q hq => o.n0 q (i1 q hq)⟩
    | 1 => simp only [List.getElem?_cons_succ, List.getElem?_cons_zero, Option.some.injEq] at er; subst er; exact ⟨r2, n2, fun q hq => o.nz q (i2 q hq), fun q hq => o.n0 q (i2 q hq)⟩
    | i + 2 => exact h1 (i + 1) r (by simpa using er)
  · have key : ∀ i r, G[i]? = some r → ∀ q ∈ f (i + 1), q ∉ f 0 := fun i r e => h2 (i + 1) 0 r _ (by omega) (by simpa using e) rfl
    match i, j with
    | 0, 0 => exact (ne rfl).elim
    | 0, 1 => exact fun q hq hq2 => n3 q hq q hq2 rfl
    | 1, 0 => exact fun q hq hq2 => n3 q hq2 q hq rfl
    | 1, 1 => exact (ne rfl).elim
    | 0, j + 2 => exact fun q hq hq2 => key j s (by simpa using es) q hq2 (i1 q hq)
    | 1, j + 2 => exact fun q hq hq2 => key j s (by simpa using es) q hq2 (i2 q hq)
    | i + 2, 0 => exact fun q hq hq2 => key i r (by simpa using er) q hq (i1 q hq2)
    | i + 2, 1 => exact fun q hq hq2 => key i r (by simpa using er) q hq (i2 q hq2)
    | i + 2, j + 2 => exact h2 (i + 1) (j + 1) r s (by omega) (by simpa using er) (by simpa using es)
theorem Sep.join2 {S1 : Sh α} {S2 : Sh β} {S3 : Sh γ} {v1 v2 v3 : V} {a1 : α} {a2 : β} {a3 : γ} (h : Sep K Z0 H0 Z H (⟨S1, v1, a1⟩ :: ⟨S2, v2, a2⟩ :: G))
    (c : ∀ ps qs, S1.R K Z H v1 ps a1 → S2.R K Z H v2 qs a2 → S3.R K Z H v3 (ps ++ qs) a3) : Sep K Z0 H0 Z H (⟨S3, v3, a3⟩ :: G) := by
  obtain ⟨st, f, h1, h2⟩ := h
  have o : OwnO S1 K H0 Z H v1 (f 0) a1 := h1 0 _ rfl
  have o2 : OwnO S2 K H0 Z H v2 (f 1) a2 := h1 1 _ rfl
  refine ⟨st, fun i => match i with | 0 => f 0 ++ f 1 | i + 1 => f (i + 2), fun i r er => ?_, fun i j r s ne er es => ?_⟩
  · match i with
    | 0 =>
      simp only [List.getElem?_cons_zero, Option.some.injEq] at er
      subst er
      exact ⟨c _ _ o.r o2.r, List.nodup_append.mpr ⟨o.nd, o2.nd, fun x hx y hy e => h2 0 1 _ _ (by decide) rfl rfl x hx (e ▸ hy)⟩, fun q hq => (List.mem_append.mp hq).elim (o.nz q) (o2.nz q), fun q hq => (List.mem_append.mp hq).elim (o.n0 q) (o2.n0 q)⟩
    | i + 1 => exact h1 (i + 2) r (by simpa using er)
  · have key : ∀ i r, G[i]? = some r → ∀ q ∈ f (i + 2), q ∉ f 0 ++ f 1 := fun i r e q hq hm => by
      rcases List.mem_append.mp hm with hm | hm
      · exact h2 (i + 2) 0 r _ (by omega) (by simpa using e) rfl q hq hm
      · exact h2 (i + 2) 1 r _ (by omega) (by simpa using e) rfl q hq hm
    match i, j with
    | 0, 0 => exact (ne rfl).elim
    | 0, j + 1 => exact fun q hq hq2 => key j s (by simpa using es) q hq2 hq
    | i + 1, 0 => exact fun q hq hq2 => key i r (by simpa using er) q hq hq2
    | i + 1, j + 1 => exact h2 (i + 2) (j + 2) r s (by omega) (by simpa using er) (by simpa using es)
/-- .. and closed -/
theorem Sep.clsObj {nm : Str} {ns : List Str} {T : ShL β} {f : α → β} {v : V} {vs : List V} {a : α} {b : β} (e : b = f a) (h : Sep K Z0 H0 Z H (⟨Sh.husk nm ns, v, vs⟩ :: ⟨Sh.rowS T vs, .non, b⟩ :: G)) : Sep K Z0 H0 Z H (⟨(Sh.objK nm ns T).via f, v, a⟩ :: G) := by
  subst e
  refine h.join2 fun ps qs r1 r2 => ?_
  obtain ⟨C, p, dx, e0, e1, e2, h1, h2, hl⟩ := r1
  exact ⟨C, e0, p, dx, vs, qs, e1, by rw [e2]; rfl, h1, h2, hl, r2⟩
theorem Sep.mknil (h : Sep K Z0 H0 Z H G) : Sep K Z0 H0 Z H (⟨Sh.rowS ShL.nil [], .non, ()⟩ :: G) :=
  h.pushO (ps := []) ⟨⟨rfl, rfl⟩, List.nodup_nil, (fun _ h => nomatch h), (fun _ h => nomatch h)⟩ fun _ _ _ _ _ _ _ h => nomatch h
theorem Sep.mkrow {S : Sh α} {T : ShL β} {v : V} {ws : List V} {a : α} {b : β} (h : Sep K Z0 H0 Z H (⟨S, v, a⟩ :: ⟨Sh.rowS T ws, .non, b⟩ :: G)) : Sep K Z0 H0 Z H (⟨Sh.rowS (ShL.cons S T) (v :: ws), .non, (a, b)⟩ :: G) :=
  h.join2 fun ps qs r1 r2 => ⟨v, ws, ps, qs, rfl, rfl, r1, r2⟩
theorem Sep.mkscal {α : Type} [Sc α] {a : α} (h : Sep K Z0 H0 Z H G) : Sep K Z0 H0 Z H (⟨Sh.told (α := α), Sc.emb a, a⟩ :: G) := h.tel rfl
end
end Cd

set_option Elab.async false
set_option linter.all false
set_option maxRecDepth 100000
set_option maxHeartbeats 4000000
namespace Cd
open PySem L2 PyProof.Rows
instance {β : Type} {nm : Str} {ns : List Str} {T : ShL β} : IsRef (Sh.objK nm ns T) := ⟨fun ⟨_, _, p, _, _, _, e, _⟩ => ⟨p, e⟩⟩
instance {nm : Str} {ns : List Str} : IsRef (Sh.husk nm ns) := ⟨fun ⟨_, p, _, _, e, _⟩ => ⟨p, e⟩⟩
theorem zip_none : ∀ {ns : List Str} {xs : List V} {m : Str}, m ∉ ns → (ns.zip xs).lookup m = none
  | [], _, _, _ => rfl
  | n :: r, [], _, _ => rfl
  | n :: r, x :: xs, m, h => by
    rw [List.zip_cons_cons, List.lookup_cons]
    have h1 : ¬ m = n := fun e => h (by rw [e]; exact List.mem_cons_self)
    rw [show (m == n) = false by simpa using h1]
    exact zip_none fun q => h (List.mem_cons_of_mem _ q)
section
variable {K : Fr} {Z0 H0 Z H : Hp} {G : List Rt} {α β : Type} {nm : Str} {ns : List Str} {p A : Addr} {vs : List V} {Q : VK}
theorem Sep.hus (h : Sep K Z0 H0 Z H G) (i : Nat) (e : G[i]? = some ⟨Sh.husk nm ns, .ref p, vs⟩) (nk : PySem.W.nsIn K mainGlobals nm = some (some (.ref A))) : ∃ dx, H p = some (.ins A dx (ns.zip vs)) ∧ H dx = some (.own p) ∧ vs.length = ns.length := by
  obtain ⟨ps, o⟩ := h.nth i e
  obtain ⟨C, p', dx, e0, e1, e2, h1, h2, hl⟩ := o.r
  cases e1
  rw [nk] at e0
  cases e0
  exact ⟨dx, h1, h2, hl⟩
theorem Sep.put0 {f : Str} {v : V} {ns' : List Str} {vs' : List V} {dx : Addr} (h : Sep K Z0 H0 Z H G) (i : Nat) (e : G[i]? = some ⟨Sh.husk nm ns, .ref p, vs⟩) (nk : PySem.W.nsIn K mainGlobals nm = some (some (.ref A))) (hd : H p = some (.ins A dx (ns.zip vs))) (e2 : putF f v (ns.zip vs) = ns'.zip vs') (hl : vs'.length = ns'.length) :
    Sep K Z0 H0 Z (upd H p (.ins A dx (putF f v (ns.zip vs)))) (G.set i ⟨Sh.husk nm ns', .ref p, vs'⟩) := by
  obtain ⟨ps, o, g⟩ := h.chg1 i e
  obtain ⟨⟨C, p', dx', e0, e1, e3, h1, h2, _⟩, nd, nz, n0⟩ := o
  cases e1
  rw [nk] at e0
  cases e0
  rw [hd] at h1
  injection h1 with h1
  injection h1 with _ i2 _
  subst i2
  have hp : p ∈ ps := by rw [e3]; simp
  have hne : dx ≠ p := fun q => by rw [q, hd] at h2; cases h2
  refine g p _ _ hp ⟨⟨A, p, dx, nk, rfl, e3, ?_, ?_, hl⟩, nd, nz, n0⟩
  · rw [upd_same, e2]
  · rw [upd_ne hne]; exact h2
/-- self.f = v -/
theorem Sep.put {f : Str} {v : V} {ns' : List Str} {vs' : List V} {P : Hp → Prop} (h : Sep K Z0 H0 Z H G) (i : Nat) (e : G[i]? = some ⟨Sh.husk nm ns, .ref p, vs⟩) (nk : PySem.W.nsIn K mainGlobals nm = some (some (.ref A))) (cl : Cls K A) (na : NoAttr K A f) (hn : (ns.zip vs).length < 1000) (e2 : putF f v (ns.zip vs) = ns'.zip vs') (hl : vs'.length = ns'.length)
    (k : ∀ H', Sep K Z0 H0 Z H' (G.set i ⟨Sh.husk nm ns', .ref p, vs'⟩) → P H') : ∃ a C dx fs, V.ref p = .ref a ∧ H a = some (.ins C dx fs) ∧ Cls K C ∧ NoAttr K C f ∧ fs.length < 1000 ∧ P (upd H a (.ins C dx (putF f v fs))) := by
  obtain ⟨dx, h1, _, _⟩ := h.hus i e nk
  exact ⟨p, A, dx, _, rfl, h1, cl, na, hn, k _ (h.put0 i e nk h1 e2 hl)⟩
/-! rows at the head -/
theorem Sep.swap {r s : Rt} (h : Sep K Z0 H0 Z H (r :: s :: G)) : Sep K Z0 H0 Z H (s :: r :: G) := by
  obtain ⟨c, f, h1, h2⟩ := h
  have ix : ∀ (i : Nat) (t : Rt), (s :: r :: G)[i]? = some t → (r :: s :: G)[match i with | 0 => 1 | 1 => 0 | i => i]? = some t := fun i t e => by
    match i with
    | 0 => exact e
    | 1 => exact e
    | i + 2 => exact e
  refine ⟨c, fun i => f (match i with | 0 => 1 | 1 => 0 | i => i), fun i t e => h1 _ t (ix i t e), fun i j t u ne e1 e2 => h2 _ _ t u ?_ (ix i t e1) (ix j u e2)⟩
  match i, j with
  | 0, 0 => exact (ne rfl).elim
  | 1, 1 => exact (ne rfl).elim
  | 0, 1 => decide
  | 1, 0 => decide
  | 0, j + 2 => show 1 ≠ j + 2; omega
  | 1, j + 2 => show 0 ≠ j + 2; omega
  | i + 2, 0 => show i + 2 ≠ 1; omega
  | i + 2, 1 => show i + 2 ≠ 0; omega
  | i + 2, j + 2 => exact ne
theorem Sep.mkr {S : Sh α} {T : ShL β} {v : V} {ws : List V} {a : α} {b : β} (h : Sep K Z0 H0 Z H (⟨Sh.rowS T ws, .non, b⟩ :: ⟨S, v, a⟩ :: G)) : Sep K Z0 H0 Z H (⟨Sh.rowS (ShL.cons S T) (v :: ws), .non, (a, b)⟩ :: G) := h.swap.mkrow
theorem Sep.mkrS {α : Type} [Sc α] (a : α) {T : ShL β} {ws : List V} {b : β} (h : Sep K Z0 H0 Z H (⟨Sh.rowS T ws, .non, b⟩ :: G)) : Sep K Z0 H0 Z H (⟨Sh.rowS (ShL.cons (Sh.told (α := α)) T) (Sc.emb a :: ws), .non, (a, b)⟩ :: G) := (h.mkscal (a := a)).mkrow
theorem Sep.clsO {T : ShL β} {f : α → β} {v : V} {vs : List V} {a : α} {b : β} (e : b = f a) (h : Sep K Z0 H0 Z H (⟨Sh.rowS T vs, .non, b⟩ :: ⟨Sh.husk nm ns, v, vs⟩ :: G)) : Sep K Z0 H0 Z H (⟨(Sh.objK nm ns T).via f, v, a⟩ :: G) := Sep.clsObj e h.swap
end
/-! ### new objects, methods -/
theorem Sep.newH {K : Fr} {Z H : Hp} {nm : Str} {C p dx : Addr} (zh : Same Z (delL H [p, dx])) (nk : PySem.W.nsIn K mainGlobals nm = some (some (.ref C))) (hp : H p = some (.ins C dx [])) (hd : H dx = some (.own p)) : Sep K Z (delL H [p, dx]) Z H [⟨Sh.husk nm [], .ref p, []⟩] := by
  have ne : dx ≠ p := fun e => by rw [e, hp] at hd; cases hd
  have st : Step Z (delL H [p, dx]) Z H := Step.lent (zh.trans delL_same)
  refine (Sep.base (K := K) st).pushO (ps := [p, dx]) ⟨⟨C, p, dx, nk, rfl, rfl, hp, hd, rfl⟩, ?_, fun q hq => zh.free (delL_in hq), fun q hq => delL_in hq⟩ fun _ _ _ _ e => by simp at e
  exact List.nodup_cons.mpr ⟨fun h => ne (List.mem_singleton.mp h).symm, by simp⟩
theorem new_zh {Z H : Hp} {x dx C : Addr} (zh : Same Z H) (nx : H x = none) (ndx : H dx = none) (ne : dx ≠ x) : Same Z (delL (upd (upd H dx (.own x)) x (.ins C dx [])) [x, dx]) := by rw [del_new nx ndx ne]; exact zh
theorem new_dx {H : Hp} {x dx C : Addr} (ne : dx ≠ x) : (upd (upd H dx (.own x)) x (.ins C dx [])) dx = some (.own x) := by rw [upd_ne ne, upd_same]
structure MetX (P : Program) (w : World) (K : PySem.W.Frag) (mg : Str → Option Value) (base : Heap) (CX : CXT) (k : Nat) (C : Addr) (m : Str) (ps : List Str) (sp : Sp) : Prop where
  ex : ∃ (f : Addr) (fd : FuncData), Cls K C ∧ Meth K C m f ∧ FnOk P w K mg base CX k f fd ps sp ∧ Binds K fd ps []
structure MakX (P : Program) (w : World) (K : PySem.W.Frag) (mg : Str → Option Value) (base : Heap) (CX : CXT) (k : Nat) (x : Str) (C : Addr) (ps : List Str) (sp : Sp) : Prop where
  ex : ∃ (f : Addr) (fd : FuncData), Mk K C f ∧ FnOk P w K mg base CX k f fd ps sp ∧ mg x = some (.ref C) ∧ Binds K fd ps []
section
variable {X : Cx} {CX : CXT} {k : Nat} {C : Addr} {x m : Str} {ps : List Str} {sp : Sp} {E : XK} {ta : TE} {t : TA} {o e : Expr} {es : List Expr} {p pos apos : Pos}
theorem pe_mtX0 {pl : Sem Bool} (c : MetX X.prog X.w X.K X.mg X.base CX k C m ps sp) (hr : Room k X.A) (hx : Passes CX X E) (he : PE X o ta)
    (ht : eval (.Call (.Attribute o m apos) [] [] pos) X.env = (do
      let ov ← eval o X.env
      standAt apos.atName
      let (f, first) ← holding [ov] (getMethod ov m pl)
      callWith pos f first (backTo pos (starEach [] X.env)) (backToKw pos (keywordEach [] X.env))) := by rfl) :
    PE X (.Call (.Attribute o m apos) [] [] pos) (tMeth C m sp [] E ta tNil) := by
  obtain ⟨f, fd, cl, hm, F, hb⟩ := c.ex
  exact pe_meth0 he cl hm F hr hb .nil hx ht
end
end Cd

set_option Elab.async false
set_option linter.all false
set_option maxRecDepth 100000
set_option maxHeartbeats 4000000
namespace Cd
open PySem L2 PyProof.Rows
/-! ### a thing lent to be changed; with it comes a new thing -/
end Cd

set_option Elab.async false
set_option linter.all false
set_option maxRecDepth 100000
set_option maxHeartbeats 4000000
namespace Cd
open PySem L2 PyProof.Rows
/-! ### objects as told data -/
class PyRow (β : Type) where
  R : Fr → Hp → List V → β → Prop
  mono : ∀ {K : Fr} {Z Z' : Hp} {vs : List V} {b : β}, Same Z Z' → R K Z vs b → R K Z' vs b
instance : PyRow Unit := ⟨fun _ _ vs _ => vs = [], fun _ h => h⟩
instance {α β : Type} [Py α] [PyRow β] : PyRow (α × β) := ⟨fun K Z vs c => ∃ v ws, vs = v :: ws ∧ Py.R K Z v c.1 ∧ PyRow.R K Z ws c.2, fun s ⟨v, ws, e, h1, h2⟩ => ⟨v, ws, e, Py.mono s h1, PyRow.mono s h2⟩⟩
def objR {β : Type} [PyRow β] (nm : Str) (ns : List Str) (K : Fr) (Z : Hp) (v : V) (b : β) : Prop :=
  ∃ C p dx vs, PySem.W.nsIn K mainGlobals nm = some (some (.ref C)) ∧ v = .ref p ∧ Z p = some (.ins C dx (ns.zip vs)) ∧ Z dx = some (.own p) ∧ vs.length = ns.length ∧ PyRow.R K Z vs b
def pyObj {α β : Type} [PyRow β] (nm : Str) (ns : List Str) (f : α → β) : Py α :=
  ⟨fun K Z v a => objR nm ns K Z v (f a), fun s ⟨C, p, dx, vs, e0, e1, h1, h2, hl, h3⟩ => ⟨C, p, dx, vs, e0, e1, s _ _ h1, s _ _ h2, hl, PyRow.mono s h3⟩⟩
class DatL {β : Type} [PyRow β] (T : ShL β) : Prop where
  dat : ∀ {K : Fr} {Z : Hp} {vs : List V} {ps : List Addr} {b : β}, T.R K Z Z vs ps b → PyRow.R K Z vs b
instance : DatL ShL.nil := ⟨fun h => h.1⟩
instance {α β : Type} [Py α] [PyRow β] {S : Sh α} {T : ShL β} [Dat S] [DatL T] : DatL (ShL.cons S T) := ⟨fun ⟨v, ws, qs, rs, e1, _, h1, h2⟩ => ⟨v, ws, e1, Dat.dat h1, DatL.dat h2⟩⟩
theorem dat_obj {α β : Type} [PyRow β] {nm : Str} {ns : List Str} {T : ShL β} [DatL T] {f : α → β} : @Dat α (pyObj nm ns f) ((Sh.objK nm ns T).via f) :=
  @Dat.mk α (pyObj nm ns f) _ fun ⟨C, eC, p, dx, xs, qs, e1, e2, h1, h2, hl, h3⟩ => ⟨C, p, dx, xs, eC, e1, h1, h2, hl, DatL.dat h3⟩
class MutL {β : Type} (T : ShL β) : Prop where
  mt : ∀ {K : Fr} {Z H : Hp} {vs : List V} {ps : List Addr} {b : β}, T.R K Z H vs ps b → ∀ q ∈ ps, ∃ u, H q = some u ∧ MutO u
instance : MutL ShL.nil := ⟨fun ⟨_, e⟩ q hq => by rw [e] at hq; cases hq⟩
instance {α β : Type} {S : Sh α} {T : ShL β} [MutS S] [MutL T] : MutL (ShL.cons S T) := ⟨fun ⟨v, ws, qs, rs, _, e2, h1, h2⟩ q hq => by
  rw [e2] at hq
  exact (List.mem_append.mp hq).elim (MutS.mt h1 q) (MutL.mt h2 q)⟩
theorem mut_obj {α β : Type} {nm : Str} {ns : List Str} {T : ShL β} [MutL T] {f : α → β} : MutS ((Sh.objK nm ns T).via f) := ⟨fun ⟨C, eC, p, dx, xs, qs, e1, e2, h1, h2, hl, h3⟩ q hq => by
  rw [e2] at hq
  rcases List.mem_cons.mp hq with rfl | hq
  · exact ⟨_, h1, trivial⟩
  · rcases List.mem_cons.mp hq with rfl | hq
    · exact ⟨_, h2, trivial⟩
    · exact MutL.mt h3 q hq⟩
instance {α : Type} {S : Sh α} [MutS S] : MutS (Sh.opt S) := ⟨fun {K Z H v ps a} r => by
  cases a with
  | none => intro q hq; rw [r.2] at hq; cases hq
  | some a => exact MutS.mt (S := S) r⟩
section
variable {K : Fr} {Z H : Hp} {β : Type} [PyRow β] {nm : Str} {ns : List Str} {v : V} {b : β} {A : Addr}
theorem objR.at (h : objR nm ns K Z v b) (zh : Same Z H) (nk : PySem.W.nsIn K mainGlobals nm = some (some (.ref A))) : ∃ p dx vs, v = .ref p ∧ H p = some (.ins A dx (ns.zip vs)) ∧ vs.length = ns.length ∧ PyRow.R K Z vs b := by
  obtain ⟨C, p, dx, vs, e0, e1, h1, h2, hl, h3⟩ := h
  rw [nk] at e0
  cases e0
  exact ⟨p, dx, vs, e1, zh _ _ h1, hl, h3⟩
end
/-- the method of an opened object looked up -/
theorem Sep.mthH {K : Fr} {Z0 H0 Z H : Hp} {G : List Rt} {nm m : Str} {ns : List Str} {p A : Addr} {vs : List V} {P : Prop} (h : Sep K Z0 H0 Z H G) (i : Nat) (e : G[i]? = some ⟨Sh.husk nm ns, .ref p, vs⟩) (nk : PySem.W.nsIn K mainGlobals nm = some (some (.ref A))) (hm : m ∉ ns) (k : P) : ∃ a dx fs, V.ref p = .ref a ∧ H a = some (.ins A dx fs) ∧ fs.lookup m = none ∧ P := by
  obtain ⟨dx, h1, _, _⟩ := h.hus i e nk
  exact ⟨p, dx, _, rfl, h1, zip_none hm, k⟩
end Cd

set_option Elab.async false
set_option linter.all false
set_option maxRecDepth 100000
set_option maxHeartbeats 4000000
namespace Cd
open PySem L2 PyProof.Rows
/-! ### a list of one's own things, of which one is taken out and put in again -/
/-- the things but the one at n -/
def allX {α : Type} (S : Sh α) (K : Fr) (Z H : Hp) : Nat → List V → List Addr → List α → Prop
  | 0, vs, ps, [] => vs = [] ∧ ps = []
  | _ + 1, vs, ps, [] => vs = [] ∧ ps = []
  | 0, vs, ps, _ :: r => ∃ v ws, vs = v :: ws ∧ allR S K Z H ws ps r
  | n + 1, vs, ps, a :: r => ∃ v ws qs rs, vs = v :: ws ∧ ps = qs ++ rs ∧ S.R K Z H v qs a ∧ allX S K Z H n ws rs r
section
variable {α : Type} {S : Sh α} {K : Fr} {Z Z' H H' : Hp}
theorem allX_keep : ∀ {n : Nat} {l : List α} {vs : List V} {ps : List Addr}, Same Z Z' → (∀ q ∈ ps, H' q = H q) → allX S K Z H n vs ps l → allX S K Z' H' n vs ps l
  | 0, [], _, _, _, _, h => h
  | _ + 1, [], _, _, _, _, h => h
  | 0, _ :: _, _, _, s, h, ⟨v, ws, e, r⟩ => ⟨v, ws, e, allR_keep s h r⟩
  | n + 1, a :: r, _, _, s, h, ⟨v, ws, qs, rs, e1, e2, h1, h2⟩ => ⟨v, ws, qs, rs, e1, e2, S.keep s (fun q hq => h q (by rw [e2]; exact List.mem_append_left _ hq)) h1, allX_keep s (fun q hq => h q (by rw [e2]; exact List.mem_append_right _ hq)) h2⟩
theorem allX_stands : ∀ {n : Nat} {l : List α} {vs : List V} {ps : List Addr}, allX S K Z H n vs ps l → ∀ q ∈ ps, ∃ u, H q = some u
  | 0, [], _, _, ⟨_, e⟩, q, hq => by rw [e] at hq; cases hq
  | _ + 1, [], _, _, ⟨_, e⟩, q, hq => by rw [e] at hq; cases hq
  | 0, _ :: _, _, _, ⟨v, ws, e, r⟩, q, hq => allR_stands r q hq
  | n + 1, a :: r, _, _, ⟨v, ws, qs, rs, e1, e2, h1, h2⟩, q, hq => by
    rw [e2] at hq
    exact (List.mem_append.mp hq).elim (S.stands h1 q) (allX_stands h2 q)
theorem allX_len : ∀ {n : Nat} {l : List α} {vs : List V} {ps : List Addr}, allX S K Z H n vs ps l → vs.length = l.length
  | 0, [], _, _, ⟨e, _⟩ => by rw [e]; rfl
  | _ + 1, [], _, _, ⟨e, _⟩ => by rw [e]; rfl
  | 0, _ :: _, _, _, ⟨v, ws, e, r⟩ => by rw [e, List.length_cons, List.length_cons, allR_len r]
  | n + 1, a :: r, _, _, ⟨v, ws, qs, rs, e1, e2, h1, h2⟩ => by rw [e1, List.length_cons, List.length_cons, allX_len h2]
/-- taken out -/
theorem allX_take : ∀ {n : Nat} {l : List α} {vs : List V} {ps : List Addr} (hn : n < l.length), allR S K Z H vs ps l → ∃ v qs rs, vs[n]? = some v ∧ ps.Perm (qs ++ rs) ∧ S.R K Z H v qs l[n] ∧ allX S K Z H n vs rs l
  | 0, a :: r, _, _, _, ⟨v, ws, qs, rs, e1, e2, h1, h2⟩ => ⟨v, qs, rs, by rw [e1]; rfl, by rw [e2], h1, v, ws, e1, h2⟩
  | n + 1, a :: r, _, _, hn, ⟨v, ws, qs, rs, e1, e2, h1, h2⟩ => by
    obtain ⟨v2, q2, r2, g1, g2, g3, g4⟩ := allX_take (n := n) (by simpa using hn) h2
    refine ⟨v2, q2, qs ++ r2, by rw [e1]; simpa using g1, ?_, g3, v, ws, qs, r2, e1, rfl, h1, g4⟩
    rw [e2]
    refine (List.Perm.append_left qs g2).trans ?_
    rw [← List.append_assoc, ← List.append_assoc]
    exact List.Perm.append_right r2 List.perm_append_comm
/-- put in again -/
theorem allX_give : ∀ {n : Nat} {l : List α} {vs : List V} {rs qs : List Addr} {v : V} {b : α} (hn : n < l.length), allX S K Z H n vs rs l → vs[n]? = some v → S.R K Z H v qs b → ∃ ps, ps.Perm (qs ++ rs) ∧ allR S K Z H vs ps (l.set n b)
  | 0, a :: r, _, rs, qs, v, b, _, ⟨w, ws, e, h⟩, hv, hb => by
    rw [e] at hv
    obtain rfl : w = v := by simpa using hv
    exact ⟨qs ++ rs, .refl _, w, ws, qs, rs, e, rfl, hb, h⟩
  | n + 1, a :: r, _, _, qs, v, b, hn, ⟨w, ws, q1, r1, e1, e2, h1, h2⟩, hv, hb => by
    rw [e1] at hv
    obtain ⟨p2, g1, g2⟩ := allX_give (n := n) (by simpa using hn) h2 (by simpa using hv) hb
    refine ⟨q1 ++ p2, ?_, w, ws, q1, p2, e1, rfl, h1, g2⟩
    rw [e2]
    refine (List.Perm.append_left q1 g1).trans ?_
    rw [← List.append_assoc, ← List.append_assoc]
    exact List.Perm.append_right r1 List.perm_append_comm
end
/-- a list whose values are xs -/
def Sh.lstV {α : Type} (xs : List V) (S : Sh α) : Sh (List α) where
  R := fun K Z H v ps l => ∃ p qs, v = .ref p ∧ ps = p :: qs ∧ H p = some (.lst xs) ∧ allR S K Z H xs qs l
  keep := fun s h ⟨p, qs, e1, e2, h1, h2⟩ => ⟨p, qs, e1, e2, (h p (by rw [e2]; exact List.mem_cons_self)).trans h1, allR_keep s (fun q hq => h q (by rw [e2]; exact List.mem_cons_of_mem _ hq)) h2⟩
  stands := fun ⟨p, qs, e1, e2, h1, h2⟩ q hq => by
    rw [e2] at hq
    rcases List.mem_cons.mp hq with rfl | hq
    · exact ⟨_, h1⟩
    · exact allR_stands h2 q hq
/-- .. the thing at n taken out -/
def Sh.lstH {α : Type} (xs : List V) (n : Nat) (S : Sh α) : Sh (List α) where
  R := fun K Z H v ps l => ∃ p qs, v = .ref p ∧ ps = p :: qs ∧ H p = some (.lst xs) ∧ allX S K Z H n xs qs l
  keep := fun s h ⟨p, qs, e1, e2, h1, h2⟩ => ⟨p, qs, e1, e2, (h p (by rw [e2]; exact List.mem_cons_self)).trans h1, allX_keep s (fun q hq => h q (by rw [e2]; exact List.mem_cons_of_mem _ hq)) h2⟩
  stands := fun ⟨p, qs, e1, e2, h1, h2⟩ q hq => by
    rw [e2] at hq
    rcases List.mem_cons.mp hq with rfl | hq
    · exact ⟨_, h1⟩
    · exact allX_stands h2 q hq
instance {α : Type} {xs : List V} {S : Sh α} : IsRef (Sh.lstV xs S) := ⟨fun ⟨p, _, e, _⟩ => ⟨p, e⟩⟩
instance {α : Type} {xs : List V} {n : Nat} {S : Sh α} : IsRef (Sh.lstH xs n S) := ⟨fun ⟨p, _, e, _⟩ => ⟨p, e⟩⟩
section
variable {K : Fr} {Z0 H0 Z H : Hp} {G : List Rt} {α β γ : Type}
theorem OwnO.perm {S : Sh α} {T : Sh β} {v w : V} {ps qs : List Addr} {a : α} {b : β} (o : OwnO S K H0 Z H v ps a) (r : T.R K Z H w qs b) (e : qs.Perm ps) : OwnO T K H0 Z H w qs b :=
  ⟨r, e.nodup_iff.mpr o.nd, fun q hq => o.nz q (e.mem_iff.mp hq), fun q hq => o.n0 q (e.mem_iff.mp hq)⟩
/-- the head's shape is another -/
theorem Sep.head {S : Sh α} {T : Sh β} {v w : V} {a : α} {b : β} (h : Sep K Z0 H0 Z H (⟨S, v, a⟩ :: G)) (c : ∀ rs, S.R K Z H v rs a → ∃ ts, ts.Perm rs ∧ T.R K Z H w ts b) : Sep K Z0 H0 Z H (⟨T, w, b⟩ :: G) := by
  obtain ⟨st, f, h1, h2⟩ := h
  have o : OwnO S K H0 Z H v (f 0) a := h1 0 _ rfl
  obtain ⟨ts, p, r⟩ := c _ o.r
  refine ⟨st, fun i => match i with | 0 => ts | i + 1 => f (i + 1), fun i r er => ?_, fun i j r s ne er es => ?_⟩
  · match i with
    | 0 => simp only [List.getElem?_cons_zero, Option.some.injEq] at er; subst er; exact o.perm (by assumption) p
    | i + 1 => exact h1 (i + 1) r (by simpa using er)
  · have key : ∀ i r, G[i]? = some r → ∀ q ∈ f (i + 1), q ∉ ts := fun i r e q hq hm => h2 (i + 1) 0 r _ (by omega) (by simpa using e) rfl q hq (p.mem_iff.mp hm)
    match i, j with
    | 0, 0 => exact (ne rfl).elim
    | 0, j + 1 => exact fun q hq hq2 => key j s (by simpa using es) q hq2 hq
    | i + 1, 0 => exact key i r (by simpa using er)
    | i + 1, j + 1 => exact h2 (i + 1) (j + 1) r s ne (by simpa using er) (by simpa using es)
/-- two shapes as one, for a while -/
def Sh.two {α β : Type} (S : Sh α) (T : Sh β) (v w : V) : Sh (α × β) where
  R := fun K Z H _ ps c => ∃ qs rs, ps = qs ++ rs ∧ S.R K Z H v qs c.1 ∧ T.R K Z H w rs c.2
  keep := fun s h ⟨qs, rs, e, h1, h2⟩ => ⟨qs, rs, e, S.keep s (fun q hq => h q (by rw [e]; exact List.mem_append_left _ hq)) h1, T.keep s (fun q hq => h q (by rw [e]; exact List.mem_append_right _ hq)) h2⟩
  stands := fun ⟨qs, rs, e, h1, h2⟩ q hq => by rw [e] at hq; exact (List.mem_append.mp hq).elim (S.stands h1 q) (T.stands h2 q)
theorem Sep.split2P {S1 : Sh α} {S2 : Sh β} {S3 : Sh γ} {v1 v2 v3 : V} {a1 : α} {a2 : β} {a3 : γ} (h : Sep K Z0 H0 Z H (⟨S3, v3, a3⟩ :: G))
    (c : ∀ rs, S3.R K Z H v3 rs a3 → ∃ ps qs, rs.Perm (ps ++ qs) ∧ S1.R K Z H v1 ps a1 ∧ S2.R K Z H v2 qs a2) : Sep K Z0 H0 Z H (⟨S1, v1, a1⟩ :: ⟨S2, v2, a2⟩ :: G) :=
  (h.head (T := Sh.two S1 S2 v1 v2) (w := .non) (b := (a1, a2)) fun rs r => by
    obtain ⟨ps, qs, e, r1, r2⟩ := c rs r
    exact ⟨ps ++ qs, e.symm, ps, qs, rfl, r1, r2⟩).split2 (f := fun _ => []) rfl fun rs ⟨ps, qs, e, r1, r2⟩ => ⟨ps, qs, e, r1, r2⟩
theorem Sep.join2P {S1 : Sh α} {S2 : Sh β} {S3 : Sh γ} {v1 v2 v3 : V} {a1 : α} {a2 : β} {a3 : γ} (h : Sep K Z0 H0 Z H (⟨S1, v1, a1⟩ :: ⟨S2, v2, a2⟩ :: G))
    (c : ∀ ps qs, S1.R K Z H v1 ps a1 → S2.R K Z H v2 qs a2 → ∃ rs, rs.Perm (ps ++ qs) ∧ S3.R K Z H v3 rs a3) : Sep K Z0 H0 Z H (⟨S3, v3, a3⟩ :: G) :=
  (h.join2 (S3 := Sh.two S1 S2 v1 v2) (v3 := .non) (a3 := (a1, a2)) fun ps qs r1 r2 => ⟨ps, qs, rfl, r1, r2⟩).head fun rs ⟨ps, qs, e, r1, r2⟩ => by
    obtain ⟨ts, p, r⟩ := c ps qs r1 r2
    exact ⟨ts, e ▸ p, r⟩
variable {S : Sh α} {v : V} {l : List α}
/-- the list's values -/
theorem Sep.vals (h : Sep K Z0 H0 Z H (⟨Sh.lst (ShL.all S), v, l⟩ :: G)) : ∃ xs, xs.length = l.length ∧ Sep K Z0 H0 Z H (⟨Sh.lstV xs S, v, l⟩ :: G) := by
  obtain ⟨ps, o⟩ := h.nth 0 rfl
  obtain ⟨p, xs, qs, e1, e2, h1, h2⟩ := o.r
  have e1 : v = .ref p := e1
  subst e1
  have h2 : allR S K Z H xs qs l := h2
  refine ⟨xs, allR_len h2, h.head fun rs r => ⟨rs, .refl _, ?_⟩⟩
  obtain ⟨p', xs', qs', e1', e2', h1', h2'⟩ := r
  cases e1'
  have h1 : H p = some (.lst xs) := h1
  have h1' : H p = some (.lst xs') := h1'
  rw [h1] at h1'
  cases h1'
  exact ⟨p, qs', rfl, e2', h1, h2'⟩
theorem Sep.unvals {xs : List V} (h : Sep K Z0 H0 Z H (⟨Sh.lstV xs S, v, l⟩ :: G)) : Sep K Z0 H0 Z H (⟨Sh.lst (ShL.all S), v, l⟩ :: G) :=
  h.head fun rs ⟨p, qs, e1, e2, h1, h2⟩ => ⟨rs, .refl _, p, xs, qs, e1, e2, h1, h2⟩
theorem Sep.take {xs : List V} {n : Nat} (hn : n < l.length) (h : Sep K Z0 H0 Z H (⟨Sh.lstV xs S, v, l⟩ :: G)) : ∃ x, xs[n]? = some x ∧ Sep K Z0 H0 Z H (⟨S, x, l[n]⟩ :: ⟨Sh.lstH xs n S, v, l⟩ :: G) := by
  obtain ⟨ps, o⟩ := h.nth 0 rfl
  obtain ⟨p, qs, e1, e2, h1, h2⟩ := o.r
  obtain ⟨x, q1, r1, g1, g2, g3, g4⟩ := allX_take hn h2
  refine ⟨x, g1, h.split2P fun rs r => ?_⟩
  obtain ⟨p', qs', e1', e2', h1', h2'⟩ := r
  obtain ⟨x', q1', r1', g1', g2', g3', g4'⟩ := allX_take hn h2'
  rw [g1] at g1'
  cases g1'
  refine ⟨q1', p' :: r1', ?_, g3', p', r1', e1', rfl, h1', g4'⟩
  rw [e2']
  exact (List.Perm.cons p' g2').trans (List.perm_middle.symm)
theorem Sep.give {xs : List V} {n : Nat} {x : V} {b : α} (hn : n < l.length) (hx : xs[n]? = some x) (h : Sep K Z0 H0 Z H (⟨S, x, b⟩ :: ⟨Sh.lstH xs n S, v, l⟩ :: G)) : Sep K Z0 H0 Z H (⟨Sh.lstV xs S, v, l.set n b⟩ :: G) :=
  h.join2P fun ps qs r1 ⟨p, q1, e1, e2, h1, h2⟩ => by
    obtain ⟨ts, g1, g2⟩ := allX_give hn h2 hx r1
    exact ⟨p :: ts, by rw [e2]; exact (List.Perm.cons p g1).trans List.perm_middle.symm, p, ts, e1, rfl, h1, g2⟩
theorem Sep.atV {xs : List V} {p : Addr} (h : Sep K Z0 H0 Z H G) (i : Nat) (e : G[i]? = some ⟨Sh.lstV xs S, .ref p, l⟩) : H p = some (.lst xs) ∧ xs.length = l.length := by
  obtain ⟨ps, o⟩ := h.nth i e
  obtain ⟨p', qs, e1, e2, h1, h2⟩ := o.r
  cases e1
  exact ⟨h1, allR_len h2⟩
theorem Sep.atH {xs : List V} {n : Nat} {p : Addr} (h : Sep K Z0 H0 Z H G) (i : Nat) (e : G[i]? = some ⟨Sh.lstH xs n S, .ref p, l⟩) : H p = some (.lst xs) ∧ xs.length = l.length := by
  obtain ⟨ps, o⟩ := h.nth i e
  obtain ⟨p', qs, e1, e2, h1, h2⟩ := o.r
  cases e1
  exact ⟨h1, allX_len h2⟩
end
end Cd

set_option Elab.async false
set_option linter.all false
set_option maxRecDepth 100000
set_option maxHeartbeats 4000000
namespace Cd
open PySem L2 PyProof.Rows
/-! ### a walk over one's own things that changes them: by the index -/
structure SrcG {γ : Type} (J : It) (Kp : Hp → Prop) (L : List γ) (Y : γ → V → Hp → Hp → Prop) : Prop where
  go : ∀ i a H, L[i]? = some a → Kp H → J.go i H
  yld : ∀ i a H x H', L[i]? = some a → Kp H → J.yld i H x H' → Y a x H H'
  stop : ∀ H, Kp H → J.stop L.length H
section
variable {K : Fr} {Z H : Hp}
theorem k_ixV {p : Addr} {xs : List V} {i : Int} {x : V} {Q : VK} (h : H p = some (.lst xs)) (e : atI xs i = some x) (k : Q x H) : rIxL K (.ref p) (.int i) H Q := ⟨p, xs, i, x, rfl, rfl, SqL.of h, e, k⟩
end
/-- the index as a number of places -/
def jx (n : Nat) (i : Int) : Nat := (ixN n i).getD 0
theorem jx_lt {n : Nat} {i : Int} (h : inR n i) : jx n i < n ∧ ixN n i = some (jx n i) := by
  obtain ⟨j, e, hl⟩ := ixN_some h
  unfold jx
  rw [e]
  exact ⟨hl, rfl⟩
theorem getI_jx {α : Type} [Inhabited α] {l : List α} {i : Int} (h : inR l.length i) : getI l i = l[jx l.length i]'(jx_lt h).1 := by
  have e := atI_get h
  unfold atI at e
  rw [(jx_lt h).2] at e
  have e2 : l[jx l.length i]? = some (getI l i) := e
  rw [List.getElem?_eq_getElem (jx_lt h).1] at e2
  exact (Option.some.inj e2).symm
theorem setI_jx {α : Type} {l : List α} {i : Int} {a : α} (h : inR l.length i) : setI l i a = l.set (jx l.length i) a := by
  unfold setI
  rw [(jx_lt h).2]
section
variable {K : Fr} {Z0 H0 Z H : Hp} {G : List Rt} {α : Type} [Inhabited α] {S : Sh α} {v x : V} {l : List α} {xs : List V} {i : Int}
theorem Sep.takeI (hi : inR l.length i) (h : Sep K Z0 H0 Z H (⟨Sh.lstV xs S, v, l⟩ :: G)) : ∃ x, atI xs i = some x ∧ Sep K Z0 H0 Z H (⟨S, x, getI l i⟩ :: ⟨Sh.lstH xs (jx l.length i) S, v, l⟩ :: G) := by
  obtain ⟨ps, o⟩ := h.nth 0 rfl
  obtain ⟨p, qs, e1, e2, h1, h2⟩ := o.r
  have hl := allR_len h2
  obtain ⟨x, hx, h3⟩ := h.take (jx_lt hi).1
  refine ⟨x, ?_, by rw [getI_jx hi]; exact h3⟩
  unfold atI
  rw [hl, (jx_lt hi).2]
  exact hx
theorem Sep.giveI {b : α} (hi : inR l.length i) (hx : atI xs i = some x) (h : Sep K Z0 H0 Z H (⟨S, x, b⟩ :: ⟨Sh.lstH xs (jx l.length i) S, v, l⟩ :: G)) : Sep K Z0 H0 Z H (⟨Sh.lstV xs S, v, setI l i b⟩ :: G) := by
  obtain ⟨ps, o⟩ := h.drop.nth 0 rfl
  obtain ⟨p, qs, e1, e2, h1, h2⟩ := o.r
  have hl := allX_len h2
  rw [setI_jx hi]
  refine h.give (jx_lt hi).1 ?_
  unfold atI at hx
  rw [hl, (jx_lt hi).2] at hx
  exact hx
end
end Cd

set_option Elab.async false
set_option linter.all false
set_option maxRecDepth 100000
set_option maxHeartbeats 4000000
namespace Cd
open PySem L2 PyProof.Rows
/-! ### enumerate(list, start=k) -/
section
variable {X : Cx} {elts : List Expr} {kk : Nat} {tpos : Pos}
def iEnumK (K : Fr) (ta tk : TA) : TI := fun σ H R => ta σ H fun vs H1 => tk σ H1 fun zs H2 => ∃ a k xs, vs = [V.ref a] ∧ zs = [V.int k] ∧ -(2 ^ 63) ≤ k ∧ k < 2 ^ 63 ∧ SqL K H2 a xs ∧
  R (Iteg k (fun H n => ∃ xs, SqL K H a xs ∧ xs.length = n) (fun i H v => ∀ xs, SqL K H a xs → xs[i]? = some v)) H2
end
theorem new_fitP {α : Type} {S : Sh α} {K : Fr} {Z H : Hp} {x dx C : Addr} {r : α} {P : Hp → Prop} (nx : H x = none) (ndx : H dx = none) (ne : dx ≠ x) (k : ∀ ps' Z' H', Step Z H Z' H' → OwnO S K H Z' H' (.ref x) ps' r → P H') :
    ∀ (Z' H' : Hp) (ps' : List Addr), Step Z (delL (upd (upd H dx (.own x)) x (.ins C dx [])) [x, dx]) Z' H' → OwnO S K (delL (upd (upd H dx (.own x)) x (.ins C dx [])) [x, dx]) Z' H' (.ref x) ps' r → (V.non = V.non ∧ P H') := by
  rw [del_new nx ndx ne]
  exact fun Z' H' ps' st o => ⟨rfl, k ps' Z' H' st o⟩
class ImmL {β : Type} (T : ShL β) : Prop where
  imm : ∀ {K : Fr} {Z Z' H : Hp} {vs : List V} {ps : List Addr} {b : β}, (∀ b u, Z b = some u → ¬ MutO u → Z' b = some u) → T.R K Z H vs ps b → T.R K Z' H vs ps b
instance : ImmL ShL.nil := ⟨fun _ h => h⟩
instance {α β : Type} {S : Sh α} {T : ShL β} [ImmS S] [ImmL T] : ImmL (ShL.cons S T) := ⟨fun s ⟨v, ws, qs, rs, e1, e2, h1, h2⟩ => ⟨v, ws, qs, rs, e1, e2, ImmS.imm s h1, ImmL.imm s h2⟩⟩
theorem imm_obj {α β : Type} {nm : Str} {ns : List Str} {T : ShL β} [ImmL T] {f : α → β} : ImmS ((Sh.objK nm ns T).via f) := ⟨fun s ⟨C, eC, p, dx, xs, qs, e1, e2, h1, h2, hl, h3⟩ => ⟨C, eC, p, dx, xs, qs, e1, e2, h1, h2, hl, ImmL.imm s h3⟩⟩
end Cd

set_option Elab.async false
set_option linter.all false
set_option maxRecDepth 100000
set_option maxHeartbeats 4000000
namespace Cd
open PySem L2
/-! ### fields, numbers, lines of a counter: plain -/
/-! the figures of a number, k of them -/
def dg : Nat → Nat → List Nat
  | 0, _ => []
  | k + 1, n => dg k (n / 10) ++ [48 + n % 10]
def fieldOk (f : Int × Int) : Prop := 1 ≤ f.1 ∧ f.1 ≤ f.2 ∧ f.2 ≤ 36
def fieldsOk (l : List (Int × Int)) : Prop := ∀ f ∈ l, fieldOk f
def partT (z : Str) (f : Int × Int) : Str := cutS z (some (f.1 - 1)) (some f.2)
def digV (c : Nat) : Int := if 48 ≤ c ∧ c ≤ 57 then ((c - 48 : Nat) : Int) else 0
def valN (l : List Nat) : Int := l.foldl (fun t c => 10 * t + digV c) 0
def numT (z : Str) (f : Int × Int) : Int := valN (codes (partT z f))
/-! the card laid by a board -/
def boardD (z : Str) (bd : List (Int × Int)) : List (Int × Str) := bd.foldl (fun d w => dPut d w.2 (chS z (w.1 - 1))) []
def sAt (z : Str) (bd : List (Int × Int)) (c : Int) : Str := (dGet (boardD z bd) c).getD " "
def layT (z : Str) (bd : List (Int × Int)) : Str := Txt.join "" ((rangeL 1 36).map (sAt z bd))
/-! ### rows of wheels, by their totals -/
def pw (F : Int) : Int := 10 ^ F.toNat
def stepW (full : Int) (s : List Int × List (Int × Bool)) (q : Int × Int) : List Int × List (Int × Bool) :=
  (setI s.1 q.1 ((getI s.1 q.1 + q.2) % full), if full ≤ getI s.1 q.1 + q.2 then dPut s.2 q.1 true else s.2)
def raiseW (full : Int) (row : List Int) (vals : List Int) (ev : List (Int × Bool)) : List Int × List (Int × Bool) := ((rangeL 0 row.length).zip vals).foldl (stepW full) (row, ev)
/-- the list of those run over: which they may be -/
def EvOk (n : Nat) (ev : List (Int × Bool)) : Prop := (ev.map (·.1)).Nodup ∧ ∀ x ∈ ev, 0 ≤ x.1 ∧ x.1 < (n : Int) ∧ x.2 = true
theorem EvOk.len {n : Nat} {ev : List (Int × Bool)} (h : EvOk n ev) : ev.length ≤ n := by
  have e : (ev.map (·.1)).length ≤ n := by
    have := nodup_bound n ((ev.map (·.1)).map (· + 1)) (by
      rw [List.nodup_iff_pairwise_ne, List.pairwise_map]
      exact (List.nodup_iff_pairwise_ne.mp h.1).imp fun q z => q (by omega)) (fun x hx => by
      obtain ⟨y, hy, rfl⟩ := List.mem_map.mp hx
      obtain ⟨z, hz, rfl⟩ := List.mem_map.mp hy
      have := h.2 z hz
      omega)
    rwa [List.length_map] at this
  rwa [List.length_map] at e
theorem EvOk.nil (n : Nat) : EvOk n [] := ⟨List.nodup_nil, fun x h => nomatch h⟩
theorem EvOk.put {n : Nat} {ev : List (Int × Bool)} {k : Int} (h : EvOk n ev) (hk : 0 ≤ k ∧ k < (n : Int)) : EvOk n (dPut ev k true) := by
  refine ⟨dPut_nodup h.1, fun x hx => ?_⟩
  unfold dPut at hx
  split at hx
  · obtain ⟨y, hy, rfl⟩ := List.mem_map.mp hx
    have := h.2 y hy
    show 0 ≤ (if y.1 = k then (y.1, true) else y).1 ∧ (if y.1 = k then (y.1, true) else y).1 < (n : Int) ∧ (if y.1 = k then (y.1, true) else y).2 = true
    split
    · exact ⟨this.1, this.2.1, rfl⟩
    · exact this
  · rcases List.mem_append.mp hx with hx | hx
    · exact h.2 x hx
    · rw [List.mem_singleton] at hx; subst hx; exact ⟨hk.1, hk.2, rfl⟩
/-! what a raise comes to, place by place -/
def addM (full : Int) (row vals : List Int) : List Int := List.zipWith (fun t v => (t + v) % full) row vals
/-! ### a counter, plainly -/
structure CS where
  rows : List (List Int)
  ever : List (Int × Bool)
  last : Option Str
def CS.row (s : CS) (k : Int) : List Int := getI s.rows k
def raiseS (full : Int) (k : Int) (vals : List Int) (s : CS) : CS := ⟨setI s.rows k (raiseW full (s.row k) vals s.ever).1, (raiseW full (s.row k) vals s.ever).2, s.last⟩
def lineS (bs : List (Int × Int)) (F : Int) (k : Int) (s : CS) : Str :=
  Txt.join " " ([Txt.mul "*" ((bs.length : Int) + 1 - k)] ++ (cutL bs none (some k)).map (partT (s.last.getD default)) ++ (s.row k).map fun t => Txt.zfill (toStr t) F)
def zeroS (k : Int) (s : CS) : CS := ⟨setI s.rows k (List.replicate (s.row k).length 0), s.ever, s.last⟩
def closeS (full : Int) (k : Int) (s : CS) : CS := zeroS k (if 0 < k then raiseS full (k - 1) (s.row k) s else s)
def totS (bs : List (Int × Int)) (F : Int) (ks : List Int) (s : List Str × CS) : List Str × CS := ks.foldl (fun s k => (s.1 ++ [lineS bs F k s.2], closeS (pw F) k s.2)) s
def downL (n : Int) (o : Int) : List Int := rangeC n (-(1 : Int)) (n - (o - 1)).toNat
def brokenS (bs : List (Int × Int)) (z w : Str) : Int := match (enumL 1 bs).find? fun q => !decide (partT z q.2 = partT w q.2) with
  | some q => q.1
  | none => (bs.length : Int) + 1
def lineC (z : Str) (bd : List (Int × Int)) : Str := (cutS z (some 36) none ++ " ") ++ layT z bd
def headS (bs : List (Int × Int)) (F : Int) (s : CS) (z : Str) : List Str × CS := match s.last with
  | none => ([], s)
  | some l => totS bs F (downL (bs.length : Int) (brokenS bs z l)) ([], s)
def feedS (bs ss : List (Int × Int)) (F : Int) (bd : List (Int × Int)) (s : CS) (z : Str) : List Str × CS :=
  let t := headS bs F s z
  let u := raiseS (pw F) (bs.length : Int) (ss.map (numT z)) t.2
  (t.1 ++ [lineC z bd], ⟨u.rows, u.ever, some z⟩)
def finS (bs : List (Int × Int)) (F : Int) (s : CS) : List Str × CS := match s.last with
  | none => ([lineS bs F 0 s], closeS (pw F) 0 s)
  | some _ => totS bs F (downL (bs.length : Int) 0) ([], s)
/-- what a counter may be -/
structure CSOk (bs : List (Int × Int)) (n : Nat) (F : Int) (s : CS) : Prop where
  ln : s.rows.length = bs.length + 1
  rw : ∀ r ∈ s.rows, r.length = n ∧ ∀ t ∈ r, 0 ≤ t ∧ t < pw F
  ev : EvOk n s.ever
  lz : ∀ z, s.last = some z → z.length = 40
def start (bs ss : List (Int × Int)) : CS := ⟨List.replicate (bs.length + 1) (List.replicate ss.length 0), [], none⟩
end Cd

set_option Elab.async false
set_option linter.all false
set_option maxRecDepth 100000
set_option maxHeartbeats 4000000
/-! ### refusals that bear something; what is inherited from a class -/
namespace L2
open PySem PySem.Spec PyProof.Rows PySem.HandSPX
def oexB (K : PySem.W.Frag) (C : Addr) : Bool := match K.lookup C with
  | some ⟨.type "type", _, .cls cd, sl⟩ => (match cd.mro, sl.toList with
    | .ref C' :: bm, [_, _, _, _, some (.builtin n), _] => C' == C && n == "ValueError.__new__" && !cd.hasDel && cd.hasDict && refsVE bm
    | _, _ => false)
  | _ => false
theorem oexB_ok {K : PySem.W.Frag} {C : Addr} (q : oexB K C = true) : ∃ nm q N bs bm sn sub ab col dd k0 k1 k2 k3 k5, K.lookup C = some (excClassObj nm q C N bs bm true sn sub ab col dd k0 k1 k2 k3 k5 "ValueError.__new__") ∧ PySem.HandSPX.refsVE bm = true := by
  unfold oexB at q
  split at q
  · rename_i dd cd sl ho
    split at q
    · rename_i C' bm k0 k1 k2 k3 n k5 hm hs
      simp only [Bool.and_eq_true, beq_iff_eq, Bool.not_eq_true'] at q
      obtain ⟨⟨⟨⟨rfl, rfl⟩, hdel⟩, hdct⟩, ht⟩ := q
      obtain ⟨nm, bs, mro, ns, qn, hd, sn, sub, ab, col, del⟩ := cd
      dsimp only at hm hdel hdct
      subst hm hdel hdct
      have hsl : sl = #[k0, k1, k2, k3, some (.builtin "ValueError.__new__"), k5] := by
        obtain ⟨l⟩ := sl
        simp only at hs
        rw [hs]
      subst hsl
      exact ⟨nm, qn, ns, bs, bm, sn, sub, ab, col, dd, k0, k1, k2, k3, k5, ho, ht⟩
    · cases q
  · cases q
/-- a class whose attributes are read plainly -/
structure CRd (K : PySem.W.Frag) (A : Addr) : Prop where
  rd : PySem.W.readsIn K A (.type "type") = true
  ga : PySem.W.specialIn K (.ref A) "__getattribute__" = some (some (.builtin "type.__getattribute__"))
section
variable {X : Cx} {o e : Expr} {es : List Expr} {to te : TE} {ta : TA} {f x : Str} {A : Addr} {p p' p1 p2 pos : Pos}
theorem pe_cinit {pl : Sem Bool} (hg : Gl X x) (hm : X.mg x = some (.ref A)) (r : CRd X.K A) (at_ : PySem.W.findCls X.K (.ref A) (.type "type") "__init__" = some (.val (.builtin "ValueError.__init__"))) (ha : PA X (e :: es) ta) (hdb : (x == ("__debug__" : Str)) = false := by decide)
    (hc : eval (.Call (.Attribute (.Name x p1) "__init__" p2) (e :: es) [] pos) X.env = (do
      let ov ← eval (.Name x p1) X.env
      standAt p2.atName
      let (f, first) ← holding [ov] (getMethod ov "__init__" pl)
      callWith pos f first (backTo pos (starEach (e :: es) X.env)) (backToKw pos (keywordEach [] X.env))) := by rfl)
    (he : starEach (e :: es) X.env = (false, eval e X.env) :: starEach es X.env := by rfl) (hpl : (backTo pos (starEach es X.env)).any (·.1) = false := by rfl) :
    PE X (.Call (.Attribute (.Name x p1) "__init__" p2) (e :: es) [] pos) (tVeI X.K ta) := by
  refine ⟨fun pins s σ H Q I h => ?_⟩
  refine PySem.W.methodCall_KW (ld_glob I hg hm ?_ hdb) hc
  refine PySem.W.method_cls I.kIn r.ga (PySem.W.cls_value I.kIn r.rd at_ (by decide +kernel) ?_)
  show wpAny _ _ (callWith _ (Value.builtin "ValueError.__init__") [] (backTo pos (starEach (e :: es) X.env)) []) _ _ _
  refine PyProof.Rows.callWith_method1 (thn (ha.run pos pins _ σ H _ (I.tok _) h) fun us s1 ⟨vs, H1, I1, r1, a, C, ws, ev, hl, T, ea, q⟩ => ?_) he hpl
  subst ev
  cases r1 with
  | @cons _ u0 _ ur ra rw' =>
    obtain rfl : u0 = Value.ref a := ra
    have hlen : ur.length ≤ sizeLine := by
      rw [← Paired.length rw', sizeLine_eq]
      omega
    exact oinit_ok T I1 ea hlen fun s' J => ⟨.non, H1, J, rfl, q⟩
end
end L2
namespace Cd
open PySem L2 PyProof.Rows
structure MkE (P : Program) (w : World) (K : PySem.W.Frag) (mg : Str → Option Value) (base : Heap) (k : Nat) (x : Str) (C : Addr) (ps : List Str) (sp : Sp) : Prop where
  ex : ∃ (f : Addr) (fd : FuncData), OexC K C ∧ PySem.W.findIn K (.ref C) "__init__" = some (some (.ref f)) ∧ PySem.W.typeIn K (.ref f) = some (.type "function") ∧ FnOk P w K mg base CX0 k f fd ps sp ∧ Binds K fd ps [] ∧ mg x = some (.ref C)
section
variable {X : Cx} {e : Expr} {es : List Expr} {ta : TA} {x : Str} {C : Addr} {k : Nat} {ps : List Str} {sp : Sp} {p pos : Pos}
theorem pmk_E (c : MkE X.prog X.w X.K X.mg X.base k x C ps sp) (hr : Room (k + 1) X.A) (ha : PA X (e :: es) ta) (hg : Gl X x := by rfl)
    (hdb : (x == ("__debug__" : Str)) = false := by decide) (he : starEach (e :: es) X.env = (false, eval e X.env) :: starEach es X.env := by rfl) (hpl : (backTo pos (starEach es X.env)).any (·.1) = false := by rfl) :
    PMk X (.Call (.Name x p) (e :: es) [] pos) (tMkO C sp [] ta) := by
  obtain ⟨f, fd, h1, h2, h3, h4, h5, h6⟩ := c.ex
  exact pmk_oex h1 h2 h3 h4 hr h5 .nil pass0 hg h6 ha hdb he hpl
end
/-- NoOrder(d, p) -/
def sp_NoOrder (K : Fr) : Sp := fun vs H Q _ => ∃ (a C : Addr) (d p : Int), vs = [.ref a, .int d, .int p] ∧ OexC K C ∧ PySem.W.findIn K (.ref C) "deck" = some none ∧ PySem.W.findIn K (.ref C) "place" = some none ∧ H a = some (exo a C none) ∧
  ∀ dx, H dx = none → dx ≠ a → Q .non (upd (upd (upd H dx (exd dx [("deck", .int d)])) a (exo a C (some dx))) dx (exd dx [("place", .int p), ("deck", .int d)]))
def sp_Meet (K : Fr) : Sp := fun vs H Q _ => ∃ (a C : Addr) (u v : V), vs = [.ref a, u, v] ∧ OexC K C ∧ PySem.W.findIn K (.ref C) "one" = some none ∧ PySem.W.findIn K (.ref C) "other" = some none ∧ H a = some (exo a C none) ∧
  ∀ dx, H dx = none → dx ≠ a → Q .non (upd (upd (upd H dx (exd dx [("one", u)])) a (exo a C (some dx))) dx (exd dx [("other", v), ("one", u)]))
theorem xd_heap {H : Hp} {a dx : Addr} {o1 o2 o3 o4 o5 : HO} (na : H a = none) (ne : dx ≠ a) : upd (del (upd (upd (upd (upd H a o1) dx o2) a o3) dx o4) a) dx o5 = upd H dx o5 := by
  funext b
  by_cases h1 : b = dx
  · subst h1; rw [upd_same, upd_same]
  · rw [upd_ne h1, upd_ne h1]
    by_cases h2 : b = a
    · subst h2; rw [del_same, na]
    · rw [del_ne h2, upd_ne h1, upd_ne h2, upd_ne h1, upd_ne h2]
section
variable {K : Fr} {Z H : Hp} {C : Addr} {Q : XK}
theorem raise_meet {u v : V} (zh : Same Z H) (T : OexC K C) (n1 : PySem.W.findIn K (.ref C) "one" = some none) (n2 : PySem.W.findIn K (.ref C) "other" = some none)
    (k : ∀ dx Z' H', Step Z H Z' H' → Z' dx = some (.xd [("other", v), ("one", u)]) → Q (.ref C) (some dx) H') : ∀ a, H a = none → sp_Meet K (.ref a :: ([u, v] ++ [])) (upd H a (exo a C none))
      (fun v H2 => v = .non ∧ ∃ (d : Addr) (fs : List (Str × V)), H2 a = some (exo a C (some d)) ∧ H2 d = some (exd d fs) ∧ H d = none ∧ Q (.ref C) (some d) (upd (del H2 a) d (.xd fs))) (fun _ _ _ => False) := fun a na =>
  ⟨a, C, u, v, rfl, T, n1, n2, upd_same, fun dx hdx ne => by
    rw [upd_ne ne] at hdx
    refine ⟨rfl, dx, _, by rw [upd_ne ne.symm, upd_same], upd_same, hdx, ?_⟩
    rw [xd_heap na ne]
    exact k dx _ _ (Step.new zh hdx) upd_same⟩
end
/-! ### a value of which nothing is asked -/
structure AnyV where
deriving Inhabited
instance : Py AnyV := ⟨fun _ _ _ _ => True, fun _ _ => trivial⟩
theorem xinit_done {p : Prop} (h : p) : p := h
/-! ### what a refusal bears, told -/
structure Xd where
  fs : List (Str × V)
deriving Inhabited
instance : Py Xd where
  R K Z v a := ∃ p, v = .ref p ∧ Z p = some (.xd a.fs)
  mono := fun s ⟨p, e, h⟩ => ⟨p, e, s _ _ h⟩
def rIsEx (K : Fr) (cls : Value) (d : Option Addr) (a : Addr) : List V → Hp → VK → Prop := fun xs H Q => ∃ (D : Addr) (c : V) (cv : Value) (b : Bool), cls = .ref D ∧ (d = none ∨ ∃ dd fs, d = some dd ∧ H dd = some (.xd fs)) ∧ ExcC K D ∧ xs = [.ref a, c] ∧ (∀ u, RelV c u → u = cv) ∧ PySem.W.kitOne K (.ref D) cv = some b ∧ Q (.bl b) H
theorem Good.trW {α β : Type} {m : R α} {k : α → R β} {f : Er → R β} {V : β → Prop} {E : Er → Prop} (h : Good (m.tr k f) V E) : ∃ (W' : α → Prop) (E' : Er → Prop), Good m W' E' ∧ (∀ a, W' a → Good (k a) V E) ∧ ∀ e, E' e → Good (f e) V E := ⟨_, _, Good.tr h, fun _ h => h, fun _ h => h⟩
end Cd

set_option Elab.async false
set_option linter.all false
set_option maxRecDepth 100000
set_option maxHeartbeats 4000000
namespace L2
open PySem PySem.Spec PyProof.Rows PySem.HandSPX
/-- what is asked of a refusal's class object -/
theorem oexB_of {K : PySem.W.Frag} {C : Addr} {o : Obj} (h : K.lookup C = some o) (q : oexO C o = true) : oexB K C = true := by
  unfold oexB
  rw [h]
  exact q
end L2
namespace Cd
open PySem L2 PyProof.Rows
/-! ### < of told data of one shape -/
class AlkD (α : Type) [Py α] [DecidableEq α] [PyD α] : Prop where
  alike : ∀ a b : α, PySem.W.alike (PyD.d a) (PyD.d b) = true
  nn : ∀ a : α, PyD.d a ≠ .none
instance : AlkD Int := ⟨fun a b => SrtD.alike a b, fun a => by simp [PyD.d]⟩
instance : AlkD Str := ⟨fun a b => SrtD.alike a b, fun a => by simp [PyD.d]⟩
instance {α : Type} [Py α] [DecidableEq α] [PyD α] [AlkD α] : AlkD (List α) := ⟨fun a b => by
  show PySem.W.alikeAll (a.map PyD.d) (b.map PyD.d) = true
  induction a generalizing b with
  | nil => simp [PySem.W.alikeAll]
  | cons x r ih => cases b with
    | nil => simp [PySem.W.alikeAll]
    | cons y s => simp only [List.map_cons, PySem.W.alikeAll, AlkD.alike, ih, Bool.and_self], fun a => by simp [PyD.d]⟩
instance {α β : Type} [Py α] [DecidableEq α] [PyD α] [AlkD α] [Py β] [DecidableEq β] [PyD β] [AlkD β] : AlkD (α × β) := ⟨fun a b => by
  show PySem.W.alikeAll [PyD.d a.1, PyD.d a.2] [PyD.d b.1, PyD.d b.2] = true
  simp [PySem.W.alikeAll, AlkD.alike], fun a => by simp [PyD.d]⟩
/-- less, as data -/
def ltD {α : Type} [Py α] [DecidableEq α] [PyD α] (a b : α) : Bool := PySem.W.dataLt (PyD.d a) (PyD.d b)
def rLtC (K : Fr) : R2 := fun x y H Q => ∃ d e, Dp K H x d ∧ Dp K H y e ∧ PySem.W.alike d e = true ∧ d ≠ .none ∧ d.depth ≤ 64 ∧ Q (.bl (PySem.W.dataLt d e)) H
end Cd
/-! ### list(range(a, b, -1)) -/
namespace L2
open PySem PySem.Spec PyProof.Rows
def rcV (i c : Int) (n : Nat) : List V := (List.range n).map fun k => V.int (i + (k : Nat) * c)
def rLst3 (i c : Int) (n : Nat) (H : Hp) (Q : VK) : Prop := n ≤ 2 ^ 24 ∧ ∀ q, H q = none → Q (.ref q) (upd H q (.lst (rcV i c n)))
def tLstRg3 (ta : TA) : TE := fun σ H Q => ta σ H fun vs H1 => ∃ (i j c : Int) (n : Nat), vs = [.int i, .int j, .int c] ∧ RgC i j c n ∧ rLst3 i c n H1 Q
end L2
namespace Cd
open PySem L2 PyProof.Rows
end Cd

set_option Elab.async false
set_option linter.all false
set_option maxRecDepth 100000
set_option maxHeartbeats 4000000
namespace Cd
open PySem L2 PyProof.Rows
/-! ### a list of one's own things, of which some are taken out -/
def allP {α : Type} (S : Sh α) (K : Fr) (Z H : Hp) : (Nat → Bool) → List V → List Addr → List α → Prop
  | _, vs, ps, [] => vs = [] ∧ ps = []
  | sk, vs, ps, a :: r => ∃ v ws qs rs, vs = v :: ws ∧ ps = qs ++ rs ∧ (if sk 0 = true then qs = [] else S.R K Z H v qs a) ∧ allP S K Z H (fun i => sk (i + 1)) ws rs r
section
variable {α : Type} {S : Sh α} {K : Fr} {Z Z' H H' : Hp}
theorem allP_keep : ∀ {l : List α} {sk : Nat → Bool} {vs : List V} {ps : List Addr}, Same Z Z' → (∀ q ∈ ps, H' q = H q) → allP S K Z H sk vs ps l → allP S K Z' H' sk vs ps l
  | [], _, _, _, _, _, h => h
  | a :: r, sk, _, _, s, h, ⟨v, ws, qs, rs, e1, e2, h1, h2⟩ => by
    refine ⟨v, ws, qs, rs, e1, e2, ?_, allP_keep s (fun q hq => h q (by rw [e2]; exact List.mem_append_right _ hq)) h2⟩
    split
    · rename_i c; rw [if_pos c] at h1; exact h1
    · rename_i c; rw [if_neg c] at h1; exact S.keep s (fun q hq => h q (by rw [e2]; exact List.mem_append_left _ hq)) h1
theorem allP_stands : ∀ {l : List α} {sk : Nat → Bool} {vs : List V} {ps : List Addr}, allP S K Z H sk vs ps l → ∀ q ∈ ps, ∃ u, H q = some u
  | [], _, _, _, ⟨_, e⟩, q, hq => by rw [e] at hq; cases hq
  | a :: r, sk, _, _, ⟨v, ws, qs, rs, e1, e2, h1, h2⟩, q, hq => by
    rw [e2] at hq
    rcases List.mem_append.mp hq with hq | hq
    · by_cases c : sk 0 = true
      · rw [if_pos c] at h1; rw [h1] at hq; cases hq
      · rw [if_neg c] at h1; exact S.stands h1 q hq
    · exact allP_stands h2 q hq
end
def Sh.lstP {α : Type} (xs : List V) (sk : Nat → Bool) (S : Sh α) : Sh (List α) where
  R := fun K Z H v ps l => ∃ p qs, v = .ref p ∧ ps = p :: qs ∧ H p = some (.lst xs) ∧ allP S K Z H sk xs qs l
  keep := fun s h ⟨p, qs, e1, e2, h1, h2⟩ => ⟨p, qs, e1, e2, (h p (by rw [e2]; exact List.mem_cons_self)).trans h1, allP_keep s (fun q hq => h q (by rw [e2]; exact List.mem_cons_of_mem _ hq)) h2⟩
  stands := fun ⟨p, qs, e1, e2, h1, h2⟩ q hq => by
    rw [e2] at hq
    rcases List.mem_cons.mp hq with rfl | hq
    · exact ⟨_, h1⟩
    · exact allP_stands h2 q hq
instance {α : Type} {xs : List V} {sk : Nat → Bool} {S : Sh α} : IsRef (Sh.lstP xs sk S) := ⟨fun ⟨p, _, e, _⟩ => ⟨p, e⟩⟩
section
variable {K : Fr} {Z0 H0 Z H : Hp} {G : List Rt} {α β γ : Type} {S : Sh α} {v : V} {l : List α} {xs : List V} {sk : Nat → Bool}
instance {α β : Type} {S : Sh α} {T : Sh β} {v w : V} [ImmS S] [ImmS T] : ImmS (Sh.two S T v w) := ⟨fun s ⟨qs, rs, e, h1, h2⟩ => ⟨qs, rs, e, ImmS.imm s h1, ImmS.imm s h2⟩⟩
theorem allX_set {Z H H' : Hp} {x : V} : ∀ {n : Nat} {l : List α} {vs : List V} {ps : List Addr}, (∀ q ∈ ps, H' q = H q) → allX S K Z H n vs ps l → allX S K Z H' n (vs.set n x) ps l
  | 0, [], _, _, _, h => ⟨by rw [h.1]; rfl, h.2⟩
  | _ + 1, [], _, _, _, h => ⟨by rw [h.1]; rfl, h.2⟩
  | 0, _ :: _, _, _, h, ⟨v, ws, e, r⟩ => ⟨x, ws, by rw [e]; rfl, allR_keep (Same.refl _) h r⟩
  | n + 1, a :: r, _, _, h, ⟨v, ws, qs, rs, e1, e2, h1, h2⟩ => ⟨v, ws.set n x, qs, rs, by rw [e1]; rfl, e2, S.keep (Same.refl _) (fun q hq => h q (by rw [e2]; exact List.mem_append_left _ hq)) h1, allX_set (fun q hq => h q (by rw [e2]; exact List.mem_append_right _ hq)) h2⟩
/-- a new thing of one's own in the place of an old one -/
theorem k_setO [Inhabited α] {i : Int} {p : Addr} {x : V} {b : α} {R : Hp → Prop} (h : Sep K Z0 H0 Z H (⟨Sh.lst (ShL.all S), .ref p, l⟩ :: ⟨S, x, b⟩ :: G)) (hi : inR l.length i) (k : ∀ u, Sep K Z0 H0 Z (upd H p u) (⟨Sh.lst (ShL.all S), .ref p, setI l i b⟩ :: G) → R (upd H p u)) : rSetL (.ref p) (.int i) x H R := by
  obtain ⟨xs, hl, h⟩ := h.vals
  obtain ⟨hp, _⟩ := h.atV 0 rfl
  obtain ⟨x0, hx0, h⟩ := h.takeI hi
  have h := h.drop
  have hj := (jx_lt hi).2
  have h2 : Sep K Z0 H0 Z (upd H p (.lst (xs.set (jx l.length i) x))) (⟨Sh.lstH (xs.set (jx l.length i) x) (jx l.length i) S, .ref p, l⟩ :: ⟨S, x, b⟩ :: G) := by
    have := h.mutO (S' := Sh.lstH (xs.set (jx l.length i) x) (jx l.length i) S) (b := l) (q := p) (w := .lst (xs.set (jx l.length i) x)) 0 rfl fun ps o => by
      obtain ⟨p', qs, e1, e2, g1, g2⟩ := o.r
      cases e1
      have nd := o.nd
      rw [e2, List.nodup_cons] at nd
      exact ⟨by rw [e2]; exact List.mem_cons_self, ⟨p, qs, rfl, e2, upd_same, allX_set (fun q hq => upd_ne (fun e => nd.1 (e ▸ hq))) g2⟩, o.nd, o.nz, o.n0⟩
    exact this
  have h3 := (h2.swap.giveI hi (by unfold atI; rw [List.length_set, hl, hj]; exact List.getElem?_set_self (by rw [hl]; exact (jx_lt hi).1))).unvals
  exact ⟨p, xs, i, _, rfl, rfl, hp, by rw [hl]; exact hj, k _ h3⟩
end
end Cd
namespace Cd
open PySem L2
/-! ### a comprehension's own names are taken away again -/
theorem wipe_get (σ : L2.St) : ∀ (vs : List Nat) (i : Nat), (wipe σ vs)[i]? = if i ∈ vs ∧ i < σ.length then some none else σ[i]?
  | [], i => by simp [wipe]
  | v :: vs, i => by
    show ((wipe σ vs).set v none)[i]? = _
    rw [List.getElem?_set, wipe_length]
    by_cases e : v = i
    · subst e
      by_cases h : v < σ.length
      · simp [h]
      · simp [h]
    · have e2 : ¬ i = v := fun h => e h.symm
      rw [if_neg e, wipe_get σ vs i]
      simp [List.mem_cons, e2]
theorem wipe_set {σ : L2.St} {vs : List Nat} {i : Nat} {a : Option V} (h : i ∈ vs) : wipe (σ.set i a) vs = wipe σ vs := by
  refine List.ext_getElem? fun j => ?_
  rw [wipe_get, wipe_get, List.length_set, List.getElem?_set]
  by_cases e : i = j
  · subst e
    by_cases hl : i < σ.length
    · simp [h, hl]
    · simp [h, hl, List.getElem?_eq_none (Nat.le_of_not_lt hl)]
  · simp [e]
theorem wipe_wipe {σ : L2.St} {vs : List Nat} : wipe (wipe σ vs) vs = wipe σ vs := by
  refine List.ext_getElem? fun j => ?_
  rw [wipe_get, wipe_get, wipe_length]
  split <;> rfl
theorem wipe_e1 {σ : L2.St} {vs : List Nat} {i : Nat} {a : Option V} (h : i ∈ vs) : wipe ((wipe σ vs).set i a) vs = wipe σ vs := by rw [wipe_set h, wipe_wipe]
theorem wipe_e2 {σ : L2.St} {vs : List Nat} {i j : Nat} {a b : Option V} (h : i ∈ vs) (h2 : j ∈ vs) : wipe (((wipe σ vs).set i a).set j b) vs = wipe σ vs := by rw [wipe_set h2, wipe_e1 h]
end Cd

set_option Elab.async false
set_option linter.all false
set_option maxRecDepth 100000
set_option maxHeartbeats 4000000
namespace Cd
open PySem L2 PyProof.Rows
/-! ### told data of any kind -/
mutual
inductive Dyr (K : Fr) (Z : Hp) : V → PyData → Prop
  | non : Dyr K Z .non .none
  | bl (b : Bool) : Dyr K Z (.bl b) (.bool b)
  | int (i : Int) : Dyr K Z (.int i) (.int i)
  | str (x : Str) : Dyr K Z (.str x) (.str x)
  | lst {a : Addr} {xs : List V} {ds : List PyData} : Z a = some (.lst xs) → DyrAll K Z xs ds → Dyr K Z (.ref a) (.list ds)
  | tup {a : Addr} {xs : List V} {ds : List PyData} : Z a = some (.tup xs) → DyrAll K Z xs ds → Dyr K Z (.ref a) (.tuple ds)
inductive DyrAll (K : Fr) (Z : Hp) : List V → List PyData → Prop
  | nil : DyrAll K Z [] []
  | cons {v : V} {vs : List V} {d : PyData} {ds : List PyData} : Dyr K Z v d → DyrAll K Z vs ds → DyrAll K Z (v :: vs) (d :: ds)
end
mutual
theorem Dyr.mono {K : Fr} {Z Z' : Hp} (s : Same Z Z') : ∀ (d : PyData) (v : V), Dyr K Z v d → Dyr K Z' v d
  | .none, _, h => by cases h; exact .non
  | .bool b, _, h => by cases h; exact .bl b
  | .int i, _, h => by cases h; exact .int i
  | .str x, _, h => by cases h; exact .str x
  | .list ds, _, h => by
    cases h with
    | lst hs ha => exact .lst (s _ _ hs) (DyrAll.mono s ds _ ha)
  | .tuple ds, _, h => by
    cases h with
    | tup hs ha => exact .tup (s _ _ hs) (DyrAll.mono s ds _ ha)
  | .dict _, _, h => by cases h
theorem DyrAll.mono {K : Fr} {Z Z' : Hp} (s : Same Z Z') : ∀ (ds : List PyData) (vs : List V), DyrAll K Z vs ds → DyrAll K Z' vs ds
  | [], _, h => by cases h; exact .nil
  | d :: ds, _, h => by
    cases h with
    | cons h1 h2 => exact .cons (Dyr.mono s d _ h1) (DyrAll.mono s ds _ h2)
end
mutual
/-- as the kit's == wants it -/
theorem Dyr.dp {K : Fr} {Z : Hp} : ∀ (d : PyData) (v : V), Dyr K Z v d → Dp K Z v d
  | .none, _, h => by cases h; exact .non
  | .bool b, _, h => by cases h; exact .bl b
  | .int i, _, h => by cases h; exact .int i
  | .str x, _, h => by cases h; exact .str x
  | .list ds, _, h => by
    cases h with
    | lst hs ha => exact .lst (SqL.of hs) (DyrAll.dp ds _ ha)
  | .tuple ds, _, h => by
    cases h with
    | tup hs ha => exact .tup (SqT.of hs) (DyrAll.dp ds _ ha)
  | .dict _, _, h => by cases h
theorem DyrAll.dp {K : Fr} {Z : Hp} : ∀ (ds : List PyData) (vs : List V), DyrAll K Z vs ds → DpAll K Z vs ds
  | [], _, h => by cases h; exact .nil
  | d :: ds, _, h => by
    cases h with
    | cons h1 h2 => exact .cons (Dyr.dp d _ h1) (DyrAll.dp ds _ h2)
end
instance : Py PyData := ⟨fun K Z v d => Dyr K Z v d, fun s h => Dyr.mono s _ _ h⟩
theorem dyAll_pr {K : Fr} {Z : Hp} : ∀ {vs : List V} {ds : List PyData}, DyrAll K Z vs ds → Paired (Py.R K Z) vs ds
  | _, _, .nil => .nil
  | _, _, .cons h t => .cons h (dyAll_pr t)
theorem pr_dyAll {K : Fr} {Z : Hp} : ∀ {vs : List V} {ds : List PyData}, Paired (Py.R K Z) vs ds → DyrAll K Z vs ds
  | _, _, .nil => .nil
  | _, _, .cons h t => .cons h (pr_dyAll t)
/-! ### typed data as data -/
class ToD (α : Type) [Py α] where
  td : α → PyData
  tr : ∀ {K : Fr} {Z : Hp} {v : V} {a : α}, Py.R K Z v a → Dyr K Z v (td a)
instance : ToD PyData := ⟨id, fun h => h⟩
instance : ToD Int := ⟨.int, fun {K Z v a} h => by cases (show v = V.int a from h); exact .int a⟩
instance : ToD Bool := ⟨.bool, fun {K Z v a} h => by cases (show v = V.bl a from h); exact .bl a⟩
instance : ToD Str := ⟨.str, fun {K Z v a} h => by cases (show v = V.str a from h); exact .str a⟩
instance : ToD Unit := ⟨fun _ => .none, fun {K Z v a} h => by cases (show v = V.non from h); exact .non⟩
theorem toAll {α : Type} [Py α] [ToD α] {K : Fr} {Z : Hp} : ∀ {vs : List V} {l : List α}, Paired (Py.R K Z) vs l → DyrAll K Z vs (l.map ToD.td)
  | _, _, .nil => .nil
  | _, _, .cons h t => .cons (ToD.tr h) (toAll t)
instance {α : Type} [Py α] [ToD α] : ToD (List α) := ⟨fun l => .list (l.map ToD.td), fun h => by
  obtain ⟨a, xs, rfl, hz, p⟩ := h
  exact .lst hz (toAll p)⟩
instance {α β : Type} [Py α] [ToD α] [Py β] [ToD β] : ToD (α × β) := ⟨fun p => .tuple [ToD.td p.1, ToD.td p.2], fun h => by
  obtain ⟨a, x, y, rfl, hz, h1, h2⟩ := h
  exact .tup hz (.cons (ToD.tr h1) (.cons (ToD.tr h2) .nil))⟩
instance {α : Type} [Py α] [ToD α] : ToD (Option α) := ⟨fun o => match o with | none => .none | some a => ToD.td a, fun {K Z v a} h => by
  cases a with
  | none => cases (show v = V.non from h); exact .non
  | some a => exact ToD.tr (show Py.R K Z v a from h)⟩
/-! ### data as typed data -/
class FromD (α : Type) [Py α] where
  fd : PyData → Option α
  ok : ∀ {K : Fr} {Z : Hp} {v : V} {d : PyData} {a : α}, fd d = some a → Dyr K Z v d → Py.R K Z v a
instance : FromD Int := ⟨fun d => match d with | .int i => some i | _ => none, fun {K Z v d a} e h => by
  cases d with
  | int i => cases e; cases h; rfl
  | _ => cases e⟩
instance : FromD Bool := ⟨fun d => match d with | .bool i => some i | _ => none, fun {K Z v d a} e h => by
  cases d with
  | bool i => cases e; cases h; rfl
  | _ => cases e⟩
instance : FromD Str := ⟨fun d => match d with | .str i => some i | _ => none, fun {K Z v d a} e h => by
  cases d with
  | str i => cases e; cases h; rfl
  | _ => cases e⟩
instance : FromD PyData := ⟨some, fun {K Z v d a} e h => by cases e; exact h⟩
instance {α β : Type} [Py α] [FromD α] [Py β] [FromD β] : FromD (α × β) := ⟨fun d => match d with
    | .tuple [x, y] => (match FromD.fd (α := α) x, FromD.fd (α := β) y with | some a, some b => some (a, b) | _, _ => none)
    | _ => none, fun {K Z v d a} e h => by
  split at e
  · rename_i x y
    split at e
    · rename_i p q h1 h2
      cases e
      cases h with
      | tup hs ha =>
        cases ha with
        | cons g1 g =>
          cases g with
          | cons g2 g3 =>
            cases g3
            exact ⟨_, _, _, rfl, hs, FromD.ok h1 g1, FromD.ok h2 g2⟩
    · cases e
  · cases e⟩
/-! ### what is asked of data -/
def dyItems : PyData → List PyData
  | .list l => l
  | .tuple l => l
  | _ => []
def dySeq : PyData → Bool
  | .list _ => true
  | .tuple _ => true
  | _ => false
def dyAt (d : PyData) (i : Int) : PyData := (atI (dyItems d) i).getD .none
def dyT : PyData → String
  | .none => "NoneType"
  | .bool _ => "bool"
  | .int _ => "int"
  | .str _ => "str"
  | .list _ => "list"
  | .tuple _ => "tuple"
  | .dict _ => "dict"
theorem Pt.dy {K : Fr} {Z H : Hp} {v : V} {d : PyData} (zh : Same Z H) (h : Py.R K Z v d) : Pt K H v (dyT d) := by
  have h : Dyr K Z v d := h
  cases h with
  | non => exact Pt.non ()
  | bl b => exact Pt.bl b
  | int i => exact Pt.int i
  | str x => exact Pt.str x
  | lst hs ha => exact .of (.base (.lst (zh _ _ hs)))
  | tup hs ha => exact .of (.base (.tup (zh _ _ hs)))
theorem k_isiD {K : Fr} {Z H : Hp} {Q : VK} {v : V} {d : PyData} {c : String} (zh : Same Z H) (h : Py.R K Z v d) (hk : (kitB (dyT d) c).isSome = true) (k : Q (.bl ((kitB (dyT d) c).getD false)) H) : rIsi K [v, .ty c] H Q := by
  cases e : kitB (dyT d) c with
  | none => rw [e] at hk; cases hk
  | some b => rw [e] at k; exact k_isi (Pt.dy zh h) e k
def rIxD (K : Fr) : R2 := fun x y H Q => rIxL K x y H Q ∨ rIxT K x y H Q
theorem ix_dyK {X : Cx} {K : Fr} (e : X.K = K) : IxR X (rIxD K) := fun value slice pins s σ H x y v u Q I rx ry h hs => h.elim (fun h => ix_listK e value slice pins s σ H x y v u Q I rx ry h hs) (fun h => ix_tupK e value slice pins s σ H x y v u Q I rx ry h hs)
theorem dyAll_at {K : Fr} {Z : Hp} : ∀ {vs : List V} {ds : List PyData} {j : Nat} {d : PyData}, DyrAll K Z vs ds → ds[j]? = some d → ∃ v, vs[j]? = some v ∧ Dyr K Z v d
  | _, _, 0, _, .cons h _, e => by cases e; exact ⟨_, rfl, h⟩
  | _, _, j + 1, _, .cons _ t, e => by
    obtain ⟨v, h1, h2⟩ := dyAll_at (j := j) t (by simpa using e)
    exact ⟨v, by simpa using h1, h2⟩
theorem dyAll_len {K : Fr} {Z : Hp} : ∀ {vs : List V} {ds : List PyData}, DyrAll K Z vs ds → vs.length = ds.length
  | _, _, .nil => rfl
  | _, _, .cons _ t => by rw [List.length_cons, List.length_cons, dyAll_len t]
theorem dyAll_atI {K : Fr} {Z : Hp} {vs : List V} {ds : List PyData} {i : Int} (h : DyrAll K Z vs ds) (hi : inR ds.length i) : ∃ v, atI vs i = some v ∧ Dyr K Z v ((atI ds i).getD .none) := by
  obtain ⟨j, e, hl⟩ := ixN_some hi
  obtain ⟨v, h1, h2⟩ := dyAll_at h (List.getElem?_eq_getElem hl)
  refine ⟨v, by unfold atI; rw [dyAll_len h, e]; exact h1, ?_⟩
  have : atI ds i = some ds[j] := by unfold atI; rw [e]; exact List.getElem?_eq_getElem hl
  rw [this]
  exact h2
theorem k_ixD {K : Fr} {Z H : Hp} {Q : VK} {v : V} {d : PyData} {i : Int} (zh : Same Z H) (h : Py.R K Z v d) (hs : dySeq d = true) (hi : inR (dyItems d).length i) (k : ∀ u, Py.R K Z u (dyAt d i) → Q u H) : rIxD K v (.int i) H Q := by
  have h : Dyr K Z v d := h
  cases h with
  | lst hq ha =>
    obtain ⟨u, h1, h2⟩ := dyAll_atI ha hi
    exact .inl ⟨_, _, i, u, rfl, rfl, SqL.of (zh _ _ hq), h1, k u h2⟩
  | tup hq ha =>
    obtain ⟨u, h1, h2⟩ := dyAll_atI ha hi
    exact .inr ⟨_, _, i, u, rfl, rfl, SqT.of (zh _ _ hq), h1, k u h2⟩
  | _ => cases hs
theorem k_lenD {K : Fr} {Z H : Hp} {Q : VK} {v : V} {d : PyData} (zh : Same Z H) (h : Py.R K Z v d) (hs : dySeq d = true) (k : Q (.int ((dyItems d).length : Int)) H) : rLenQ K [v] H Q := by
  have h : Dyr K Z v d := h
  cases h with
  | lst hq ha => exact ⟨_, _, rfl, .inl (SqL.of (zh _ _ hq)), by rw [dyAll_len ha]; exact k⟩
  | tup hq ha => exact ⟨_, _, rfl, .inr (SqT.of (zh _ _ hq)), by rw [dyAll_len ha]; exact k⟩
  | _ => cases hs
/-! == -/
theorem k_eqT {K : Fr} {H : Hp} {Q : VK} {α : Type} [Py α] [ToD α] {x y : V} {a b : α} (hx : Rn K H x a) (hy : Rn K H y b) (s : SeqAt.shaped (ToD.td a) = true ∧ SeqAt.shaped (ToD.td b) = true) (k : Q (.bl (PyData.eqv (ToD.td a) (ToD.td b))) H) : rEqD K x y H Q :=
  ⟨_, _, Dyr.dp _ _ (ToD.tr hx.r), Dyr.dp _ _ (ToD.tr hy.r), s.1, s.2, k⟩
theorem k_neT {K : Fr} {H : Hp} {Q : VK} {α : Type} [Py α] [ToD α] {x y : V} {a b : α} (hx : Rn K H x a) (hy : Rn K H y b) (s : SeqAt.shaped (ToD.td a) = true ∧ SeqAt.shaped (ToD.td b) = true) (k : Q (.bl (!PyData.eqv (ToD.td a) (ToD.td b))) H) : rNeD K x y H Q :=
  ⟨_, _, Dyr.dp _ _ (ToD.tr hx.r), Dyr.dp _ _ (ToD.tr hy.r), s.1, s.2, k⟩
end Cd

set_option Elab.async false
set_option linter.all false
set_option maxRecDepth 100000
set_option maxHeartbeats 4000000
namespace Cd
open PySem L2 PyProof.Rows
theorem RO.dy {α : Type} [Py α] [ToD α] {K : Fr} {Z H : Hp} {v : V} {l : List α} (h : RO K Z H v l) : RO K Z H v (l.map fun q => ToD.td q) := by
  obtain ⟨a, xs, e, hz, p⟩ := h
  exact ⟨a, xs, e, hz, dyAll_pr (toAll p)⟩
end Cd

set_option Elab.async false
set_option linter.all false
set_option maxRecDepth 100000
set_option maxHeartbeats 4000000
namespace Cd
open PySem L2 PyProof.Rows
/-! ### data: more kinds -/
instance : Inhabited PyData := ⟨.none⟩
instance {α β γ : Type} [Py α] [ToD α] [Py β] [ToD β] [Py γ] [ToD γ] : ToD (T3 α β γ) := ⟨fun p => .tuple [ToD.td p.x1, ToD.td p.x2, ToD.td p.x3], fun h => by
  obtain ⟨a, x, y, z, rfl, hz, h1, h2, h3⟩ := h
  exact .tup hz (.cons (ToD.tr h1) (.cons (ToD.tr h2) (.cons (ToD.tr h3) .nil)))⟩
instance {α β γ δ : Type} [Py α] [ToD α] [Py β] [ToD β] [Py γ] [ToD γ] [Py δ] [ToD δ] : ToD (T4 α β γ δ) := ⟨fun p => .tuple [ToD.td p.x1, ToD.td p.x2, ToD.td p.x3, ToD.td p.x4], fun h => by
  obtain ⟨a, x, y, z, w, rfl, hz, h1, h2, h3, h4⟩ := h
  exact .tup hz (.cons (ToD.tr h1) (.cons (ToD.tr h2) (.cons (ToD.tr h3) (.cons (ToD.tr h4) .nil))))⟩
instance {α : Type} [Py α] [ToD α] : ToD (TL α) := ⟨fun l => .tuple (l.l.map ToD.td), fun h => by
  obtain ⟨a, xs, rfl, hz, p⟩ := h
  exact .tup hz (toAll p)⟩
instance {α β γ : Type} [Py α] [FromD α] [Py β] [FromD β] [Py γ] [FromD γ] : FromD (T3 α β γ) := ⟨fun d => match d with
    | .tuple [x, y, z] => (match FromD.fd (α := α) x, FromD.fd (α := β) y, FromD.fd (α := γ) z with | some a, some b, some c => some ⟨a, b, c⟩ | _, _, _ => none)
    | _ => none, fun {K Z v d a} e h => by
  split at e
  · split at e
    · rename_i h1 h2 h3
      cases e
      cases h with
      | tup hs ha =>
        cases ha with
        | cons g1 g =>
          cases g with
          | cons g2 g =>
            cases g with
            | cons g3 g =>
              cases g
              exact ⟨_, _, _, _, rfl, hs, FromD.ok h1 g1, FromD.ok h2 g2, FromD.ok h3 g3⟩
    · cases e
  · cases e⟩
instance {α β γ δ : Type} [Py α] [FromD α] [Py β] [FromD β] [Py γ] [FromD γ] [Py δ] [FromD δ] : FromD (T4 α β γ δ) := ⟨fun d => match d with
    | .tuple [x, y, z, w] => (match FromD.fd (α := α) x, FromD.fd (α := β) y, FromD.fd (α := γ) z, FromD.fd (α := δ) w with | some a, some b, some c, some e => some ⟨a, b, c, e⟩ | _, _, _, _ => none)
    | _ => none, fun {K Z v d a} e h => by
  split at e
  · split at e
    · rename_i h1 h2 h3 h4
      cases e
      cases h with
      | tup hs ha =>
        cases ha with
        | cons g1 g =>
          cases g with
          | cons g2 g =>
            cases g with
            | cons g3 g =>
              cases g with
              | cons g4 g =>
                cases g
                exact ⟨_, _, _, _, _, rfl, hs, FromD.ok h1 g1, FromD.ok h2 g2, FromD.ok h3 g3, FromD.ok h4 g4⟩
    · cases e
  · cases e⟩
def fdAll {α : Type} [Py α] [FromD α] : List PyData → Option (List α)
  | [] => some []
  | d :: r => match FromD.fd (α := α) d, fdAll r with | some a, some l => some (a :: l) | _, _ => none
theorem fdAll_ok {α : Type} [Py α] [FromD α] {K : Fr} {Z : Hp} : ∀ {ds : List PyData} {vs : List V} {l : List α}, fdAll ds = some l → DyrAll K Z vs ds → Paired (Py.R K Z) vs l
  | [], _, _, e, h => by cases e; cases h; exact .nil
  | d :: r, _, _, e, h => by
    cases h with
    | cons h1 h2 =>
      unfold fdAll at e
      split at e
      · rename_i g1 g2
        cases e
        exact .cons (FromD.ok g1 h1) (fdAll_ok g2 h2)
      · cases e
instance {α : Type} [Py α] [FromD α] : FromD (List α) := ⟨fun d => match d with | .list ds => fdAll ds | _ => none, fun {K Z v d a} e h => by
  cases d with
  | list ds =>
    cases h with
    | lst hs ha => exact ⟨_, _, rfl, hs, fdAll_ok e ha⟩
  | _ => cases e⟩
instance {α : Type} [Py α] [FromD α] : FromD (TL α) := ⟨fun d => match d with | .tuple ds => (fdAll ds).map TL.mk | _ => none, fun {K Z v d a} e h => by
  cases d with
  | tuple ds =>
    cases h with
    | tup hs ha =>
      have e : (fdAll (α := α) ds).map TL.mk = some a := e
      cases g : fdAll (α := α) ds with
      | none => rw [g] at e; cases e
      | some l => rw [g] at e; cases e; exact ⟨_, _, rfl, hs, fdAll_ok g ha⟩
  | _ => cases e⟩
theorem fdOf {α : Type} [Py α] [FromD α] [Inhabited α] {K : Fr} {Z : Hp} {v : V} {d : PyData} (g : (FromD.fd (α := α) d).isSome = true) (h : Py.R K Z v d) : Py.R K Z v ((FromD.fd (α := α) d).getD default) := by
  cases e : FromD.fd (α := α) d with
  | none => rw [e] at g; cases g
  | some a => exact FromD.ok e h
theorem fdSc {α : Type} [Sc α] [FromD α] [Inhabited α] {K : Fr} {Z : Hp} {v : V} {d : PyData} (h : Py.R K Z v d) (g : (FromD.fd (α := α) d).isSome = true) : Sc.emb ((FromD.fd (α := α) d).getD default) = v := (show v = _ from fdOf (α := α) g h).symm
/-- there and back -/
class RtD (α : Type) [Py α] [ToD α] [FromD α] : Prop where
  rt : ∀ a : α, FromD.fd (ToD.td a) = some a
instance : RtD Int := ⟨fun _ => rfl⟩
instance : RtD Bool := ⟨fun _ => rfl⟩
instance : RtD Str := ⟨fun _ => rfl⟩
instance : RtD PyData := ⟨fun _ => rfl⟩
instance {α β : Type} [Py α] [ToD α] [FromD α] [RtD α] [Py β] [ToD β] [FromD β] [RtD β] : RtD (α × β) := ⟨fun p => by
  show (match FromD.fd (α := α) (ToD.td p.1), FromD.fd (α := β) (ToD.td p.2) with | some a, some b => some (a, b) | _, _ => none) = _
  rw [RtD.rt, RtD.rt]⟩
instance {α β γ : Type} [Py α] [ToD α] [FromD α] [RtD α] [Py β] [ToD β] [FromD β] [RtD β] [Py γ] [ToD γ] [FromD γ] [RtD γ] : RtD (T3 α β γ) := ⟨fun p => by
  show (match FromD.fd (α := α) (ToD.td p.x1), FromD.fd (α := β) (ToD.td p.x2), FromD.fd (α := γ) (ToD.td p.x3) with | some a, some b, some c => some (⟨a, b, c⟩ : T3 α β γ) | _, _, _ => none) = _
  rw [RtD.rt, RtD.rt, RtD.rt]⟩
instance {α β γ δ : Type} [Py α] [ToD α] [FromD α] [RtD α] [Py β] [ToD β] [FromD β] [RtD β] [Py γ] [ToD γ] [FromD γ] [RtD γ] [Py δ] [ToD δ] [FromD δ] [RtD δ] : RtD (T4 α β γ δ) := ⟨fun p => by
  show (match FromD.fd (α := α) (ToD.td p.x1), FromD.fd (α := β) (ToD.td p.x2), FromD.fd (α := γ) (ToD.td p.x3), FromD.fd (α := δ) (ToD.td p.x4) with | some a, some b, some c, some e => some (⟨a, b, c, e⟩ : T4 α β γ δ) | _, _, _, _ => none) = _
  rw [RtD.rt, RtD.rt, RtD.rt, RtD.rt]⟩
theorem rt_all {α : Type} [Py α] [ToD α] [FromD α] [RtD α] : ∀ l : List α, fdAll (l.map ToD.td) = some l
  | [] => rfl
  | a :: r => by
    rw [List.map_cons]
    unfold fdAll
    rw [RtD.rt, rt_all r]
instance {α : Type} [Py α] [ToD α] [FromD α] [RtD α] : RtD (List α) := ⟨fun l => rt_all l⟩
/-! an item of data, as typed data -/
theorem k_ixDT {α : Type} [Py α] [FromD α] [Inhabited α] {K : Fr} {Z H : Hp} {Q : VK} {v : V} {d : PyData} {i : Int} (zh : Same Z H) (h : Py.R K Z v d) (hs : dySeq d = true) (hi : inR (dyItems d).length i) (g : (FromD.fd (α := α) (dyAt d i)).isSome = true) (k : ∀ u, Py.R K Z u ((FromD.fd (α := α) (dyAt d i)).getD default) → Q u H) : rIxD K v (.int i) H Q :=
  k_ixD zh h hs hi fun u hu => k u (fdOf g hu)
theorem k_ixDS {α : Type} [Sc α] [FromD α] [Inhabited α] {K : Fr} {Z H : Hp} {Q : VK} {v : V} {d : PyData} {i : Int} (zh : Same Z H) (h : Py.R K Z v d) (hs : dySeq d = true) (hi : inR (dyItems d).length i) (g : (FromD.fd (α := α) (dyAt d i)).isSome = true) (k : Q (Sc.emb ((FromD.fd (α := α) (dyAt d i)).getD default)) H) : rIxD K v (.int i) H Q :=
  k_ixD zh h hs hi fun u hu => by rw [← fdSc hu g]; exact k
/-! is None -/
def dyNone : PyData → Bool
  | .none => true
  | _ => false
theorem dyNone_v {K : Fr} {Z : Hp} {v : V} {d : PyData} (h : Py.R K Z v d) : decide (v = .non) = dyNone d := by
  have h : Dyr K Z v d := h
  cases h <;> simp [dyNone]
theorem k_isNd {K : Fr} {Z H : Hp} {Q : VK} {v : V} {d : PyData} (h : Py.R K Z v d) (k : Q (.bl (dyNone d)) H) : rIsNQ v .non H Q := ⟨rfl, by rw [dyNone_v h]; exact k⟩
theorem k_notNd {K : Fr} {Z H : Hp} {Q : VK} {v : V} {d : PyData} (h : Py.R K Z v d) (k : Q (.bl (!dyNone d)) H) : rNotNQ v .non H Q := ⟨rfl, by rw [dyNone_v h]; exact k⟩
theorem Rn.dy {α : Type} [Py α] [ToD α] {K : Fr} {H : Hp} {v : V} {a : α} (h : Rn K H v a) : Rn K H v (ToD.td a) := ⟨ToD.tr h.r⟩
theorem fdAllOf {α : Type} [Py α] [FromD α] {K : Fr} {Z : Hp} {v : V} {l : List PyData} (g : (fdAll (α := α) l).isSome = true) (h : Py.R K Z v l) : Py.R K Z v ((fdAll (α := α) l).getD []) := by
  cases e : fdAll (α := α) l with
  | none => rw [e] at g; cases g
  | some m =>
    obtain ⟨a, xs, rfl, hz, p⟩ := h
    exact ⟨a, xs, rfl, hz, fdAll_ok e (pr_dyAll p)⟩
theorem k_eqN {K : Fr} {H : Hp} {Q : VK} {x y : V} {d e : PyData} (hx : Rn K H x d) (hy : Rn K H y e) (s : SeqAt.shaped d = true ∧ SeqAt.shaped e = true) (k : Q (.bl (PyData.eqv d e)) H) : rEqD K x y H Q :=
  ⟨_, _, Dyr.dp _ _ hx.r, Dyr.dp _ _ hy.r, s.1, s.2, k⟩
theorem k_neN {K : Fr} {H : Hp} {Q : VK} {x y : V} {d e : PyData} (hx : Rn K H x d) (hy : Rn K H y e) (s : SeqAt.shaped d = true ∧ SeqAt.shaped e = true) (k : Q (.bl (!PyData.eqv d e)) H) : rNeD K x y H Q :=
  ⟨_, _, Dyr.dp _ _ hx.r, Dyr.dp _ _ hy.r, s.1, s.2, k⟩
theorem op_eqCK {X : Cx} {K : Fr} (e : X.K = K) (hu : X.A.units + 64 < cLine) : OpR X (compareOp .Eq) (rEqC K) := by subst e; exact op_eqC hu
theorem op_eqDK {X : Cx} {K : Fr} (e : X.K = K) (hu : X.A.units + 64 < cLine) : OpR X (compareOp .Eq) (rEqD K) := by subst e; exact op_eqD hu
theorem op_neDK {X : Cx} {K : Fr} (e : X.K = K) (hu : X.A.units + 64 < cLine) : OpR X (compareOp .NotEq) (rNeD K) := by subst e; exact op_neD hu
theorem k_ch2r {σ : L2.St} {H : Hp} {i j k : Int} {p1 p2 : Int → Int → Bool} {ta tb tc : TE} {D : L2.Ends} (ha : ∀ Q : VK, Q (.int i) H → ta σ H Q) (hb : ∀ Q : VK, Q (.int j) H → tb σ H Q) (hc : ∀ Q : VK, Q (.int k) H → tc σ H Q) (kk : D.rt (.bl (p1 i j && p2 j k)) H) : tRet (tChain (rC p1) (rC p2) ta tb tc) D σ H := k_ch2 ha hb hc kk
/-! ### x is True, of what may be None -/
def embB : Option Bool → V
  | none => .non
  | some b => .bl b
def rIsB (p : Bool) : R2 := fun x y H Q => ∃ (o : Option Bool) (b : Bool), x = embB o ∧ y = .bl b ∧ Q (.bl (p == decide (o = some b))) H
/-! ### lists of unlike kinds: the first four, and one more -/
/-! ### x or [] -/
theorem k_orL {K : Fr} {Z H : Hp} {Q : VK} {α : Type} [Py α] {v : V} {o : Option (List α)} {tb : Hp → VK → Prop} (zh : Same Z H) (h : Py.R K Z v o) (ht : ∀ Q', rLstQ [] H Q' → tb H Q') (k : Tel K Z H Q (o.getD [])) : ∃ b, TruV K v H b ∧ if b = true then Q v H else tb H Q := by
  have e0 : ∀ (_ : Tel K Z H Q ([] : List α)), rLstQ [] H Q := fun k => k_lst (K := K) (m := ([] : List α)) zh .nil (Nat.le_of_ble_eq_true rfl) (New.tel k)
  cases o with
  | none =>
    cases (show v = V.non from h)
    exact ⟨false, rfl, ht _ (e0 k)⟩
  | some l =>
    have h : Py.R K Z v l := h
    obtain ⟨a, xs, rfl, hz, pr⟩ := id h
    refine ⟨!xs.isEmpty, .inl ⟨xs, SqL.of (zh _ _ hz), rfl⟩, ?_⟩
    cases pr with
    | nil => exact ht _ (e0 k)
    | cons p t => exact k _ _ _ (Step.refl zh) h
/-! ### a class whose __init__ has defaults -/
/-- the tuple of a def's defaults, looked through -/
def relB2 : V → Value → Bool
  | .non, .none => true
  | .int i, .int j _ => decide (i = j)
  | _, _ => false
def relA2 : List V → List Value → Bool
  | [], [] => true
  | v :: vs, u :: us => relB2 v u && relA2 vs us
  | _, _ => false
def dflO (o : Obj) (dvs : List V) : Bool := match o.data with
  | .seq its _ => relA2 dvs its.toList
  | _ => false
/-- a new object within a try -/
def tMakeS (C : Addr) (sp : Sp) (dvs : List V) (E : L2.St → XK) (t : TA) : TE := fun σ H Q => t σ H fun vs H1 => ∀ x dx, H1 x = none → H1 dx = none → dx ≠ x →
  sp (.ref x :: (vs ++ dvs)) (upd (upd H1 dx (.own x)) x (.ins C dx [])) (fun v H2 => v = .non ∧ Q (.ref x) H2) (E σ)
/-- js: behind so many of the defaults' first ones the others stand -/
structure MakD (P : Program) (w : World) (K : PySem.W.Frag) (mg : Str → Option Value) (base : Heap) (CX : CXT) (k : Nat) (x : Str) (C : Addr) (ps : List Str) (dvs : List V) (js : List Nat) (sp : Sp) : Prop where
  ex : ∃ (f : Addr) (fd : FuncData), Mk K C f ∧ FnOk P w K mg base CX k f fd ps sp ∧ mg x = some (.ref C) ∧ ∀ j ∈ js, ∃ ds, Vals (dvs.drop j) ds ∧ Binds K fd ps ds
section
variable {X : Cx} {CX : CXT} {k : Nat} {C : Addr} {x : Str} {ps : List Str} {dvs : List V} {js : List Nat} {sp : Sp} {E : XK} {t : TA} {e : Expr} {es : List Expr} {p pos : Pos}
theorem pe_mkD (c : MakD X.prog X.w X.K X.mg X.base CX k x C ps dvs js sp) (j : Nat) (hj : j ∈ js) (hr : Room (k + 1) X.A) (hx : Passes CX X E) (ha : PA X (e :: es) t) (hg : Gl X x := by rfl) (hdb : (x == ("__debug__" : Str)) = false := by decide) (he : starEach (e :: es) X.env = (false, eval e X.env) :: starEach es X.env := by rfl) (hpl : (backTo pos (starEach es X.env)).any (·.1) = false := by rfl) :
    PE X (.Call (.Name x p) (e :: es) [] pos) (tMake C sp (dvs.drop j) E t) := by
  obtain ⟨f, fd, M, F, hm, hb⟩ := c.ex
  obtain ⟨ds, hv, hb⟩ := hb j hj
  exact pe_make M F hr hg hm hb hv hx ha hdb he hpl
end
end Cd

set_option Elab.async false
set_option linter.all false
set_option maxRecDepth 100000
set_option maxHeartbeats 4000000
namespace Cd
open PySem L2 PyProof.Rows
/-! ### a list of five taken apart by a target -/
theorem tgtL5 {K : Fr} {Z H : Hp} {α : Type} [Py α] [Inhabited α] {v : V} {l : List α} {i1 i2 i3 i4 i5 : Nat} {σ : L2.St} {R : L2.St → Hp → Prop} (zh : Same Z H) (h : Py.R K Z v l) (hl : l.length = 5) (k : ∀ a, a = getI l 0 → ∀ b, b = getI l 1 → ∀ c, c = getI l 2 → ∀ d, d = getI l 3 → ∀ e, e = getI l 4 → ∀ x1 x2 x3 x4 x5, Py.R K Z x1 a → Py.R K Z x2 b → Py.R K Z x3 c → Py.R K Z x4 d → Py.R K Z x5 e → R (((((σ.set i1 (some x1)).set i2 (some x2)).set i3 (some x3)).set i4 (some x4)).set i5 (some x5)) H) :
    gLst K 5 (gCons (gName i1) (gCons (gName i2) (gCons (gName i3) (gCons (gName i4) (gCons (gName i5) gNil))))) v σ H R := by
  obtain ⟨a, xs, rfl, hz, p⟩ := h
  match l, hl, p with
  | [c1, c2, c3, c4, c5], _, .cons (a := x1) h1 (.cons (a := x2) h2 (.cons (a := x3) h3 (.cons (a := x4) h4 (.cons (a := x5) h5 .nil)))) =>
    exact ⟨a, [x1, x2, x3, x4, x5], rfl, SqL.of (zh _ _ hz), rfl, x1, [x2, x3, x4, x5], rfl, x2, [x3, x4, x5], rfl, x3, [x4, x5], rfl, x4, [x5], rfl, x5, [], rfl, rfl, k c1 rfl c2 rfl c3 rfl c4 rfl c5 rfl x1 x2 x3 x4 x5 h1 h2 h3 h4 h5⟩
theorem dyK {α : Type} [Sc α] [FromD α] [Inhabited α] {K : Fr} {Z : Hp} {d : PyData} {P : V → Prop} (g : (FromD.fd (α := α) d).isSome = true) (k : P (Sc.emb ((FromD.fd (α := α) d).getD default))) : ∀ u, Py.R K Z u d → P u := fun u hu => by rw [← fdSc hu g]; exact k
/-! ### list(x) if x is a list, else x -/
/-! ### text[::-1] -/
def revS (z : Str) : Str := mk (codes z).reverse
theorem rev_pick (z : Str) : (⟨((Builtin.Str.strSliceIndices none none (-1) z.length).filterMap (z.cps[·]?)).toArray⟩ : Str) = revS z := by
  have e : Builtin.Str.strSliceIndices none none (-1) z.length = (List.range z.cps.size).reverse := by
    show PySem.sliceRange ((z.length : Int) - 1) (-1) (-1) = _
    rw [PySem.W.krv_sliceRange, PySem.W.krv_range]; rfl
  rw [e, List.filterMap_reverse, PySem.W.krv_all]
  rfl
def tRevS (te : TE) : TE := fun σ H Q => te σ H fun x H1 => ∃ z, x = .str z ∧ z.length ≤ sizeLine ∧ Q (.str (revS z)) H1
theorem pe_revS {X : Cx} {e : Expr} {te : TE} {k : Nat} {p1 p2 p3 pos : Pos} (he : PE X e te) : PE X (.Subscript e (.Slice none none (some (.UnaryOp .USub (.Constant (.int 1) k p1) p2)) p3) pos) (tRevS te) := by
  refine ⟨fun pins s σ H Q I h => ?_⟩
  refine Subscript_ (thn (he.run pins s σ H _ I h) fun v s1 ⟨x, H1, I1, r1, q1⟩ => ?_)
  obtain ⟨z, ex, hz, q⟩ := q1
  subst ex
  obtain ⟨t, rfl⟩ := r1
  have hst : PO X (some (.UnaryOp .USub (.Constant (.int 1) k p1) p2)) (tPart (tUn (rU fun i => .int (-i)) (tC (.int 1)))) := po_some (pe_un un_neg pe_int)
  refine wpAny_Slice (thn (po_none.run pins s1 σ H1 (fun o H2 => o = none ∧ H2 = H1) I1 ⟨rfl, rfl⟩) fun vl s2 ⟨l, H2, I2, pl, el, e2⟩ => ?_)
  subst el e2
  refine thn (po_none.run pins s2 σ H2 (fun o H3 => o = none ∧ H3 = H2) I2 ⟨rfl, rfl⟩) fun vu s3 ⟨u, H3, I3, pu, eu, e3⟩ => ?_
  subst eu e3
  refine thn (hst.run pins s3 σ H3 (fun o H4 => o = some (-1) ∧ H4 = H3) I3 ⟨1, rfl, -1, rfl, rfl, rfl⟩) fun vs s4 ⟨o, H4, I4, ps, eo, e4⟩ => ?_
  subst eo e4
  have I5 : Inv X pins σ H4 { s4 with heap := s4.heap.push { cls := .type "slice", data := .fields #[vl, vu, vs] } } := I4.kept (t' := s4.toks) fun b ob q => Heap.get?_push_of_some _ q
  show wpAny (model X.prog X.w) X.A (subscriptTail e (.Slice none none (some (.UnaryOp .USub (.Constant (.int 1) k p1) p2)) p3) (.str z t) (.ref s4.heap.objs.size)) (EP X pins σ Q) X.xe { s4 with heap := s4.heap.push { cls := .type "slice", data := .fields #[vl, vu, vs] } }
  refine tail_any (ops := [.str z t, .ref s4.heap.objs.size]) (typeIs_str _ _ _) F.slot_str_getitem.lookup ?_ (by with_unfolding_all rfl)
  obtain ⟨os, hos, hcs, hds⟩ := Heap.IsSliceOf.new s4.heap vl vu vs
  obtain ⟨l1, rfl, e1⟩ := IsPart.raw pl
  obtain ⟨u1, rfl, e2⟩ := IsPart.raw pu
  obtain ⟨s1', rfl, e3⟩ := IsPart.raw ps
  refine wpAny_getItem_str_slice (l := l1) (u := u1) (st := s1') ⟨os, hos, hcs, hds⟩ (by rw [e3]; rfl) ?_
  have n1 : l1 = none := by cases l1 with | none => rfl | some a => cases e1
  have n2 : u1 = none := by cases u1 with | none => rfl | some a => cases e2
  subst n1 n2
  cases s1' with
  | none => cases e3
  | some a =>
    obtain ⟨i, ti⟩ := a
    have : i = -1 := Option.some.inj e3
    subst this
    show Made.post (Made.str ⟨((Builtin.Str.strSliceIndices none none (-1) z.length).filterMap (z.cps[·]?)).toArray⟩) (EP X pins σ Q) _
    rw [rev_pick]
    refine ⟨?_, .str _, H4, I5.tok _, ⟨_, rfl⟩, q⟩
    unfold revS
    rw [len_codes, codes_mk, List.length_reverse, ← len_codes]; exact hz
end Cd

set_option Elab.async false
set_option linter.all false
set_option maxRecDepth 100000
set_option maxHeartbeats 4000000
namespace Cd
open PySem L2 PyProof.Rows
/-! ### a walk over a tuple that is data -/
def dyTup : PyData → Bool
  | .tuple _ => true
  | _ => false
/-! ### behind an expression a token is out -/
def PEk (X : Cx) (e : Expr) (t : TE) : Prop := ∀ (pins : List (Addr × Obj)) (s : Shared) (σ : L2.St) (H : Hp) (Q : VK), Inv X pins σ H s → t σ H Q → wpAny (model X.prog X.w) X.A (eval e X.env) (fun v s1 => 1 ≤ s1.toks ∧ EP X pins σ Q v s1) X.xe s
section
variable {X : Cx} {e f o : Expr} {te tf to : TE} {y z : Str} {j k : Nat} {c0 c1 apos pos p p' : Pos}
end
end Cd

set_option Elab.async false
set_option linter.all false
set_option maxRecDepth 100000
set_option maxHeartbeats 4000000
namespace Cd
open PySem L2 PyProof.Rows
/-! ### a walk over a list that is data -/
def dyLst : PyData → Bool
  | .list _ => true
  | _ => false
end Cd

set_option Elab.async false
set_option linter.all false
set_option maxRecDepth 100000
set_option maxHeartbeats 4000000
namespace Cd
open PySem L2 PyProof.Rows
/-! ### Base.__init__(self, ..), a base class's own __init__ called by its name -/
structure BinX (P : Program) (w : World) (K : PySem.W.Frag) (mg : Str → Option Value) (base : Heap) (CX : CXT) (k : Nat) (x : Str) (A : Addr) (ps : List Str) (dvs : List V) (sp : Sp) : Prop where
  ex : ∃ (f : Addr) (fd : FuncData), CRd K A ∧ PySem.W.findCls K (.ref A) (.type "type") "__init__" = some (.val (.ref f)) ∧ PySem.W.keepIn K (.ref f) = true ∧ FnOk P w K mg base CX k f fd ps sp ∧ (∃ ds, Vals dvs ds ∧ Binds K fd ps ds) ∧ mg x = some (.ref A)
section
variable {X : Cx} {CX : CXT} {k : Nat} {A : Addr} {x : Str} {ps : List Str} {dvs : List V} {sp : Sp} {E : XK} {t : TA} {e : Expr} {es : List Expr} {p1 p2 pos : Pos}
end
end Cd

set_option Elab.async false
set_option linter.all false
set_option maxRecDepth 100000
set_option maxHeartbeats 4000000
namespace Cd
open PySem L2 PyProof.Rows
/-! ### {k: v, ..} of written keys and scalars -/
def dOf {κ α : Type} [DecidableEq κ] (l : List (κ × α)) : List (κ × α) := l.foldl (fun m q => dPut m q.1 q.2) []
/-- the pairs of a display that leaves the heap as it is -/
def tPW : List (TE × TE) → L2.St → Hp → (List (V × V) → Prop) → Prop
  | [], _, _, R => R []
  | (tk, tv) :: r, σ, H, R => tk σ H fun x H1 => H1 = H ∧ tv σ H fun y H2 => H2 = H ∧ tPW r σ H fun ps => R ((x, y) :: ps)
structure PPW (X : Cx) (pos : Pos) (keys : List (Option Expr)) (values : List Expr) (trs : List (TE × TE)) : Prop where
  run : ∀ (pins : List (Addr × Obj)) (s : Shared) (σ : L2.St) (H : Hp) (R : List (V × V) → Prop), Inv X pins σ H s → tPW trs σ H R →
    wpAny (model X.prog X.w) X.A (evalPairs (pairTrees keys values X.env pos)) (fun vs s' => ∃ ps, Inv X pins σ H s' ∧ VV ps vs ∧ R ps) X.xe s
@[irreducible] def rDispQ (H : Hp) (p : Addr) (ps : List (V × V)) (Q : VK) : Prop := ∃ kvs : List (Key × V), ps = kvs.map (fun kv => (kV kv.1, kv.2)) ∧ kvs.length ≤ 15 ∧ Q (.ref p) (upd H p (.dK (mergeK [] kvs)))
def tDispW (trs : List (TE × TE)) : TE := fun σ H Q => ∀ p, H p = none → tPW trs σ (upd H p (.dK [])) fun ps => rDispQ H p ps Q
end Cd

set_option Elab.async false
set_option linter.all false
set_option maxRecDepth 100000
set_option maxHeartbeats 4000000
namespace Cd
open PySem L2 PyProof.Rows
/-! ### isinstance(x, B), x an object of the class C under B -/
structure IsiC (K : Fr) (C B : Addr) : Prop where
  cl : Cls K C
  ha : PySem.W.findIn K (.ref C) "__class__" = some (some (.builtin "object.__class__"))
  hn : PySem.W.specialIn K (.builtin "object.__class__") "__get__" = some (some (.builtin "getset_descriptor.__get__"))
  ht : PySem.W.takesIn K (.builtin "object.__class__") = some true
  hm : PySem.W.mroIn K C (.type "object") = some true
  ki : PySem.W.kitOne K (.ref C) (.ref B) = some true
end Cd

set_option Elab.async false
set_option linter.all false
set_option maxRecDepth 100000
set_option maxHeartbeats 4000000
namespace Cd
open PySem L2 PyProof.Rows
/-! ### methods that refuse, called in a try -/
def tMethT (C : Addr) (m : Str) (sp : Sp) (E : L2.St → XK) (ta : TE) (t : TA) : TE := fun σ H Q => ta σ H fun x H1 => ∃ a dx fs, x = .ref a ∧ H1 a = some (.ins C dx fs) ∧ fs.lookup m = none ∧ t σ H1 fun vs H2 => sp (x :: vs) H2 Q (E σ)
end Cd

set_option Elab.async false
set_option linter.all false
set_option maxRecDepth 100000
set_option maxHeartbeats 4000000
namespace Cd
open PySem L2 PyProof.Rows
section
variable {ok : List FaB} {fn : List He.DefD} {K : Fr}
theorem SaysB.fact (c : SaysB ok fn K) (i : Nat) {f : FaB} (h : ok[i]? = some f) : f K = true := by
  have c1 := (He.ba (show ((ok.all fun f => f K) && fn.all fun d => d.ok K) = true from congrArg (fun z : He.AlD => z.1) c)).1
  exact List.all_eq_true.mp c1 f (List.mem_of_getElem? h)
theorem SaysB.def_ (c : SaysB ok fn K) (i : Nat) {d : He.DefD} (h : fn[i]? = some d) : ∃ fd, FunD K d.name d.qual d.params d.body d.scope (d.dvs K) (d.kws K) (He.fAd K d.at_) fd := by
  have c2 := (He.ba (show ((ok.all fun f => f K) && fn.all fun d => d.ok K) = true from congrArg (fun z : He.AlD => z.1) c)).2
  have e : fn.map (fun d => He.fnW K d.at_) = fn.map He.DefD.val := congrArg (fun z : He.AlD => z.2) c
  have e2 : (fn.map fun d => He.fnW K d.at_)[i]? = (fn.map He.DefD.val)[i]? := by rw [e]
  rw [List.getElem?_map, List.getElem?_map, h] at e2
  exact He.DefD.funD (Option.some.inj e2) (List.all_eq_true.mp c2 d (List.mem_of_getElem? h))
end
theorem FunD.toFun {K : Fr} {x qual : Str} {st : Stmt} {f : Addr} {fd : FuncData} (F : FunD K x qual (defArgs st) (defBody st) (defScope st) [] [] f fd) : Fun K x qual st f fd := by
  obtain ⟨⟨oc, od, dV, kV, doc, pm, an, cdv, ct, osl, e, lk, cd, dv, kw⟩, kp⟩ := F
  rcases dv with ⟨_, rfl⟩ | ⟨h, _⟩
  · exact ⟨⟨oc, od, kV, doc, pm, an, cdv, ct, osl, e, lk, cd⟩, kp⟩
  · exact absurd rfl h
theorem fcB_ok {o : Option PySem.W.CFound} {v : Value} (h : fcB o v = true) : o = some (.val v) := by
  unfold fcB at h
  split at h
  · rw [of_decide_eq_true h]
  · cases h
theorem oexK_ok {K : Fr} {A : Addr} (h : oexK K A = true) : ∃ o, K.lookup A = some o ∧ oexO A o = true := by
  unfold oexK at h
  split at h
  · exact ⟨_, by assumption, h⟩
  · cases h
/-- a law's end, the script's bits told, over facts by one look -/
theorem walk_ofBE {l : PySem.W.OpenLaw} {n k : Nat} {q : Program} {loose : List Str} {XP : (Str → Option Value) → Heap → Prop} {YP : World → Heap → Prop} {d : DefRec} {CX : CXT} {x : Str}
    (hn : l.most = some n) (hn2 : n ≤ sizeLine) (hdf : d.params.defaults = []) (hr : Room k callerA)
    (F : ∀ (w : World) (mg : Str → Option Value) (fa : Addr) (h : Heap), YP w h → h.Ns mainGlobals mg → mg d.name = some (.ref fa) →
      ∃ (K : Fr) (fd : FuncData) (sp : Sp), K.In h ∧ (∀ (s : Shared) (u : Value), BindsTo s fd ⟨[u], []⟩ [(x, u)]) ∧
        (∀ (H : Hp) (a : Addr) (ns : List Int), ns.length ≤ n → (∀ z ∈ ns, Builtin.Int.intBits z ≤ 1048576) → Only H → SqL K H a (ns.map V.int) → sp [.ref a] H (fun v _ => v = .bl true) fun _ _ _ => False) ∧
        ∀ base : Heap, K.In base → base.Ns mainGlobals mg → FnOk l.prog w K mg base CX k fa fd [x] sp)
    (hCX : ∀ (H : Hp) (s : Shared) (e : Value) (s' : Shared), CX [] H s (fun _ _ _ => False) e s' → False) :
    PySem.W.WalkO q loose XP YP l.row.toRowW d [] (fun f vs => PySem.call f vs) := by
  refine Att.attach_callB hn hdf fun w s₀ s₁ mg mb fa o pm cd doc a vs ns G Y ho hd hcd hmg hobj hints hlen hbits hg => ?_
  obtain ⟨K, fd, sp, KX, hb, hsp, hF⟩ := F w mg fa _ Y G.T.g hmg
  exact law_call KX G.T.g G.T.b G.T.builtins G.T.nolimit hg hobj hints (Nat.le_trans hlen hn2) hr hF hb (fun H hO hS => hsp H a ns hlen hbits hO hS) fun H e s' => hCX H s₁ e s'
end Cd

set_option Elab.async false
set_option linter.all false
set_option maxRecDepth 100000
set_option maxHeartbeats 4000000
namespace Cd
open PySem L2 PyProof.Rows
/-! ### a list of three taken apart by a target -/
/-! ### an attribute that a method leaves alone -/
def Sh.opq (v : V) : Sh Unit where
  R := fun _ _ _ u ps _ => u = v ∧ ps = []
  keep := fun _ _ h => h
  stands := fun ⟨_, e⟩ q hq => by rw [e] at hq; cases hq
instance {v : V} : MutS (Sh.opq v) := ⟨fun ⟨_, e⟩ q hq => by rw [e] at hq; cases hq⟩
theorem Sep.opq {K : Fr} {Z0 H0 Z H : Hp} {G : List Rt} (v : V) (h : Sep K Z0 H0 Z H G) : Sep K Z0 H0 Z H (⟨Sh.opq v, v, ()⟩ :: G) :=
  h.pushO (ps := []) ⟨⟨rfl, rfl⟩, List.nodup_nil, (fun _ h => nomatch h), (fun _ h => nomatch h)⟩ fun _ _ _ _ _ _ _ h => nomatch h
/-! ### a list of two unlike things of one's own -/
theorem SepF.lstV {K : Fr} {Z0 H0 Z H : Hp} {G G' : List Rt} {f : Nat → List Addr} {Q : VK} {is : List Nat} {vs : List V} {α β : Type} {T : ShL β} {b : β} {g : α → β} {a : α} (h : SepF K Z0 H0 Z H G f) (eb : b = g a) (r : RowF K H0 Z H G f is T vs b) (js : List Nat) (hj : js.Nodup) (hd : ∀ j ∈ js, j ∉ is) (e : js.map (fun j => G[j]?) = G'.map some) (hs : vs.length ≤ sizeLine)
    (k : ∀ p H', Step Z H Z H' → Sep K Z0 H0 Z H' (⟨(Sh.lst T).via g, .ref p, a⟩ :: G') → Q (.ref p) H') : rLstQ vs H Q := by
  refine ⟨hs, fun p hp => k p _ (Step.own h.st.zh hp) ?_⟩
  subst eb
  have h2 := h.laid (S := Sh.lst T) r js hj hd e hp (r.row.wrapL h.st hp)
  obtain ⟨ps, o, gg⟩ := h2.chg 0 rfl
  exact gg h2.st (Same.refl _) (fun q u _ hu => ⟨hu, rfl⟩) (OwnO.mkvia rfl o) fun _ h => .inl h
def Sh.lp {α β : Type} (S : Sh α) (T : Sh β) : Sh (α × β) := (Sh.lst (ShL.cons S (ShL.cons T ShL.nil))).via fun p => (p.1, (p.2, ()))
instance {α β : Type} {S : Sh α} {T : Sh β} : IsRef (Sh.lp S T) := inferInstanceAs (IsRef (Sh.via _ _))
def Sh.barL (xs : List V) : Sh Unit where
  R := fun _ _ H v ps _ => ∃ p, v = .ref p ∧ ps = [p] ∧ H p = some (.lst xs)
  keep := fun _ h ⟨p, e1, e2, h1⟩ => ⟨p, e1, e2, (h p (by rw [e2]; simp)).trans h1⟩
  stands := fun ⟨p, e1, e2, h1⟩ q hq => by rw [e2, List.mem_singleton] at hq; subst hq; exact ⟨_, h1⟩
end Cd

set_option Elab.async false
set_option linter.all false
set_option maxRecDepth 100000
set_option maxHeartbeats 4000000
namespace Cd
open PySem L2 PyProof.Rows
/-! ### {k: v, ..} of written keys; the values may be laid anew -/
def tPG : List (TE × TE) → L2.St → Hp → (List (V × V) → Hp → Prop) → Prop
  | [], _, H, R => R [] H
  | (tk, tv) :: r, σ, H, R => tk σ H fun x H1 => tv σ H1 fun y H2 => tPG r σ H2 fun ps H3 => R ((x, y) :: ps) H3
structure PPG (X : Cx) (pos : Pos) (keys : List (Option Expr)) (values : List Expr) (trs : List (TE × TE)) : Prop where
  run : ∀ (pins : List (Addr × Obj)) (s : Shared) (σ : L2.St) (H : Hp) (R : List (V × V) → Hp → Prop), Inv X pins σ H s → tPG trs σ H R →
    wpAny (model X.prog X.w) X.A (evalPairs (pairTrees keys values X.env pos)) (fun vs s' => ∃ ps H', Inv X pins σ H' s' ∧ VV ps vs ∧ R ps H') X.xe s
@[irreducible] def rDispG (H : Hp) (p : Addr) (ps : List (V × V)) (Q : VK) : Prop := H p = some (.dK []) ∧ ∃ kvs : List (Key × V), ps = kvs.map (fun kv => (kV kv.1, kv.2)) ∧ kvs.length ≤ 15 ∧ Q (.ref p) (upd H p (.dK (mergeK [] kvs)))
def tDispG (trs : List (TE × TE)) : TE := fun σ H Q => ∀ p, H p = none → tPG trs σ (upd H p (.dK [])) fun ps H2 => rDispG H2 p ps Q
end Cd

set_option Elab.async false
set_option linter.all false
set_option maxRecDepth 100000
set_option maxHeartbeats 4000000
namespace Cd
open PySem L2 PyProof.Rows
/-! ### a field of a refusal that was handed over -/
/-! ### a new object that may be refused, made within a try -/
/-! ### .. handed on to another def -/
end Cd

set_option Elab.async false
set_option linter.all false
set_option maxRecDepth 100000
set_option maxHeartbeats 4000000
namespace Cd
open PySem L2 PyProof.Rows
/-! ### a dict of one's own things; the things at the keys sk are taken out -/
section
variable {κ α : Type} [Sc κ] [DecidableEq κ] [Kt κ]
def entS (S : Sh α) (sk : κ → Bool) (K : Fr) (Z H : Hp) : List (Key × V) → List Addr → List (κ × α) → Prop
  | kvs, ps, [] => kvs = [] ∧ ps = []
  | kvs, ps, e :: r => ∃ v ws qs rs, kvs = (Kt.key e.1, v) :: ws ∧ ps = qs ++ rs ∧ (if sk e.1 = true then qs = [] else S.R K Z H v qs e.2) ∧ entS S sk K Z H ws rs r
variable {S : Sh α} {K : Fr} {Z Z' H H' : Hp}
theorem entS_keep {sk : κ → Bool} : ∀ {m : List (κ × α)} {kvs : List (Key × V)} {ps : List Addr}, Same Z Z' → (∀ q ∈ ps, H' q = H q) → entS S sk K Z H kvs ps m → entS S sk K Z' H' kvs ps m
  | [], _, _, _, _, h => h
  | e :: r, _, _, s, h, ⟨v, ws, qs, rs, e1, e2, h1, h2⟩ => by
    refine ⟨v, ws, qs, rs, e1, e2, ?_, entS_keep s (fun q hq => h q (by rw [e2]; exact List.mem_append_right _ hq)) h2⟩
    by_cases c : sk e.1 = true
    · rw [if_pos c] at h1 ⊢; exact h1
    · rw [if_neg c] at h1 ⊢; exact S.keep s (fun q hq => h q (by rw [e2]; exact List.mem_append_left _ hq)) h1
theorem entS_stands {sk : κ → Bool} : ∀ {m : List (κ × α)} {kvs : List (Key × V)} {ps : List Addr}, entS S sk K Z H kvs ps m → ∀ q ∈ ps, ∃ u, H q = some u
  | [], _, _, ⟨_, e⟩, q, hq => by rw [e] at hq; cases hq
  | e :: r, _, _, ⟨v, ws, qs, rs, e1, e2, h1, h2⟩, q, hq => by
    rw [e2] at hq
    rcases List.mem_append.mp hq with hq | hq
    · by_cases c : sk e.1 = true
      · rw [if_pos c] at h1; rw [h1] at hq; cases hq
      · rw [if_neg c] at h1; exact S.stands h1 q hq
    · exact entS_stands h2 q hq
end
/-- a dict, its values at hand, with the things at the keys sk taken out -/
def Sh.dP {κ α : Type} [Sc κ] [DecidableEq κ] [Kt κ] (kvs : List (Key × V)) (sk : κ → Bool) (S : Sh α) : Sh (Dct κ α) where
  R := fun K Z H v ps d => ∃ p qs, v = .ref p ∧ ps = p :: qs ∧ H p = some (.dK kvs) ∧ (d.kv.map fun e : κ × α => e.1).Nodup ∧ entS S sk K Z H kvs qs d.kv
  keep := fun s h ⟨p, qs, e1, e2, h1, nd, h2⟩ => ⟨p, qs, e1, e2, (h p (by rw [e2]; exact List.mem_cons_self)).trans h1, nd, entS_keep s (fun q hq => h q (by rw [e2]; exact List.mem_cons_of_mem _ hq)) h2⟩
  stands := fun ⟨p, qs, e1, e2, h1, nd, h2⟩ q hq => by
    rw [e2] at hq
    rcases List.mem_cons.mp hq with rfl | hq
    · exact ⟨_, h1⟩
    · exact entS_stands h2 q hq
def Sh.dS {α : Type} (κ : Type) [Sc κ] [DecidableEq κ] [Kt κ] (S : Sh α) : Sh (Dct κ α) where
  R := fun K Z H v ps d => ∃ kvs, (Sh.dP kvs (fun _ => false) S).R K Z H v ps d
  keep := fun s h ⟨kvs, r⟩ => ⟨kvs, (Sh.dP kvs (fun _ => false) S).keep s h r⟩
  stands := fun ⟨kvs, r⟩ q hq => (Sh.dP kvs (fun _ => false) S).stands r q hq
section
variable {κ α β : Type} [Sc κ] [DecidableEq κ] [Kt κ] {S : Sh α}
instance {kvs : List (Key × V)} {sk : κ → Bool} : IsRef (Sh.dP kvs sk S) := ⟨fun ⟨p, _, e, _⟩ => ⟨p, e⟩⟩
instance : IsRef (Sh.dS κ S) := ⟨fun ⟨_, p, _, e, _⟩ => ⟨p, e⟩⟩
theorem entS_mut [MutS S] {sk : κ → Bool} {K : Fr} {Z H : Hp} : ∀ {m : List (κ × α)} {kvs : List (Key × V)} {ps : List Addr}, entS S sk K Z H kvs ps m → ∀ q ∈ ps, ∃ u, H q = some u ∧ MutO u
  | [], _, _, ⟨_, e⟩, q, hq => by rw [e] at hq; cases hq
  | e :: r, _, _, ⟨v, ws, qs, rs, e1, e2, h1, h2⟩, q, hq => by
    rw [e2] at hq
    rcases List.mem_append.mp hq with hq | hq
    · by_cases c : sk e.1 = true
      · rw [if_pos c] at h1; rw [h1] at hq; cases hq
      · rw [if_neg c] at h1; exact MutS.mt h1 q hq
    · exact entS_mut h2 q hq
theorem entS_imm [ImmS S] {sk : κ → Bool} {K : Fr} {Z Z' H : Hp} (s : ∀ b u, Z b = some u → ¬ MutO u → Z' b = some u) : ∀ {m : List (κ × α)} {kvs : List (Key × V)} {ps : List Addr}, entS S sk K Z H kvs ps m → entS S sk K Z' H kvs ps m
  | [], _, _, h => h
  | e :: r, _, _, ⟨v, ws, qs, rs, e1, e2, h1, h2⟩ => by
    refine ⟨v, ws, qs, rs, e1, e2, ?_, entS_imm s h2⟩
    by_cases c : sk e.1 = true
    · rw [if_pos c] at h1 ⊢; exact h1
    · rw [if_neg c] at h1 ⊢; exact ImmS.imm s h1
theorem entS_dat [Py α] [Dat S] {K : Fr} {Z : Hp} : ∀ {m : List (κ × α)} {kvs : List (Key × V)} {ps : List Addr}, entS S (fun _ => false) K Z Z kvs ps m → Paired (EntK K Z) kvs m
  | [], _, _, ⟨e, _⟩ => by rw [e]; exact .nil
  | e :: r, _, _, ⟨v, ws, qs, rs, e1, e2, h1, h2⟩ => by
    rw [e1]
    exact .cons ⟨rfl, Dat.dat (by simpa using h1)⟩ (entS_dat h2)
instance [MutS S] : MutS (Sh.dS κ S) := ⟨fun ⟨kvs, p, qs, e1, e2, h1, _, h2⟩ q hq => by
  rw [e2] at hq
  rcases List.mem_cons.mp hq with rfl | hq
  · exact ⟨_, h1, trivial⟩
  · exact entS_mut h2 q hq⟩
instance [ImmS S] : ImmS (Sh.dS κ S) := ⟨fun s ⟨kvs, p, qs, e1, e2, h1, nd, h2⟩ => ⟨kvs, p, qs, e1, e2, h1, nd, entS_imm s h2⟩⟩
instance [Py α] [Dat S] : Dat (Sh.dS κ S) := ⟨fun ⟨kvs, p, qs, e1, e2, h1, nd, h2⟩ => ⟨p, kvs, e1, h1, entS_dat h2⟩⟩
variable {K : Fr} {Z0 H0 Z H : Hp} {G : List Rt} {v : V} {d : Dct κ α} {kvs : List (Key × V)} {sk : κ → Bool} {Q : VK}
end
end Cd

set_option Elab.async false
set_option linter.all false
set_option maxRecDepth 100000
set_option maxHeartbeats 4000000
namespace Cd
open PySem L2 PyProof.Rows
/-! ### an object of one of several classes: its methods -/
structure MetU (P : Program) (w : World) (K : PySem.W.Frag) (mg : Str → Option Value) (base : Heap) (CX : CXT) (k : Nat) (ns : List Str) (m : Str) (ps : List Str) (spn : Str → Sp) : Prop where
  ex : ∀ n ∈ ns, ∃ (C f : Addr) (fd : FuncData), PySem.W.nsIn K mainGlobals n = some (some (.ref C)) ∧ Cls K C ∧ Meth K C m f ∧ FnOk P w K mg base CX k f fd ps (spn n) ∧ Binds K fd ps []
section
variable {P : Program} {w : World} {K : PySem.W.Frag} {mg : Str → Option Value} {base : Heap} {CX : CXT} {j k : Nat} {ns : List Str} {m n : Str} {ps : List Str} {spn : Str → Sp} {C : Addr} {sp : Sp}
theorem MetU.nil : MetU P w K mg base CX k [] m ps spn := ⟨fun n hn => nomatch hn⟩
theorem MetU.cons (c : MetX P w K mg base CX j C m ps sp) (hj : j ≤ k) (nk : PySem.W.nsIn K mainGlobals n = some (some (.ref C))) (h : ∀ vs H Q E, spn n vs H Q E → sp vs H Q E) (r : MetU P w K mg base CX k ns m ps spn) : MetU P w K mg base CX k (n :: ns) m ps spn := by
  refine ⟨fun n' hn => ?_⟩
  rcases List.mem_cons.mp hn with rfl | hn
  · obtain ⟨f, fd, cl, hm, F, hb⟩ := c.ex
    exact ⟨C, f, fd, nk, cl, hm, (F.mono hj).imp h, hb⟩
  · exact r.ex n' hn
end
def tMethU (K : PySem.W.Frag) (ns : List Str) (m : Str) (spn : Str → Sp) (E : L2.St → XK) (ta : TE) (t : TA) : TE := fun σ H Q => ta σ H fun x H1 => ∃ n C a dx fs, n ∈ ns ∧ PySem.W.nsIn K mainGlobals n = some (some (.ref C)) ∧ x = .ref a ∧ H1 a = some (.ins C dx fs) ∧ fs.lookup m = none ∧ t σ H1 fun vs H2 => spn n (x :: vs) H2 Q (E σ)
section
variable {X : Cx} {CX : CXT} {k : Nat} {ns : List Str} {m : Str} {ps : List Str} {spn : Str → Sp} {ta : TE} {t : TA} {o e : Expr} {es : List Expr} {pos apos : Pos}
end
/-! what is known of such an object: the name of its class, its attributes' names -/
class UniS {α : Type} (S : Sh α) (nm : α → Str) (ns fl : List Str) : Prop where
  u : ∀ {K : Fr} {Z H : Hp} {v : V} {ps : List Addr} {a : α}, S.R K Z H v ps a → nm a ∈ ns ∧ ∃ C p dx fs, PySem.W.nsIn K mainGlobals (nm a) = some (some (.ref C)) ∧ v = .ref p ∧ H p = some (.ins C dx fs) ∧ ∀ m, m ∉ fl → fs.lookup m = none
class UniT (α : Type) [Py α] (nm : α → Str) (ns fl : List Str) : Prop where
  u : ∀ {K : Fr} {Z : Hp} {v : V} {a : α}, Py.R K Z v a → nm a ∈ ns ∧ ∃ C p dx fs, PySem.W.nsIn K mainGlobals (nm a) = some (some (.ref C)) ∧ v = .ref p ∧ Z p = some (.ins C dx fs) ∧ ∀ m, m ∉ fl → fs.lookup m = none
theorem OwnO.as {α β : Type} {S : Sh α} {T : Sh β} {K : Fr} {H0 Z H : Hp} {v : V} {ps : List Addr} {a : α} {b : β} (o : OwnO S K H0 Z H v ps a) (r : T.R K Z H v ps b) : OwnO T K H0 Z H v ps b := ⟨r, o.nd, o.nz, o.n0⟩
/-- one's own thing, seen as a thing of a wider kind -/
theorem Sep.wide {α β : Type} {S : Sh α} {T : Sh β} {K : Fr} {Z0 H0 Z H : Hp} {G : List Rt} {v : V} {a : α} {b : β} (h : Sep K Z0 H0 Z H G) (i : Nat) (e : G[i]? = some ⟨S, v, a⟩) (c : ∀ ps, S.R K Z H v ps a → T.R K Z H v ps b) : Sep K Z0 H0 Z H (G.set i ⟨T, v, b⟩) := by
  obtain ⟨ps, o, g⟩ := h.chg i e
  exact g h.st (Same.refl _) (fun q u _ hu => ⟨hu, rfl⟩) (o.as (c ps o.r)) fun q hq => .inl hq
end Cd

set_option Elab.async false
set_option linter.all false
set_option maxRecDepth 100000
set_option maxHeartbeats 4000000
namespace Cd
open PySem L2 PyProof.Rows
/-! ### data of any kind of which every list is one's own -/
mutual
inductive Dyo (K : Fr) (Z H : Hp) : V → List Addr → PyData → Prop
  | non : Dyo K Z H .non [] .none
  | bl (b : Bool) : Dyo K Z H (.bl b) [] (.bool b)
  | int (i : Int) : Dyo K Z H (.int i) [] (.int i)
  | str (x : Str) : Dyo K Z H (.str x) [] (.str x)
  | lst {a : Addr} {xs : List V} {qs : List Addr} {ds : List PyData} : H a = some (.lst xs) → DyoAll K Z H xs qs ds → Dyo K Z H (.ref a) (a :: qs) (.list ds)
  | tup {a : Addr} {xs : List V} {qs : List Addr} {ds : List PyData} : Z a = some (.tup xs) → DyoAll K Z H xs qs ds → Dyo K Z H (.ref a) qs (.tuple ds)
inductive DyoAll (K : Fr) (Z H : Hp) : List V → List Addr → List PyData → Prop
  | nil : DyoAll K Z H [] [] []
  | cons {v : V} {vs : List V} {qs rs : List Addr} {d : PyData} {ds : List PyData} : Dyo K Z H v qs d → DyoAll K Z H vs rs ds → DyoAll K Z H (v :: vs) (qs ++ rs) (d :: ds)
end
section
variable {K : Fr} {Z Z' H H' : Hp}
mutual
theorem Dyo.keep (s : ∀ b u, Z b = some u → ¬ MutO u → Z' b = some u) : ∀ (d : PyData) (v : V) (ps : List Addr), (∀ q ∈ ps, H' q = H q) → Dyo K Z H v ps d → Dyo K Z' H' v ps d
  | .none, _, _, _, h => by cases h; exact .non
  | .bool b, _, _, _, h => by cases h; exact .bl b
  | .int i, _, _, _, h => by cases h; exact .int i
  | .str x, _, _, _, h => by cases h; exact .str x
  | .list ds, _, _, e, h => by
    cases h with
    | lst hs ha => exact .lst ((e _ List.mem_cons_self).trans hs) (DyoAll.keep s ds _ _ (fun q hq => e q (List.mem_cons_of_mem _ hq)) ha)
  | .tuple ds, _, _, e, h => by
    cases h with
    | tup hs ha => exact .tup (s _ _ hs fun z => z) (DyoAll.keep s ds _ _ e ha)
  | .dict _, _, _, _, h => by cases h
theorem DyoAll.keep (s : ∀ b u, Z b = some u → ¬ MutO u → Z' b = some u) : ∀ (ds : List PyData) (vs : List V) (ps : List Addr), (∀ q ∈ ps, H' q = H q) → DyoAll K Z H vs ps ds → DyoAll K Z' H' vs ps ds
  | [], _, _, _, h => by cases h; exact .nil
  | d :: ds, _, _, e, h => by
    cases h with
    | cons h1 h2 => exact .cons (Dyo.keep s d _ _ (fun q hq => e q (List.mem_append_left _ hq)) h1) (DyoAll.keep s ds _ _ (fun q hq => e q (List.mem_append_right _ hq)) h2)
end
mutual
theorem Dyo.mut : ∀ (d : PyData) (v : V) (ps : List Addr), Dyo K Z H v ps d → ∀ q ∈ ps, ∃ u, H q = some u ∧ MutO u
  | .none, _, _, h, q, hq => by cases h; cases hq
  | .bool b, _, _, h, q, hq => by cases h; cases hq
  | .int i, _, _, h, q, hq => by cases h; cases hq
  | .str x, _, _, h, q, hq => by cases h; cases hq
  | .list ds, _, _, h, q, hq => by
    cases h with
    | lst hs ha =>
      rcases List.mem_cons.mp hq with rfl | hq
      · exact ⟨_, hs, trivial⟩
      · exact DyoAll.mut ds _ _ ha q hq
  | .tuple ds, _, _, h, q, hq => by
    cases h with
    | tup hs ha => exact DyoAll.mut ds _ _ ha q hq
  | .dict _, _, _, h, _, _ => by cases h
theorem DyoAll.mut : ∀ (ds : List PyData) (vs : List V) (ps : List Addr), DyoAll K Z H vs ps ds → ∀ q ∈ ps, ∃ u, H q = some u ∧ MutO u
  | [], _, _, h, q, hq => by cases h; cases hq
  | d :: ds, _, _, h, q, hq => by
    cases h with
    | cons h1 h2 => exact (List.mem_append.mp hq).elim (Dyo.mut d _ _ h1 q) (DyoAll.mut ds _ _ h2 q)
end
mutual
theorem Dyo.dat : ∀ (d : PyData) (v : V) (ps : List Addr), Dyo K Z Z v ps d → Dyr K Z v d
  | .none, _, _, h => by cases h; exact .non
  | .bool b, _, _, h => by cases h; exact .bl b
  | .int i, _, _, h => by cases h; exact .int i
  | .str x, _, _, h => by cases h; exact .str x
  | .list ds, _, _, h => by
    cases h with
    | lst hs ha => exact .lst hs (DyoAll.dat ds _ _ ha)
  | .tuple ds, _, _, h => by
    cases h with
    | tup hs ha => exact .tup hs (DyoAll.dat ds _ _ ha)
  | .dict _, _, _, h => by cases h
theorem DyoAll.dat : ∀ (ds : List PyData) (vs : List V) (ps : List Addr), DyoAll K Z Z vs ps ds → DyrAll K Z vs ds
  | [], _, _, h => by cases h; exact .nil
  | d :: ds, _, _, h => by
    cases h with
    | cons h1 h2 => exact .cons (Dyo.dat d _ _ h1) (DyoAll.dat ds _ _ h2)
end
end
/-! no list in it -/
mutual
def immD : PyData → Bool
  | .list _ => false
  | .tuple xs => immA xs
  | .dict _ => false
  | _ => true
def immA : List PyData → Bool
  | [] => true
  | d :: ds => immD d && immA ds
end
mutual
theorem Dyr.imm {K : Fr} {Z H : Hp} : ∀ (d : PyData) (v : V), immD d = true → Dyr K Z v d → Dyo K Z H v [] d
  | .none, _, _, h => by cases h; exact .non
  | .bool b, _, _, h => by cases h; exact .bl b
  | .int i, _, _, h => by cases h; exact .int i
  | .str x, _, _, h => by cases h; exact .str x
  | .list ds, _, g, h => by simp [immD] at g
  | .tuple ds, _, g, h => by
    cases h with
    | tup hs ha => exact .tup hs (DyrAll.imm ds _ (by simpa [immD] using g) ha)
  | .dict _, _, g, h => by cases h
theorem DyrAll.imm {K : Fr} {Z H : Hp} : ∀ (ds : List PyData) (vs : List V), immA ds = true → DyrAll K Z vs ds → DyoAll K Z H vs [] ds
  | [], _, _, h => by cases h; exact .nil
  | d :: ds, _, g, h => by
    rw [immA, Bool.and_eq_true] at g
    cases h with
    | cons h1 h2 => exact .cons (qs := []) (rs := []) (Dyr.imm d _ g.1 h1) (DyrAll.imm ds _ g.2 h2)
end
def Sh.dy : Sh PyData where
  R := fun K Z H v ps d => Dyo K Z H v ps d
  keep := fun s h r => Dyo.keep (fun b u e _ => s b u e) _ _ _ h r
  stands := fun r q hq => let ⟨u, e, _⟩ := Dyo.mut _ _ _ r q hq; ⟨u, e⟩
instance : MutS Sh.dy := ⟨fun r q hq => Dyo.mut _ _ _ r q hq⟩
instance : ImmS Sh.dy := ⟨fun s r => Dyo.keep s _ _ _ (fun _ _ => rfl) r⟩
instance : Dat Sh.dy := ⟨fun r => Dyo.dat _ _ _ r⟩
theorem OwnO.dyI {K : Fr} {H0 Z H : Hp} {v : V} {d : PyData} (h : Py.R K Z v d) (g : immD d = true) : OwnO Sh.dy K H0 Z H v [] d := ⟨Dyr.imm d v g h, List.nodup_nil, (fun _ h => nomatch h), (fun _ h => nomatch h)⟩
end Cd

set_option Elab.async false
set_option linter.all false
set_option maxRecDepth 100000
set_option maxHeartbeats 4000000
namespace Cd
open PySem L2 PyProof.Rows
/-! ### walks over a dict, with a dict of one's own things at hand -/
theorem entS_fz {κ α : Type} [Sc κ] [DecidableEq κ] [Kt κ] {S : Sh α} [NDS S] {sk : κ → Bool} {K : Fr} {Z Z' H : Hp} (s : FzR Z Z') : ∀ {m : List (κ × α)} {kvs : List (Key × V)} {ps : List Addr}, entS S sk K Z H kvs ps m → entS S sk K Z' H kvs ps m
  | [], _, _, h => h
  | e :: r, _, _, ⟨v, ws, qs, rs, e1, e2, h1, h2⟩ => by
    refine ⟨v, ws, qs, rs, e1, e2, ?_, entS_fz s h2⟩
    by_cases c : sk e.1 = true
    · rw [if_pos c] at h1 ⊢; exact h1
    · rw [if_neg c] at h1 ⊢; exact NDS.fz s h1
instance {κ α : Type} [Sc κ] [DecidableEq κ] [Kt κ] {S : Sh α} [NDS S] : NDS (Sh.dS κ S) := ⟨fun s ⟨kvs, p, qs, e1, e2, h1, nd, h2⟩ => ⟨kvs, p, qs, e1, e2, h1, nd, entS_fz s h2⟩⟩
instance {nm : Str} {ns : List Str} : NDS (Sh.husk nm ns) := ⟨fun _ h => h⟩
mutual
theorem Dyr.fz {K : Fr} {Z Z' : Hp} (s : FzR Z Z') : ∀ (d : PyData) (v : V), Dyr K Z v d → Dyr K Z' v d
  | .none, _, h => by cases h; exact .non
  | .bool b, _, h => by cases h; exact .bl b
  | .int i, _, h => by cases h; exact .int i
  | .str x, _, h => by cases h; exact .str x
  | .list ds, _, h => by
    cases h with
    | lst hs ha => exact .lst (s.l hs) (DyrAll.fz s ds _ ha)
  | .tuple ds, _, h => by
    cases h with
    | tup hs ha => exact .tup (s.t hs) (DyrAll.fz s ds _ ha)
  | .dict _, _, h => by cases h
theorem DyrAll.fz {K : Fr} {Z Z' : Hp} (s : FzR Z Z') : ∀ (ds : List PyData) (vs : List V), DyrAll K Z vs ds → DyrAll K Z' vs ds
  | [], _, h => by cases h; exact .nil
  | d :: ds, _, h => by
    cases h with
    | cons h1 h2 => exact .cons (Dyr.fz s d _ h1) (DyrAll.fz s ds _ h2)
end
instance : ND PyData := ⟨fun s h => Dyr.fz s _ _ h⟩
class NDSL {β : Type} (T : ShL β) : Prop where
  fz : ∀ {K : Fr} {Z Z' H : Hp} {vs : List V} {ps : List Addr} {b : β}, FzR Z Z' → T.R K Z H vs ps b → T.R K Z' H vs ps b
instance : NDSL ShL.nil := ⟨fun _ h => h⟩
instance {α β : Type} {S : Sh α} {T : ShL β} [NDS S] [NDSL T] : NDSL (ShL.cons S T) := ⟨fun s ⟨v, ws, qs, rs, e1, e2, h1, h2⟩ => ⟨v, ws, qs, rs, e1, e2, NDS.fz s h1, NDSL.fz s h2⟩⟩
/-! ### sorted(d), keys texts -/
def rSortDSQ : List V → Hp → VK → Prop := fun xs H Q => ∃ (a : Addr) (kvs : List (Key × V)) (ks : List Str), xs = [.ref a] ∧ Rd H a (.dK kvs) ∧ kvs.map (·.1) = ks.map Sum.inr ∧ ks.length < 64 ∧ ∀ ys p, ys.Perm ks → sortedS ys = true → H p = none → Q (.ref p) (upd H p (.lst (ys.map V.str)))
end Cd

set_option Elab.async false
set_option linter.all false
set_option maxRecDepth 100000
set_option maxHeartbeats 4000000
namespace Cd
open PySem L2 PyProof.Rows
/-! ### a dict of one's own, locked while it is walked -/
section
variable {κ α : Type} [Sc κ] [DecidableEq κ] [Kt κ] [Py α] {K : Fr} {Z0 H0 Z H Z' H' : Hp} {G : List Rt} {d : Addr} {m : Dct κ α} {kvs : List (Key × V)} {od : Obj} {u : HO}
end
end Cd
namespace Cd
end Cd
namespace Cd
open PySem L2 PyProof.Rows
/-! ### attributes in a try: K by its name -/
theorem pe_fldK {X : Cx} {K : PySem.W.Frag} {e : Expr} {ta : TE} {f : Str} {pos : Pos} (eK : X.K = K) (he : PE X e ta) (hb : attributeBase e f X.env (eval e X.env) = eval e X.env) : PE X (.Attribute e f pos) (tFld K ta f) := by
  subst eK
  exact pe_fld he hb
theorem ps_fldK {X : Cx} {K : PySem.W.Frag} {o value : Expr} {ta tv : TE} {f : Str} {pos pos' : Pos} (eK : X.K = K) (ha : PE X o ta) (hv : PE X value tv) (hs : swapsWith value (some (.Attribute o f pos')) pos.line X.env = pure false) : PS X (.Assign [.Attribute o f pos'] value pos) (sFld K ta tv f) := by
  subst eK
  exact ps_fld ha hv hs
end Cd

set_option Elab.async false
set_option linter.all false
set_option maxRecDepth 100000
set_option maxHeartbeats 4000000
namespace Cd
open PySem L2 PyProof.Rows
/-! ### data of one's own, put together -/
section
variable {K : Fr} {Z0 H0 Z H : Hp} {G : List Rt}
theorem dyTup_ex {d : PyData} (h : dyTup d = true) : ∃ ds, d = .tuple ds := by
  cases d with
  | tuple ds => exact ⟨ds, rfl⟩
  | _ => cases h
theorem dyr_all {α : Type} [Py α] [ToD α] : ∀ {xs : List V} {l : List α}, Paired (Py.R K Z) xs l → DyrAll K Z xs (l.map ToD.td)
  | _, _, .nil => .nil
  | _, _, .cons r t => .cons (ToD.tr r) (dyr_all t)
theorem Sep.pushDy {α : Type} [Py α] [ToD α] {v : V} {a : α} (h : Sep K Z0 H0 Z H G) (r : Py.R K Z v a) (g : immD (ToD.td a) = true) : Sep K Z0 H0 Z H (⟨Sh.dy, v, ToD.td a⟩ :: G) :=
  h.pushO (OwnO.dyI (ToD.tr r) g) fun _ _ _ _ _ _ _ => fun h => nomatch h
theorem dyo_row {H : Hp} : ∀ {ds : List PyData} {xs : List V} {ps : List Addr}, allR Sh.dy K Z H xs ps ds → DyoAll K Z H xs ps ds
  | [], _, _, ⟨e1, e2⟩ => by subst e1 e2; exact .nil
  | d :: r, _, _, ⟨v, ws, qs, rs, e1, e2, h1, h2⟩ => by subst e1 e2; exact .cons h1 (dyo_row h2)
theorem row_dyo {H : Hp} : ∀ {ds : List PyData} {xs : List V} {ps : List Addr}, DyoAll K Z H xs ps ds → allR Sh.dy K Z H xs ps ds
  | [], _, _, h => by cases h; exact ⟨rfl, rfl⟩
  | d :: r, _, _, h => by
    cases h with
    | cons h1 h2 => exact ⟨_, _, _, _, rfl, rfl, h1, row_dyo h2⟩
end
/-! ### data of six taken apart by a target -/
/-! ### a part of one's own data, taken out and put in again -/
def Sh.dyX (xs : List V) (n : Nat) : Sh PyData where
  R := fun K Z H v ps d => ∃ a, v = .ref a ∧ Z a = some (.tup xs) ∧ dyTup d = true ∧ allX Sh.dy K Z H n xs ps (dyItems d)
  keep := fun s h ⟨a, e1, hz, t, r⟩ => ⟨a, e1, s _ _ hz, t, allX_keep s h r⟩
  stands := fun ⟨a, e1, hz, t, r⟩ q hq => allX_stands r q hq
section
variable {K : Fr} {Z0 H0 Z H : Hp} {G : List Rt} {v : V} {d : PyData} {i : Int}
end
section
variable {K : Fr} {Z H : Hp}
mutual
theorem imm_told : ∀ (d : PyData) (v : V) (ps : List Addr), immD d = true → Dyo K Z H v ps d → ps = [] ∧ Dyr K Z v d
  | .none, _, _, _, h => by cases h; exact ⟨rfl, .non⟩
  | .bool b, _, _, _, h => by cases h; exact ⟨rfl, .bl b⟩
  | .int i, _, _, _, h => by cases h; exact ⟨rfl, .int i⟩
  | .str x, _, _, _, h => by cases h; exact ⟨rfl, .str x⟩
  | .list ds, _, _, g, h => by simp [immD] at g
  | .tuple ds, _, _, g, h => by
    cases h with
    | tup hs ha =>
      obtain ⟨e, r⟩ := immA_told ds _ _ (by simpa [immD] using g) ha
      exact ⟨e, .tup hs r⟩
  | .dict _, _, _, g, h => by cases h
theorem immA_told : ∀ (ds : List PyData) (vs : List V) (ps : List Addr), immA ds = true → DyoAll K Z H vs ps ds → ps = [] ∧ DyrAll K Z vs ds
  | [], _, _, _, h => by cases h; exact ⟨rfl, .nil⟩
  | d :: ds, _, _, g, h => by
    rw [immA, Bool.and_eq_true] at g
    cases h with
    | cons h1 h2 =>
      obtain ⟨e1, r1⟩ := imm_told d _ _ g.1 h1
      obtain ⟨e2, r2⟩ := immA_told ds _ _ g.2 h2
      subst e1 e2
      exact ⟨rfl, .cons r1 r2⟩
end
end
theorem all_pr {K : Fr} {Z : Hp} : ∀ {vs : List V} {ds : List PyData}, DyrAll K Z vs ds → Paired (Py.R K Z) vs ds
  | _, _, .nil => .nil
  | _, _, .cons h t => .cons h (all_pr t)
theorem dyLst_eq {d : PyData} (h : dyLst d = true) : d = .list (dyItems d) := by
  cases d with
  | list l => rfl
  | _ => cases h
section
variable {K : Fr} {Z0 H0 Z H : Hp} {G : List Rt} {v : V}
theorem Sep.dyL {d : PyData} (h : Sep K Z0 H0 Z H G) (i : Nat) (e : G[i]? = some ⟨Sh.dy, v, d⟩) (hd : dyLst d = true) (g : immA (dyItems d) = true) : Sep K Z0 H0 Z H (G.set i ⟨Sh.lt PyData, v, dyItems d⟩) :=
  h.wide i e fun ps r => by
    have r : Dyo K Z H v ps d := r
    rw [dyLst_eq hd] at r
    cases r with
    | lst hs ha =>
      obtain ⟨e2, r2⟩ := immA_told _ _ _ g ha
      subst e2
      exact ⟨_, _, rfl, rfl, hs, all_pr r2⟩
end
end Cd

set_option Elab.async false
set_option linter.all false
set_option maxRecDepth 100000
set_option maxHeartbeats 4000000
namespace Cd
open PySem L2 PyProof.Rows
/-! ### sum(xs), xs.index(x), a list of one's own things emptied -/
section
variable {K : Fr} {Z H : Hp} {Q : VK} {v : V}
end
/-! data that are no lists -/
end Cd

set_option Elab.async false
set_option linter.all false
set_option maxRecDepth 100000
set_option maxHeartbeats 4000000
namespace Cd
open PySem L2 PyProof.Rows
/-! ### while, the test of which changes the state -/
def whS {S : Type} (c : S → R (S × Bool)) (f : S → R S) : Nat → S → R S
  | 0, _ => .bad
  | n + 1, s => (c s).bind fun t => if t.2 = true then (f t.1).bind fun s' => whS c f n s' else .ok t.1
section
variable {S : Type} {W : S → Prop} {E : Er → Prop}
theorem Good.whS {c : S → R (S × Bool)} {f : S → R S} {n : Nat} {s : S} (h : Good (whS c f (n + 1) s) W E) : ∃ W' : S × Bool → Prop, Good (c s) W' E ∧ (∀ t, W' (t, true) → ∃ W2 : S → Prop, Good (f t) W2 E ∧ ∀ s', W2 s' → Good (Cd.whS c f n s') W E) ∧ ∀ t, W' (t, false) → W t :=
  ⟨_, Good.bnd h, fun t h => ⟨_, Good.bnd (Good.ifT rfl h), fun _ h => h⟩, fun t h => Good.ifF (fun e => nomatch e) h⟩
theorem Yes.whS {c : S → R (S × Bool)} {f : S → R S} {s : S} (I : S → Prop) (mu : S → Nat) (h0 : I s) (hc : ∀ s, I s → Yes (c s) fun t => if t.2 = true then Yes (f t.1) (fun s' => I s' ∧ mu s' < mu s) else W t.1) {n : Nat} (hn : mu s < n) : Yes (Cd.whS c f n s) W := by
  induction n generalizing s with
  | zero => omega
  | succ n ih =>
    refine Yes.bind (hc s h0) fun t ht => ?_
    obtain ⟨t, b⟩ := t
    cases b with
    | false => exact ⟨_, rfl, ht⟩
    | true => exact Yes.bind (P := fun s' => I s' ∧ mu s' < mu s) ht fun s' h' => ih h'.1 (by omega)
end
end Cd

set_option Elab.async false
set_option linter.all false
set_option maxRecDepth 100000
set_option maxHeartbeats 4000000
namespace Cd
open PySem L2 PyProof.Rows
/-! ### d.pop(k) of a dict of one's own -/
def rDPopQ (a : Addr) : V → Hp → VK → Prop := fun y H Q => ∃ (kvs : List (Key × V)) (k : Key) (v : V), H a = some (.dK kvs) ∧ y = kV k ∧ valV kvs k = some v ∧ Q v (upd H a (.dK (dropK kvs k)))
def tDPopQ (td ty : TE) : TE := fun σ H Q => td σ H fun x H1 => rIsD x H1 fun a => ty σ H1 fun y H2 => rDPopQ a y H2 Q
section
variable {κ α : Type} [Sc κ] [DecidableEq κ] [Kt κ] [Py α] {K : Fr} {Z H Z0 H0 Z' H' : Hp} {Q : VK}
end
/-! ### refusals that bear nothing -/
def NPay : Er → Prop
  | .NoOrder _ _ => False
  | .Meet _ _ => False
  | _ => True
/-- a refusal that bears something is not looked for -/
def R.np {α : Type} (m : R α) : R α := match m with
  | .ex (.NoOrder _ _) => .bad
  | .ex (.Meet _ _) => .bad
  | m => m
@[simp] theorem R.np_ok {α : Type} (a : α) : (R.ok a).np = .ok a := rfl
theorem Good.np {α : Type} {m : R α} {W : α → Prop} {E : Er → Prop} (h : Good m.np W E) : Good m W (fun e => E e ∧ NPay e) := by
  cases m with
  | ok a => exact h
  | bad => exact h
  | ex e => cases e <;> first | exact ⟨h, trivial⟩ | exact h.elim
theorem ExR.np {ca : CA} {K : Fr} {Z H Z' H' : Hp} {e : Er} {c : Value} {d : Option Addr} (n : NPay e) (h : ExR ca K Z H e c d) : ExR ca K Z' H' e c d := by
  cases e <;> first | exact h | exact n.elim
/-! ### a token is out behind a test with a written number or text -/
def PTk (X : Cx) (e : Expr) (t : TT) : Prop := ∀ (pins : List (Addr × Obj)) (s : Shared) (σ : L2.St) (H : Hp) (Q : Bool → Hp → Prop), Inv X pins σ H s → t σ H Q → wpAny (model X.prog X.w) X.A (isTrue e X.env (eval e X.env)) (fun b s1 => 1 ≤ s1.toks ∧ TP X pins σ Q b s1) X.xe s
section
variable {X : Cx} {a b : Expr} {ta tb : TE} {pos : Pos}
end
section
variable {X : Cx} {CX : CXT} {x : Str} {k : Nat} {ps : List Str} {sp : Sp} {E : XK} {t : TA} {e o : Expr} {es : List Expr} {to : TE} {p pos apos cpos : Pos} {T id : String} {name : Str} {r : V → List V → Hp → VK → Prop}
end
end Cd

set_option Elab.async false
set_option linter.all false
set_option maxRecDepth 100000
set_option maxHeartbeats 4000000
namespace Cd
open PySem L2 PyProof.Rows
open PySem.SeqAt (EqAt EqIn)
/-! ### == of pairs that hold a dict -/
section
variable {κ α β : Type} [Sc κ] [DecidableEq κ] [Kt κ] [Py α] [EqA α] [Py β] [EqA β]
theorem dGet_ofN {κ α : Type} [DecidableEq κ] {m : List (κ × α)} (nd : (m.map (·.1)).Nodup) {k : κ} {a : α} (h : (k, a) ∈ m) : dGet m k = some a := by
  induction m with
  | nil => cases h
  | cons p r ih =>
    rw [List.map_cons, List.nodup_cons] at nd
    rcases List.mem_cons.mp h with rfl | h
    · exact dGet_pos rfl
    · rw [dGet_neg (fun e => nd.1 (by rw [e]; exact List.mem_map_of_mem (f := (·.1)) h))]
      exact ih nd.2 h
theorem ent_both {K : Fr} {H : Hp} : ∀ {ks : List (Key × V)} {m n : List (κ × α)}, Paired (EntK K H) ks m → Paired (EntK K H) ks n → n.map (·.1) = m.map (·.1) ∧ ∀ p ∈ m, ∃ b, (p.1, b) ∈ n ∧ EqA.eqd p.2 b = true
  | _, _, _, .nil, .nil => ⟨rfl, fun _ h => nomatch h⟩
  | _, p :: m, q :: n, .cons r t, .cons r2 t2 => by
    obtain ⟨e1, e2⟩ := ent_both t t2
    have e : p.1 = q.1 := Kt.inj (r.1.symm.trans r2.1)
    refine ⟨by rw [List.map_cons, List.map_cons, e1, e], fun x hx => ?_⟩
    rcases List.mem_cons.mp hx with rfl | hx
    · exact ⟨q.2, by rw [e]; exact List.mem_cons_self, EqA.same r.2 r2.2⟩
    · obtain ⟨b, h1, h2⟩ := e2 x hx
      exact ⟨b, List.mem_cons_of_mem _ h1, h2⟩
theorem eqDs_same {K : Fr} {H : Hp} {ks : List (Key × V)} {m n : Dct κ α} (pa : Paired (EntK K H) ks m.kv) (pb : Paired (EntK K H) ks n.kv) (nd : (ks.map (·.1)).Nodup) : eqDs m n = true := by
  obtain ⟨e1, e2⟩ := ent_both pa pb
  have nk : (n.kv.map (·.1)).Nodup := by
    have := ent_keys pb
    rw [this] at nd
    rw [show (n.kv.map fun q => Kt.key q.1) = (n.kv.map (·.1)).map Kt.key by rw [List.map_map]; rfl] at nd
    exact (List.pairwise_map.mp nd).imp fun h e => h (by rw [e])
  unfold eqDs
  rw [Bool.and_eq_true, beq_iff_eq, List.all_eq_true]
  refine ⟨by rw [← pa.pLen, ← pb.pLen], fun p hp => ?_⟩
  obtain ⟨b, h1, h2⟩ := e2 p hp
  rw [dGet_ofN nk h1]; exact h2
theorem hitsDIn {X : Cx} {pins : List (Addr × Obj)} {σ : L2.St} {H : Hp} {s : Shared} {A : Around} (I : Inv X pins σ H s) (hu : A.units + EqA.dep α < cLine) {n : List (κ × α)} {kb : List (Key × V)} {vb : List (Key × Value)} (pb : Paired (EntK X.K H) kb n) (rb : KV kb vb) :
    ∀ {m : List (κ × α)} {ka : List (Key × V)} {va : List (Key × Value)}, Paired (EntK X.K H) ka m → KV ka va → PySem.W.KeqHitsIn X.prog X.w A s vb va (m.all fun p => match dGet n p.1 with | none => false | some b => EqA.eqd p.2 b)
  | _, _, _, .nil, .nil => .nil
  | _, _, (key, v) :: r, .cons (b := q) e t, .cons h t2 => by
    have e1 : Kt.key q.1 = key := e.1.symm.trans h.1
    rw [List.all_cons]
    have rr := rb.val key
    rw [← e1] at rr ⊢
    rcases ent_get q.1 pb with ⟨h1, h2⟩ | ⟨w, a, h1, h2, h3⟩
    · rw [h2]
      dsimp only
      rw [Bool.false_and]
      rw [h1] at rr
      refine .miss ?_
      cases hv : valueAt vb (Kt.key q.1) with
      | none => rfl
      | some y => rw [hv] at rr; exact rr.elim
    · rw [h2]
      dsimp only
      rw [h1] at rr
      obtain ⟨y, hy, ry⟩ := rr.some_of
      exact .hit hy ((EqA.at_ I e.2 h3 h.2 ry hu).inModel _ _) (hitsDIn I hu pb rb t t2)
/-- == alone -/
class EqE (α : Type) [Py α] where
  eqe : α → α → Bool
  dpe : Nat
  cmp : ∀ {X : Cx} {pins : List (Addr × Obj)} {σ : L2.St} {H : Hp} {s : Shared} {x y : V} {v u : Value} {a b : α} {A : Around}, Inv X pins σ H s → Py.R X.K H x a → Py.R X.K H y b → RelV x v → RelV y u → A.units + dpe < cLine →
    ∀ (E Q : Value → Shared → Prop), Q (.bool (eqe a b)) s → wpAny (model X.prog X.w) A (compareOp .Eq v u) Q E s
theorem kv_keys : ∀ {ka : List (Key × V)} {va : List (Key × Value)}, KV ka va → ka.map (·.1) = va.map (·.1)
  | _, _, .nil => rfl
  | _, _, .cons h t => by
    have ih := kv_keys t
    obtain ⟨h, _⟩ := h
    simp only [List.map_cons, ih, h]
theorem dict_in {X : Cx} {pins : List (Addr × Obj)} {σ : L2.St} {H : Hp} {s : Shared} {A : Around} {x y : V} {v u : Value} {a b : Dct κ α} (I : Inv X pins σ H s) (hx : Py.R X.K H x a) (hy : Py.R X.K H y b) (rx : RelV x v) (ry : RelV y u) (hu : A.units + (EqA.dep α + 1) < cLine) : EqIn X.prog X.w A s v u (eqDs a b) := by
  obtain ⟨p, ka, rfl, hp, h1⟩ := hx
  obtain ⟨q, kb, rfl, hq, h2⟩ := hy
  cases (show v = Value.ref p from rx); cases (show u = Value.ref q from ry)
  obtain ⟨_, ya, va, ra, da⟩ := (show ObjOk X.prog X.w H s.heap p (.dK ka) from I.hok p _ hp)
  obtain ⟨_, yb, vb, rb, db⟩ := (show ObjOk X.prog X.w H s.heap q (.dK kb) from I.hok q _ hq)
  by_cases e : p = q
  · subst e
    rw [hp] at hq; cases hq
    have nd : (ka.map (·.1)).Nodup := by
      obtain ⟨_, _, _, _, _, _, _, _, nd⟩ := da
      have : ka.map (·.1) = va.map (·.1) := by
        exact kv_keys ra
      rw [this]; exact nd
    rw [eqDs_same h1 h2 nd]
    exact (SeqAt.EqAt.same _).inModel _ _
  · have hits := hitsDIn (A := A.in1) I (by show A.units + 1 + _ < cLine; omega) h2 rb h1 ra
    have la : va.length = a.kv.length := by rw [← ra.length]; exact h1.pLen
    have lb : vb.length = b.kv.length := by rw [← rb.length]; exact h2.pLen
    refine SeqAt.EqIn.of_refs e fun E Q hQ => PySem.W.keq_eqIn (knd := mixKind X.prog X.w) ya yb da db (by omega) (fun _ => hits) ?_
    rw [la, lb]; exact hQ
theorem pair_eq {X : Cx} {pins : List (Addr × Obj)} {σ : L2.St} {H : Hp} {s : Shared} {x y : V} {v u : Value} {a b : Dct κ α × β} {A : Around} (I : Inv X pins σ H s) (hx : Py.R X.K H x a) (hy : Py.R X.K H y b) (rx : RelV x v) (ry : RelV y u) (hu : A.units + (max (EqA.dep α + 1) (EqA.dep β) + 1) < cLine)
    (E Q : Value → Shared → Prop) (hQ : Q (.bool (eqDs a.1 b.1 && EqA.eqd a.2 b.2)) s) : wpAny (model X.prog X.w) A (compareOp .Eq v u) Q E s := by
  obtain ⟨p, y0, y1, rfl, hp, h0, h1⟩ := hx
  obtain ⟨q, z0, z1, rfl, hq, k0, k1⟩ := hy
  cases (show v = Value.ref p from rx); cases (show u = Value.ref q from ry)
  obtain ⟨us, r1, p1, _⟩ := I.tuple (SqT.of hp)
  obtain ⟨ws, r2, p2, _⟩ := I.tuple (SqT.of hq)
  obtain ⟨u0, u1, rfl, a0, a1⟩ := vals2 r1
  obtain ⟨w0, w1, rfl, b0, b1⟩ := vals2 r2
  have e0 := dict_in (A := A.in1) I h0 k0 a0 b0 (by show A.units + 1 + _ < cLine; omega)
  have e1 := (EqA.at_ (A := A.in1) I h1 k1 a1 b1 (by show A.units + 1 + _ < cLine; omega)).inModel X.prog X.w
  refine SeqAt.rcIn_tuples (e := fun j => if j = 0 then eqDs a.1 b.1 else EqA.eqd a.2 b.2) p1 p2 (by omega) (fun j g1 g2 => ?_) ?_
  · have hj : j = 0 ∨ j = 1 := by simp at g1; omega
    rcases hj with rfl | rfl
    · exact e0
    · exact e1
  · have : ((List.range (min [u0, u1].toArray.size [w0, w1].toArray.size)).all (fun j => if j = 0 then eqDs a.1 b.1 else EqA.eqd a.2 b.2) && [u0, u1].toArray.size == [w0, w1].toArray.size) = (eqDs a.1 b.1 && EqA.eqd a.2 b.2) := by
      show ((List.range 2).all _ && _) = _
      simp [List.range_succ]
    rw [this]; exact hQ
instance : EqE (Dct κ α × β) where
  eqe a b := eqDs a.1 b.1 && EqA.eqd a.2 b.2
  dpe := max (EqA.dep α + 1) (EqA.dep β) + 1
  cmp := fun I hx hy rx ry hu E Q hQ => pair_eq I hx hy rx ry hu E Q hQ
instance : EqE (Option (Dct κ α × β)) where
  eqe a b := match a, b with
    | none, none => true
    | some a, some b => eqDs a.1 b.1 && EqA.eqd a.2 b.2
    | _, _ => false
  dpe := max (EqA.dep α + 1) (EqA.dep β) + 1
  cmp := fun {X pins σ H s x y v u a b A} I hx hy rx ry hu E Q hQ => by
    cases a with
    | none =>
      cases (show x = V.non from hx); cases (show v = Value.none from rx)
      cases b with
      | none => cases (show y = V.non from hy); cases (show u = Value.none from ry); exact (EqA.cmp (α := Unit) (A := A) (a := ()) (b := ()) I rfl rfl rfl rfl (by show A.units + 0 < cLine; omega)).1 _ _ E Q hQ
      | some b => exact (NnA.nn (α := Dct κ α × β) (a := b) I hy ry (by omega)).1.1.1 _ _ E Q hQ
    | some a =>
      cases b with
      | none => cases (show y = V.non from hy); cases (show u = Value.none from ry); exact (NnA.nn (α := Dct κ α × β) (a := a) I hx rx (by omega)).1.2.1 _ _ E Q hQ
      | some b => exact pair_eq (a := a) (b := b) I hx hy rx ry hu E Q hQ
end
/-! ### (a, b) + t[2:] of a tuple of two or three -/
section
variable {K : Fr} {Z H Z0 H0 : Hp} {Q : VK} {α β γ : Type} [Py α] [Py β] [Py γ]
end
end Cd

set_option Elab.async false
set_option linter.all false
set_option maxRecDepth 100000
set_option maxHeartbeats 4000000
namespace Cd
open PySem L2
/-! ### a walk that may be broken off -/
section
variable {γ : Type} {J : It} {g : TG} {tb : TS} {D : Ends} {σ : L2.St} {H Z : Hp} {L : List γ} {Y : γ → V → Hp → Hp → Prop}
end
section
variable {X : Cx} {e f : Expr} {te tf : TE} {pos : Pos}
end
end Cd

set_option Elab.async false
set_option linter.all false
set_option maxRecDepth 100000
set_option maxHeartbeats 4000000
namespace Cd
open PySem L2
/-! ### isinstance of a refusal, and a tuple of classes -/
structure CV where
  v : V
instance : Inhabited CV := ⟨⟨.non⟩⟩
instance : Py CV := ⟨fun _ _ v a => v = a.v, fun _ h => h⟩
def rIsExT (K : Fr) (cls : Value) (d : Option Addr) (a : Addr) : List V → Hp → VK → Prop := fun xs H Q => ∃ (D tp : Addr) (cs : List V) (us : List Value) (b : Bool), cls = .ref D ∧ (d = none ∨ ∃ dd fs, d = some dd ∧ H dd = some (.xd fs)) ∧ ExcC K D ∧ xs = [.ref a, .ref tp] ∧ H tp = some (.tup cs) ∧ Paired ClsV cs us ∧ PySem.W.kitAny K (.ref D) us = some b ∧ Q (.bl b) H
end Cd

set_option Elab.async false
set_option linter.all false
set_option maxRecDepth 100000
set_option maxHeartbeats 4000000
namespace Cd
open PySem L2
/-! ### own dicts of told things: a thing taken out and kept; a text where there is none -/
section
variable {κ α : Type} [Sc κ] [DecidableEq κ] [Kt κ] [Py α] [Inhabited α] {K : Fr} {Z H H0 : Hp} {Q : VK}
end
end Cd

set_option Elab.async false
set_option linter.all false
set_option maxRecDepth 100000
set_option maxHeartbeats 4000000
/-! ### lists walked, tuples taken apart, while a refusal is held -/
namespace HotX
open PySem PySem.Spec PyProof.Rows
section
variable {prog : Program} {w : World} {A : Around} {E : Value → Shared → Prop} {s : Shared}
theorem HotAt.kept {x1 : Addr} {h h' : Heap} (hot : HotAt A x1 h) (k : ∀ o, h.get? x1 = some o → h'.get? x1 = some o) : HotAt A x1 h' := by
  obtain ⟨hh, o, vs, h1, d, c⟩ := hot
  exact ⟨hh, o, vs, k o h1, d, c⟩
theorem HotAt.lt {x1 : Addr} {h : Heap} (hot : HotAt A x1 h) : x1 < h.objs.size := by
  obtain ⟨_, o, vs, h1, _, _⟩ := hot
  exact Heap.lt_size h1
end
end HotX
namespace L2
open PySem PySem.Spec PyProof.Rows HotX L2H
section
variable {X : Cx} {pos : Pos}
end
end L2

set_option Elab.async false
set_option linter.all false
set_option maxRecDepth 100000
set_option maxHeartbeats 4000000
/-! ### lambdas with a parameter and a captured name -/
namespace LamP
open PySem PySem.Spec PyProof.Rows L2
section
variable {M : Model} {A : Around} {E : Value → Shared → Prop} {s : Shared}
end
/-- the context of a lambda's body: its parameter x, the captured name y (at cy) -/
abbrev lenv (qual : Str) (scope : Scope) (L f c' : Addr) (x y : Str) (cy : Addr) : Env := PySem.W.envX qual scope L f (.ref c') ((x, L + 1) :: [(y, cy)])
def lcx (CX : CXT) (P : Program) (w : World) (K : PySem.W.Frag) (mg : Str → Option Value) (base : Heap) (N : List Str) (qual : Str) (scope : Scope) (x y : Str) (cy f c' : Addr) (A : Around) (outer : List Env) (s : Shared) (H : Hp) (E : XK) : Cx where
  prog := P
  w := w
  K := K
  mg := mg
  base := base
  A := A.deeper (lenv qual scope s.heap.objs.size f c' x y cy)
  N := N
  s_0 := s
  H_0 := H
  env := lenv qual scope s.heap.objs.size f c' x y cy
  outer := outer
  stack := lenv qual scope s.heap.objs.size f c' x y cy :: outer
  ex := []
  calm := true
  fn := fun _ => false
  pn := []
  xe := fun e s' => wpAny (model P w) (A.deeper (lenv qual scope s.heap.objs.size f c' x y cy)) (leaving (lenv qual scope s.heap.objs.size f c' x y cy) e) (fun _ s'' => CX outer H s E e s'') (fun e' s'' => CX outer H s E e' s'') s'
/-- the lambda's own names: x a cell, y captured -/
structure LScope (N : List Str) (x y : Str) (sc : Scope) : Prop where
  kind : sc.kind = .function
  co : sc.isCoroutine = false
  gen : sc.isGenerator = false
  nd : N.Nodup
  pre : N.take 2 = [x, y]
  names : sc.names = [(x, .cell), (y, .free)]
section
variable {CX : CXT} {P : Program} {w : World} {K : PySem.W.Frag} {mg : Str → Option Value} {base : Heap} {N : List Str} {qual : Str} {scope : Scope} {x y : Str} {cy f c' : Addr} {A : Around} {outer : List Env} {s : Shared} {H : Hp} {E : XK} {u uw : Value} {v vw : V}
theorem LScope.ne (S : LScope N x y scope) : x ≠ y := fun e => by
  have q := S.nd.sublist (List.take_sublist 2 N)
  rw [S.pre, e] at q
  simp at q
def startL (N : List Str) (v vw : V) : L2.St := some v :: some vw :: List.replicate (N.length - 2) none
end
end LamP

set_option Elab.async false
set_option linter.all false
set_option maxRecDepth 100000
set_option maxHeartbeats 4000000
/-! ### sorted by keys that are lists -/
namespace LamP
open PySem PySem.Spec PyProof.Rows PySem.Calls L2
/-- between two calls of the key -/
def Mid (X : Cx) (H : Hp) (s : Shared) (H1 : Hp) (s1 : Shared) : Prop := s1.os = s.os ∧ AllBare s1.gens ∧ Un (frs X.stack) [] H H1 s.heap s1.heap ∧ HOk X.prog X.w H1 s1.heap
section
variable {X : Cx} {pins : List (Addr × Obj)} {σ : L2.St} {H H1 H2 : Hp} {s s1 s2 : Shared}
theorem Mid.start (I : Inv X pins σ H s) : Mid X H s H s := ⟨rfl, I.bare, Un.refl, I.hok⟩
theorem Mid.far {q : Addr} {h' : Heap} {tk : Nat} (m : Mid X H s H1 s1) (k : ∀ b o, b ≠ q → s1.heap.get? b = some o → h'.get? b = some o) (hq : s.heap.get? q = none) (h1 : H1 q = none) : Mid X H s H1 { s1 with heap := h', toks := tk } := by
  obtain ⟨a, b, u, ok⟩ := m
  have ne : ∀ {c o}, s.heap.get? c = some o → c ≠ q := fun e z => by rw [z, hq] at e; cases e
  have nH : ∀ {c o}, H1 c = some o → c ≠ q := fun e z => by rw [z, h1] at e; cases e
  refine ⟨a, b, ⟨fun c o e n hc hx => k c o (ne e) (u.keep c o e n hc hx), fun c o e n hc hx => ?_, u.free, fun c o e hx => ?_, u.tups, u.frzs, u.tbls⟩, fun c o e => ?_⟩
  · obtain ⟨sl, q⟩ := u.slot c o e n hc hx
    exact ⟨sl, k _ _ (ne e) q⟩
  · obtain ⟨o', q⟩ := u.there c o e hx
    exact ⟨o', k _ _ (ne e) q⟩
  · refine (ok c o e).stay (fun d v hd z => k d v ?_ z) (fun _ z => z) fun _ _ z => z
    rcases hd with z | z
    · rw [z]; exact nH e
    · exact nH z
theorem Mid.call {Q : VK} {u : Value} (m : Mid X H s H1 s1) (c : CE X.stack X.prog X.w H1 s1 Q u s2) : ∃ v H2, Mid X H s H2 s2 ∧ Un (frs X.stack) [] H1 H2 s1.heap s2.heap ∧ RelV v u ∧ Q v H2 := by
  obtain ⟨v, H2, os, bare, un, hok, r, q⟩ := c
  exact ⟨v, H2, ⟨os.trans m.1, bare, m.2.2.1.trans un, hok⟩, un, r, q⟩
end
section
variable {X : Cx} {pins : List (Addr × Obj)} {σ : L2.St} {H : Hp} {s : Shared} {a kS : Addr} {vs : List Value} {e1 : Nat} {P : PySem.Fin → Shared → Prop} {E : Value → Shared → Prop} {kz : List PyData} {A : Around}
end
section
variable {X : Cx} {pins : List (Addr × Obj)} {σ : L2.St} {H : Hp} {s : Shared} {Q : VK}
end
end LamP

set_option Elab.async false
set_option linter.all false
set_option maxRecDepth 100000
set_option maxHeartbeats 4000000
/-! ### the lambda is made: its def's table of code objects is one's own -/
namespace LamP
open PySem PySem.Spec PyProof.Rows PySem.Calls L2 LamX
section
variable {X : Cx} {pins : List (Addr × Obj)} {σ : L2.St} {H : Hp} {s : Shared}
/-- what the making does to what is tracked -/
def Made (P c' : Addr) (q : Str) (H H1 : Hp) : Prop := (H1 = H ∧ H c' = some (CodeO c' q)) ∨ ∃ (ps : Array Value) (t1 t2 : Value), H P = some (.tbl ps) ∧ H c' = none ∧ H1 = upd (upd H P (.tbl (ps ++ #[t1, t2, .ref c']))) c' (CodeO c' q) ∧ TriplesOk (ps ++ #[t1, t2, .ref c']).toList ∧
  ∀ (pos : Pos) (cv : Value), codeAmong pos (ps ++ #[t1, t2, .ref c']).toList = some cv → codeAmong pos ps.toList = some cv ∨ cv = .ref c'
end
/-- what the lambda promises of its parameter and the captured name -/
structure LamOk (P : Program) (w : World) (K : PySem.W.Frag) (mg : Str → Option Value) (base : Heap) (k : Nat) (body : Expr) (N : List Str) (qual : Str) (scope : Scope) (x y : Str) (sp : Sp) : Prop where
  run : ∀ (cy f c' : Addr) (A : Around) (outer : List Env) (s : Shared) (H : Hp) (v vw : V) (Q : VK), Room k (A.deeper (lenv qual scope s.heap.objs.size f c' x y cy)) → sp [v, vw] H Q C8.E0 →
    ∃ te, PE (lcx C8.CX0 P w K mg base N qual scope x y cy f c' A outer s H C8.E0) body te ∧ te (startL N v vw) H Q
/-- sorted(xs, key=lambda x: ..) of texts, y captured -/
def tSortL (K : PySem.W.Frag) (P : Addr) (q : Str) (jy : Nat) (sp : Sp) (ta : TA) : TE := fun σ H Q => ta σ H fun vs H1 => ∃ (l : Addr) (bs : List Str) (vw : V) (κ : Str → PyData), vs = [.ref l] ∧ SqL K H1 l (bs.map V.str) ∧ σ[jy]? = some (some vw) ∧ TabS H1 P q ∧
  PySem.W.AllAlike (bs.map κ) ∧ PySem.W.Sortable (bs.map κ) ∧ (∀ d ∈ bs.map κ, d.depth ≤ 8) ∧ ∀ (c' : Addr) (H2 : Hp), Made P c' q H1 H2 → ∃ J : List V → Hp → Prop, J [] H2 ∧ (∀ ws H3, J ws H3 → Same H2 H3) ∧
    (∀ (i : Nat) (b : Str) (ws : List V) (H3 : Hp), bs[i]? = some b → ws.length = i → J ws H3 → sp [.str b, vw] H3 (fun w H4 => J (ws ++ [w]) H4) C8.E0) ∧
    (∀ ws H3, ws.length = bs.length → J ws H3 → PySem.W.EachIs (fun w d => Dp K H3 w d) ws (bs.map κ)) ∧
    ∀ ws H3 p, ws.length = bs.length → J ws H3 → H3 p = none → Q (.ref p) (upd H3 p (.lst ((bs.mergeSort (PySem.W.dataLe false κ)).map V.str)))
section
variable {X : Cx} {e : Expr} {ta : TA} {c P : Addr} {k : Nat} {params : Arguments} {body : Expr} {scope : Scope} {N : List Str} {x y q : Str} {cy jy : Nat} {sp : Sp} {p pos lpos kpos : Pos}
end
end LamP

set_option Elab.async false
set_option linter.all false
set_option maxRecDepth 100000
set_option maxHeartbeats 4000000
/-! ### sorted by lambdas, at the ghost's level -/
namespace Cd
open PySem L2 LamX LamP
/-- a def's own table of code objects, all of one name -/
def Sh.tab (q : Str) : Sh Unit where
  R := fun _ Z H v ps _ => ∃ (P : Addr) (tb : Array Value), v = .ref P ∧ ps = [P] ∧ H P = some (.tbl tb) ∧ TriplesOk tb.toList ∧ ∀ (pos : Pos) (cv : Value), codeAmong pos tb.toList = some cv → ∃ c, cv = .ref c ∧ Z c = some (CodeO c q)
  keep := fun s hk ⟨P, tb, e1, e2, e3, e4, e5⟩ => ⟨P, tb, e1, e2, (hk P (by rw [e2]; simp)).trans e3, e4, fun pos cv h => let ⟨c, a, b⟩ := e5 pos cv h; ⟨c, a, s _ _ b⟩⟩
  stands := fun ⟨P, tb, e1, e2, e3, _⟩ p hp => by
    rw [e2, List.mem_singleton] at hp
    exact ⟨_, by rw [hp]; exact e3⟩
instance (q : Str) : IsRef (Sh.tab q) := ⟨fun ⟨P, _, e, _⟩ => ⟨P, e⟩⟩
/-- what an answer is -/
def R.isok {α : Type} : R α → Prop
  | .ok _ => True
  | _ => False
def R.val {α : Type} [Inhabited α] : R α → α
  | .ok a => a
  | _ => default
/-- data that can be compared, place by place -/
class AlkB (β : Type) [Py β] [DecidableEq β] [PyD β] : Prop where
  alk : ∀ a b : β, PySem.W.alike (PyD.d a) (PyD.d b) = true
instance : AlkB Int := ⟨fun _ _ => rfl⟩
instance : AlkB Str := ⟨fun _ _ => rfl⟩
/-- texts in order by lists -/
def sortLD {β : Type} [Py β] [DecidableEq β] [PyD β] (key : Str → List β) (l : List Str) : List Str := l.mergeSort (PySem.W.dataLe false fun b => PyD.d (key b))
def rSortL (K : Fr) (P : Addr) (q : Str) (jy : Nat) (sp : Sp) (σ : L2.St) : List V → Hp → VK → Prop := fun vs H1 Q => ∃ (l : Addr) (bs : List Str) (vw : V) (κ : Str → PyData), vs = [.ref l] ∧ SqL K H1 l (bs.map V.str) ∧ σ[jy]? = some (some vw) ∧ TabS H1 P q ∧
  PySem.W.AllAlike (bs.map κ) ∧ PySem.W.Sortable (bs.map κ) ∧ (∀ d ∈ bs.map κ, d.depth ≤ 8) ∧ ∀ (c' : Addr) (H2 : Hp), Made P c' q H1 H2 → ∃ J : List V → Hp → Prop, J [] H2 ∧ (∀ ws H3, J ws H3 → Same H2 H3) ∧
    (∀ (i : Nat) (b : Str) (ws : List V) (H3 : Hp), bs[i]? = some b → ws.length = i → J ws H3 → sp [.str b, vw] H3 (fun w H4 => J (ws ++ [w]) H4) C8.E0) ∧
    (∀ ws H3, ws.length = bs.length → J ws H3 → PySem.W.EachIs (fun w d => Dp K H3 w d) ws (bs.map κ)) ∧
    ∀ ws H3 p, ws.length = bs.length → J ws H3 → H3 p = none → Q (.ref p) (upd H3 p (.lst ((bs.mergeSort (PySem.W.dataLe false κ)).map V.str)))
def tSortLQ (K : Fr) (P : Addr) (q : Str) (jy : Nat) (sp : Sp) (ta : TA) : TE := fun σ H Q => ta σ H fun vs H1 => rSortL K P q jy sp σ vs H1 Q
section
variable {β : Type} [Py β] [DecidableEq β] [PyD β] [AlkB β] {K : Fr} {Z0 H0 Z H : Hp} {G : List Rt} {Q : VK}
end
section
variable {X : Cx} {e : Expr} {ta : TA} {c P : Addr} {k : Nat} {params : Arguments} {body : Expr} {scope : Scope} {N : List Str} {x y q : Str} {jy : Nat} {sp : Sp} {p pos lpos kpos : Pos} {K : Fr}
end
end Cd

set_option Elab.async false
set_option linter.all false
set_option maxRecDepth 100000
set_option maxHeartbeats 4000000
/-! ### defs with a lambda; the end of a law with tables of code objects -/
namespace Cd
open PySem L2 LamX LamP PyProof.Rows
section
variable {β : Type} [Py β] [DecidableEq β] [PyD β] [AlkB β] {K : Fr} {Z0 H0 Z H : Hp} {G : List Rt} {Q : VK}
end
/-- the lambda of a def that is one return of a call -/
def lamOf (st : Stmt) : Expr := match defBody st with
  | [.Return (some (.Call _ _ [⟨_, l, _⟩] _)) _] => l
  | _ => .Constant .none 0 ⟨0, 0, 0, 0⟩
def lamBody (st : Stmt) : Expr := match lamOf st with
  | .Lambda _ b _ _ => b
  | e => e
def lamSc (st : Stmt) : Scope := match lamOf st with
  | .Lambda _ _ s _ => s
  | _ => defScope st
section
variable {P : Program} {w : World} {K : Fr} {mg : Str → Option Value} {base : Heap}
theorem Fun.code {x qual : Str} {st : Stmt} {fd : FuncData} {p : He.Defn} (F : Fun K x qual st (He.fAd K p) fd) : fd.code = .ref (He.cT K p).1 := by
  obtain ⟨oc, od, kV, doc, pm, an, cdv, ct, osl, rfl, lk, hcd⟩ := F.ex
  obtain ⟨c, e⟩ := He.codeIn_ref hcd
  have := He.codeOf_eq lk (c := c) e
  show cdv = .ref (He.codeOf K p)
  rw [this]; exact e
end
/-! ### one look, empty tables left out -/
structure SaysBT (ok : List FaB) (fn : List He.DefD) (tf : List He.Defn) (h : Heap) (K : Fr) : Prop where
  b : SaysB ok fn K
  hd : ∀ p ∈ tf, PySem.W.codeHdIn K (He.cT K p).1 (He.cT K p).2 = true
  out : ∀ p ∈ tf, K.lookup (He.cT K p).2 = none
  empty : ∀ p ∈ tf, h.get? (He.cT K p).2 = some { cls := .none, data := .fields #[] }
def obsBT (n : Nat) (ok : List FaB) (fn : List He.DefD) (tf : List He.Defn) (g : Addr → Option Obj) : He.AlD × Bool := (obsB ok fn (He.frT g (asB g n [mainGlobals] ++ [cStatics])), He.tabsB g tf (He.frT g (asB g n [mainGlobals] ++ [cStatics])))
theorem saysBT_of {n : Nat} {ok : List FaB} {fn : List He.DefD} {tf : List He.Defn} {h : Heap} (e : obsBT n ok fn tf h.get? = (He.valD fn, true)) : SaysBT ok fn tf h (He.frT h.get? (asB h.get? n [mainGlobals] ++ [cStatics])) := by
  have e1 : obsB ok fn (He.frT h.get? (asB h.get? n [mainGlobals] ++ [cStatics])) = He.valD fn := congrArg (fun z : He.AlD × Bool => z.1) e
  have e2 : He.tabsB h.get? tf (He.frT h.get? (asB h.get? n [mainGlobals] ++ [cStatics])) = true := congrArg (fun z : He.AlD × Bool => z.2) e
  generalize hK : He.frT h.get? (asB h.get? n [mainGlobals] ++ [cStatics]) = K at *
  have key : ∀ p ∈ tf, PySem.W.codeHdIn K (He.cT K p).1 (He.cT K p).2 = true ∧ ∃ o, h.get? (He.cT K p).2 = some o ∧ He.emptyTab o = true := fun p hp => by
    obtain ⟨h3, h4⟩ := He.ba (List.all_eq_true.mp e2 p hp)
    refine ⟨h3, ?_⟩
    cases q : h.get? (He.cT K p).2 with
    | none => rw [q] at h4; cases h4
    | some o => rw [q] at h4; exact ⟨o, rfl, h4⟩
  refine ⟨e1, fun p hp => (key p hp).1, fun p hp => ?_, fun p hp => ?_⟩
  · obtain ⟨_, o, q, z⟩ := key p hp
    have := He.frT_none (as := asB h.get? n [mainGlobals] ++ [cStatics]) q z
    rw [hK] at this
    exact this
  · obtain ⟨_, o, q, z⟩ := key p hp
    rw [q, He.emptyTab_eq z]
def hookBT (n : Nat) (ok : List FaB) (fn : List He.DefD) (tf : List He.Defn) : PySem.W.Hook where
  α := He.AlD × Bool
  obs := fun s => obsBT n ok fn tf s.heap.get?
  val := fun _ => (He.valD fn, true)
  says := fun _ h => ∃ K : Fr, K.In h ∧ SaysBT ok fn tf h K
  of := fun _ _ e => ⟨_, He.frT_in, saysBT_of e⟩
  keeps := fun _ _ _ ⟨K, hK, c⟩ k => ⟨K, PySem.W.Frag.In.keeps hK k, ⟨c.b, c.hd, c.out, fun p hp => k _ _ (c.empty p hp)⟩⟩
end Cd

set_option Elab.async false
set_option linter.all false
set_option maxRecDepth 100000
set_option maxHeartbeats 4000000
/-! ### a try whose body refuses nothing -/
namespace L2
open PySem PySem.Spec PyProof.Rows PySem.HandSPX
end L2

set_option Elab.async false
set_option linter.all false
set_option maxRecDepth 100000
set_option maxHeartbeats 4000000
namespace Cd
open PySem L2
theorem sl_listK {X : Cx} {K : Fr} (e : X.K = K) : SlR X (rSlL K) := by subst e; exact sl_list
end Cd

set_option Elab.async false
set_option linter.all false
namespace Cd
open PySem L2
end Cd

set_option Elab.async false
set_option linter.all false
set_option maxRecDepth 100000
set_option maxHeartbeats 4000000
/-! ### decks put in order by keys that are lists: plain -/
namespace Cd
open PySem L2
/-! pairs of a list -/
/-! rows of numbers -/
/-! sorted by a key -/
/-- how a deck stands that was put in order: upwards, what is alike as it stood -/
def Stood (key : Str → List Int) (l : List Str) (a b : Str) : Prop := key a < key b ∨ key a = key b ∧ [a, b].Sublist l
/-! keys of cards -/
def rkN (c : Nat) : Int := (KN.idxOf c : Int)
def keyC (cols : List Int) (z : Str) : List Int := cols.map fun c => rkN (codeAt c z)
def colsT (f : Int × Int) : List Int := rangeL f.1 ((f.2 + 1) - f.1).toNat
/-- key by key -/
def unlB (keys : List (Int × Int)) (a b : Str) : Int := match keys.find? fun f => !decide (partT a f = partT b f) with
  | none => 0
  | some f => b2i (decide (codes (partT a f) < codes (partT b f))) - b2i (decide (codes (partT b f) < codes (partT a f)))
def colsAll (keys : List (Int × Int)) : List Int := (keys.map colsT).flatten
end Cd

set_option Elab.async false
set_option linter.all false
set_option maxRecDepth 100000
set_option maxHeartbeats 4000000
/-! ### the first card of each part: plain -/
namespace Cd
open PySem L2
def isFirst (deck : List Str) (f : Int × Int) (z : Str) : Bool := decide (∀ y ∈ deck, partT y f = partT z f → deck.idxOf z ≤ deck.idxOf y)
def foeStep (f : Int × Int) (s : List Str) (z : Str) : List Str := if s = [] ∨ ¬ partT z f = partT (getI s (-(1 : Int))) f then s ++ [z] else s
def foeT (f : Int × Int) (l : List Str) : List Str := l.foldl (foeStep f) []
/-! as a law tells it -/
def firstsT (deck : List Str) (f : Int × Int) : List Str := (sortD ((deck.filter (isFirst deck f)).map fun z => partT z f)).flatMap fun p => (deck.filter (isFirst deck f)).filter fun z => decide (partT z f = p)

end Cd

set_option Elab.async false
set_option linter.all false
namespace Cd
open PySem L2
def rSIdx : V → List V → Hp → VK → Prop := fun x xs H Q => ∃ a b, x = .str a ∧ xs = [.str b] ∧ 0 ≤ Txt.find a b ∧ Q (.int (Txt.find a b)) H
end Cd

set_option Elab.async false
set_option linter.all false
namespace Cd
open PySem L2
/-! ### a dict display within a part that is stepped over -/
section
variable {κ α : Type} [Sc κ] [DecidableEq κ] [Kt κ] [Py α] {K : Fr} {Z0 H0 Z H : Hp} {G : List Rt} {Q : VK} {p : Addr}
end
end Cd

set_option Elab.async false
set_option linter.all false
set_option maxRecDepth 100000
set_option maxHeartbeats 4000000
namespace Cd
open PySem L2 PyProof.Rows
/-! ### list(range(..)), named -/
def rLst2 (i j : Int) (H : Hp) (Q : VK) : Prop := RgOk i j ∧ ∀ q, H q = none → Q (.ref q) (upd H q (.lst (rgV i j)))
def tLstRgN (te : L2.St → Hp → (Int → Int → Hp → Prop) → Prop) : TE := fun σ H Q => te σ H fun a b H1 => rLst2 a b H1 Q
theorem pe_listRgN {X : Cx} {e : Expr} {te : L2.St → Hp → (Int → Int → Hp → Prop) → Prop} {p pos : Pos} (hc : X.calm = true) (hg : Gl X "list") (hm : X.mg "list" = none) (he : PRg X e te) (na : starEach [e] X.env = (false, eval e X.env) :: starEach [] X.env := by rfl) : PE X (.Call (.Name "list" p) [e] [] pos) (tLstRgN te) := pe_listRg hc hg hm he na
theorem k_listRgN {K : Fr} {Z H : Hp} {Q : VK} {a b : Int} (zh : Same Z H) (ok : RgOk a b) (k : New K Z H Q (rangeL a (b - a).toNat)) : rLst2 a b H Q := k_listRg zh ok k
end Cd

set_option Elab.async false
set_option linter.all false
namespace Cd
open PySem L2
end Cd

set_option Elab.async false
set_option linter.all false
set_option maxRecDepth 100000
set_option maxHeartbeats 4000000
/-! ### decks put in order by keys of signs: the same order as by ranks -/
namespace PySem.W
open PySem PyProof.Rows
end PySem.W
namespace Cd
open PySem L2
def keyS (cols : List Int) (z : Str) : List Str := cols.map fun c => chS z (c - 1)
end Cd

set_option Elab.async false
set_option linter.all false
set_option maxRecDepth 100000
set_option maxHeartbeats 4000000
namespace Cd
open PySem L2
/-! ### tables over a lock, and beside a thing told for the while -/
instance (q : Str) : NDS (Sh.tab q) := ⟨fun s ⟨P, tb, e1, e2, e3, e4, e5⟩ => ⟨P, tb, e1, e2, e3, e4, fun pos cv h => let ⟨c, a, b⟩ := e5 pos cv h; ⟨c, a, s _ _ b (fun _ e => nomatch e) (fun _ _ e => nomatch e)⟩⟩⟩
instance (q : Str) : ImmS (Sh.tab q) := ⟨fun s ⟨P, tb, e1, e2, e3, e4, e5⟩ => ⟨P, tb, e1, e2, e3, e4, fun pos cv h => let ⟨c, a, b⟩ := e5 pos cv h; ⟨c, a, s _ _ b (fun m => by cases m)⟩⟩⟩
section
variable {K : Fr} {Z0 H0 Z H : Hp} {G : List Rt} {α κ γ : Type} [Sc κ] [DecidableEq κ] [Kt κ] [Py γ] {S : Sh α} {v : V}
end
end Cd

set_option Elab.async false
set_option linter.all false
set_option maxRecDepth 100000
set_option maxHeartbeats 4000000
/-! ### try: x = d[k] / except KeyError: raise C(..) from None / else: .. (the kit's try whose suite raises, with an else) -/
namespace L2H
open PySem PySem.Spec PyProof.Rows L2 HotX
section
variable {X : Cx} {x : Str} {c : Value} {body suite : List Stmt} {b₀ : Stmt} {np pos pos' : Pos} {tb : WX → TS} {ts : Addr → Value → Option Addr → TS} {Wout : WX}
end
section
variable {X : Cx} {W : WX} {o i : Expr} {td ty : TE} {pos : Pos}
end
end L2H
namespace Cd
open PySem L2
end Cd

set_option Elab.async false
set_option linter.all false
set_option maxRecDepth 100000
set_option maxHeartbeats 4000000
/-! ### sorts one behind the other; columns that tell nothing new: plain -/
namespace Cd
open PySem L2
/-- orders that are one on a deck -/
def SameOrd (d : List Str) (A B : List Int) : Prop := ∀ a ∈ d, ∀ b ∈ d, (keyC A a < keyC A b ↔ keyC B a < keyC B b)
theorem SameOrd.symm {d : List Str} {A B : List Int} (h : SameOrd d A B) : SameOrd d B A := fun a ha b hb => (h a ha b hb).symm
theorem SameOrd.trans {d : List Str} {A B C : List Int} (h : SameOrd d A B) (k : SameOrd d B C) : SameOrd d A C := fun a ha b hb => (h a ha b hb).trans (k a ha b hb)
theorem SameOrd.refl (d : List Str) (A : List Int) : SameOrd d A A := fun _ _ _ _ => Iff.rfl
theorem SameOrd.mono {d e : List Str} {A B : List Int} (h : SameOrd d A B) (s : ∀ z ∈ e, z ∈ d) : SameOrd e A B := fun a ha b hb => h a (s a ha) b (s b hb)
/-- a deck's cards alike in A are alike in c -/
def Det (d : List Str) (A : List Int) (c : Int) : Prop := ∀ a ∈ d, ∀ b ∈ d, keyC A a = keyC A b → keyC [c] a = keyC [c] b
/-- R is L without columns that tell nothing new behind A -/
inductive Red (d : List Str) : List Int → List Int → List Int → Prop
  | nil {A : List Int} : Red d A [] []
  | keep {A L R : List Int} {c : Int} : Red d (A ++ [c]) L R → Red d A (c :: L) (c :: R)
  | drop {A L R : List Int} {c : Int} : Det d A c → Red d A L R → Red d A (c :: L) R
end Cd

set_option Elab.async false
set_option linter.all false
set_option maxRecDepth 100000
set_option maxHeartbeats 4000000
/-! ### the columns of a plan, and what a deck dealt by them comes to: plain -/
namespace Cd
open PySem L2
/-! columns without others -/
def woL (xs ys : List Int) : List Int := xs.filter fun c => !decide (c ∈ ys)
def onceS (a : List Int) (f : Int × Int) : List Int := a ++ woL (colsT f) a
def onceL (fs : List (Int × Int)) : List Int := fs.foldl onceS []
/-! cut where all of the needed ones have come -/
def cutB (need : List Int) : List Int → List Int → List Int
  | f, [] => f
  | f, c :: r => if woL need f = [] then f else cutB need (f ++ [c]) r
/-! how many are dealt late -/
def lateB (M W : List Int) (fi : Bool) (k : Int) : Bool := decide (woL M (W.take k.toNat) = W.drop k.toNat) || (decide (woL M (W.take k.toNat) = (W.take (k + ((woL M (W.take k.toNat)).length : Int)).toNat).drop k.toNat) && !fi)
def lateI (M W : List Int) (fi : Bool) : Int := ((rangeL 0 W.length).find? (lateB M W fi)).getD W.length
/-! orders -/
/-! early and late deals -/
section
variable {M W rest : List Int} {k : Nat}
end
/-! dealing -/
/-! the first cards of each part -/
theorem Det.sub {d e : List Str} {A : List Int} {c : Int} (h : Det d A c) (s : ∀ z ∈ e, z ∈ d) : Det e A c := fun a ha b hb => h a (s a ha) b (s b hb)
end Cd

set_option Elab.async false
set_option linter.all false
set_option maxRecDepth 100000
set_option maxHeartbeats 4000000
/-! ### rows of passes, and what they say: plain -/
namespace Cd
open PySem L2

abbrev Pa := TO Str Int Str
def PassOk (p : TO Str Int Str) : Prop := ((p.x1 = "deal" ∧ p.x3 = none) ∨ (p.x1 = "pick" ∧ ∃ s, p.x3 = some s)) ∧ 1 ≤ p.x2 ∧ p.x2 ≤ 36
theorem deal_ne : ¬ ("deal" : Str) = "pick" := by decide +kernel
theorem pick_ne : ¬ ("pick" : Str) = "deal" := by decide +kernel
theorem PassOk.some {p : TO Str Int Str} (h : PassOk p) (n : p.x1 = "pick") : p.x3.isSome = true := by
  rcases h.1 with h | ⟨_, s, e⟩
  · rw [h.1] at n; exact absurd n deal_ne
  · rw [e]; rfl
theorem PassOk.pick {p : TO Str Int Str} (h : PassOk p) (n : ¬ p.x1 = "deal") : p.x1 = "pick" := by
  rcases h.1 with h | ⟨h, _⟩
  · exact absurd h.1 n
  · exact h
theorem PassOk.deal {p : TO Str Int Str} (h : PassOk p) (n : p.x1 = "deal") : p = ⟨"deal", p.x2, none⟩ := by
  rcases h.1 with h | ⟨h, _⟩
  · obtain ⟨a, b, c⟩ := p; simp only at h; rw [h.1, h.2]
  · rw [h] at n; exact absurd n pick_ne

/-! what a row says: the picked signs, the last deals -/

def snStep (o : Option (List (Int × Str))) (p : Pa) : Option (List (Int × Str)) := o.bind fun m => if p.x1 = "pick" then match dGet m p.x2 with
    | none => some (m ++ [(p.x2, p.x3.getD default)])
    | some a => if a = p.x3.getD default then some m else none
  else some m
def sn (l : List Pa) : Option (List (Int × Str)) := l.foldl snStep (some [])
def dl (l : List Pa) : List Int := (l.filter fun (p : Pa) => decide (p.x1 = ("deal" : Str))).map fun (p : Pa) => p.x2
/-! the key -/
def keyQ (P : List (Int × Str)) (f : List Int) (c : Int) : List Int := if c ∈ P.map (·.1) ∨ c ∈ f then f else f ++ [c]
def keyF (P : List (Int × Str)) : List Int → List Int
  | [] => []
  | c :: r => keyQ P (keyF P r) c
/-! a pass as a going tells it -/
def pdD (c : Int) : PyData := .tuple [.str "deal", .int c]
def pdP (c : Int) (z : Str) : PyData := .tuple [.str "pick", .int c, .str z]
def paD (c : Int) : Pa := ⟨"deal", c, none⟩
def paP (c : Int) (z : Str) : Pa := ⟨"pick", c, some z⟩
end Cd

set_option Elab.async false
set_option linter.all false
set_option maxRecDepth 100000
set_option maxHeartbeats 4000000
namespace Cd
open PySem L2 PyProof.Rows
/-! ### list(d): the keys; xs.index(x) of told data -/
def rListDQ : List V → Hp → VK → Prop := fun xs H Q => ∃ (a : Addr) (kvs : List (Key × V)), xs = [.ref a] ∧ Rd H a (.dK kvs) ∧ ∀ p, H p = none → Q (.ref p) (upd H p (.lst (kvs.map fun kv => kV kv.1)))
section
variable {α : Type} [Py α] {K : Fr} {Z H : Hp} {Q : VK}
end
def idxD (l : List PyData) (x : PyData) : Nat := l.findIdx fun z => PyData.eqv z x
end Cd
namespace L2
open PySem PySem.Spec
end L2

set_option Elab.async false
set_option linter.all false
set_option maxRecDepth 100000
set_option maxHeartbeats 4000000
namespace Cd
open PySem L2 PyProof.Rows
/-! ### what never raises may stand where one may -/
section
variable {P : Program} {w : World} {K : PySem.W.Frag} {mg : Str → Option Value} {base : Heap} {CX : CXT} {k : Nat} {m : Str} {ps : List Str} {sp : Sp} {C f : Addr} {fd : FuncData}
theorem FnOk.any (F : FnOk P w K mg base CX0 k f fd ps sp) : FnOk P w K mg base CX k f fd ps sp :=
  ⟨F.len, fun A outer s H args us vs Q E hr he hb hv hs => codeAny_mono (F.run A outer s H args us vs Q E hr he hb hv hs) fun r s' h => by
    cases r with
    | ok c => cases c <;> exact h
    | error e => exact h.elim⟩
theorem MetX.any (c : MetX P w K mg base CX0 k C m ps sp) : MetX P w K mg base CX k C m ps sp := by
  obtain ⟨f, fd, cl, hm, F, hb⟩ := c.ex
  exact ⟨f, fd, cl, hm, FnOk.any F, hb⟩
end
end Cd

set_option Elab.async false
set_option linter.all false
set_option maxRecDepth 100000
set_option maxHeartbeats 4000000
namespace Cd
open PySem L2 PyProof.Rows
/-! ### a dict of one's own things; what stands at one key, the value x, is held elsewhere -/
def Sh.dH {κ α : Type} [Sc κ] [DecidableEq κ] [Kt κ] (k1 : κ) (x : V) (S : Sh α) : Sh (Dct κ α) where
  R := fun K Z H v ps d => ∃ kvs, (Sh.dP kvs (fun j => decide (j = k1)) S).R K Z H v ps d ∧ valV kvs (Kt.key k1) = some x
  keep := fun s h ⟨kvs, r, e⟩ => ⟨kvs, (Sh.dP kvs (fun j => decide (j = k1)) S).keep s h r, e⟩
  stands := fun ⟨kvs, r, _⟩ q hq => (Sh.dP kvs (fun j => decide (j = k1)) S).stands r q hq
section
variable {κ α β : Type} [Sc κ] [DecidableEq κ] [Kt κ] {S : Sh α} {k1 : κ} {x : V}
instance : IsRef (Sh.dH k1 x S) := ⟨fun ⟨_, ⟨p, _, e, _⟩, _⟩ => ⟨p, e⟩⟩
variable {K : Fr} {Z0 H0 Z H : Hp} {G : List Rt} {v : V} {d : Dct κ α} {kvs : List (Key × V)} {sk : κ → Bool} {Q : VK}
end
section
variable {K : Fr} {Z0 H0 Z H : Hp} {G : List Rt} {α β : Type} {S : Sh α} {v : V}
end
end Cd

set_option Elab.async false
set_option linter.all false
set_option maxRecDepth 100000
set_option maxHeartbeats 4000000
namespace Cd
open PySem L2 PyProof.Rows
/-! ### own lists of own data: made of told ones, put behind one another, changed within -/
section
variable {K : Fr} {Z0 H0 Z H : Hp} {G : List Rt}
def Sh.cell : Sh Unit where
  R := fun K Z H v ps _ => ∃ p u, v = .ref p ∧ ps = [p] ∧ H p = some u
  keep := fun s h ⟨p, u, e1, e2, h1⟩ => ⟨p, u, e1, e2, (h p (by rw [e2]; simp)).trans h1⟩
  stands := fun ⟨p, u, e1, e2, h1⟩ q hq => by rw [e2, List.mem_singleton] at hq; rw [hq]; exact ⟨u, h1⟩
variable {α : Type} {S : Sh α}
def Sh.both (p q : Addr) (S : Sh α) : Sh (List α × List α) where
  R := fun K Z H _ ps a => ∃ xs ys rs ts, ps = (p :: (rs ++ ts)) ++ [q] ∧ H p = some (.lst xs) ∧ H q = some (.lst ys) ∧ allR S K Z H xs rs a.1 ∧ allR S K Z H ys ts a.2
  keep := fun s h ⟨xs, ys, rs, ts, e, h1, h2, h3, h4⟩ => ⟨xs, ys, rs, ts, e, (h _ (by rw [e]; simp)).trans h1, (h _ (by rw [e]; simp)).trans h2, allR_keep s (fun x hx => h x (by rw [e]; simp [hx])) h3, allR_keep s (fun x hx => h x (by rw [e]; simp [hx])) h4⟩
  stands := fun ⟨xs, ys, rs, ts, e, h1, h2, h3, h4⟩ x hx => by
    rw [e] at hx
    simp only [List.cons_append, List.mem_cons, List.mem_append, List.mem_singleton, List.not_mem_nil, or_false] at hx
    rcases hx with rfl | (hx | hx) | rfl
    · exact ⟨_, h1⟩
    · exact allR_stands h3 x hx
    · exact allR_stands h4 x hx
    · exact ⟨_, h2⟩
end
section
variable {β : Type} {SO : Sh β} {K : Fr} {Z H H0 : Hp} {v u : V} {ps qs : List Addr} {b : β} {x : PyData} {put : PyData → β} {i : Int}
theorem Leaf.dyT (l : Leaf Sh.dy SO K H0 Z H v ps u qs x put b) (zh : Same Z H) (ht : dyTup x = true ∧ inR (dyItems x).length i) : ∃ w rs, (∀ Q : VK, Q w H → rIxD K u (.int i) H Q) ∧ Leaf Sh.dy SO K H0 Z H v ps w rs (dyAt x i) (fun z => put (.tuple (setI (dyItems x) i z))) b := by
  obtain ⟨ds, rfl⟩ := dyTup_ex ht.1
  have hi : inR ds.length i := ht.2
  obtain ⟨j, hj, hl⟩ := ixN_some hi
  have r : Dyo K Z H u qs (.tuple ds) := l.w.r
  cases r with
  | @tup a xs _ _ hz ha =>
    have hr := row_dyo ha
    have e : ds[j]? = some (dyAt (.tuple ds) i) := by
      have h := atI_get hi
      unfold atI at h
      rw [hj] at h
      rw [show ds[j]? = some (getI ds i) from h]; rfl
    obtain ⟨w, rs, ls, ts, g1, g2, g3, g4⟩ := allR_at hr e
    have hlen : xs.length = ds.length := allR_len hr
    refine ⟨w, rs, fun Q hQ => .inr ⟨a, xs, i, w, rfl, rfl, SqT.of (zh _ _ hz), ?_, hQ⟩, l.o, ?_⟩
    · unfold atI
      rw [hlen, hj]
      exact g1
    · have e2 : (fun z => put (.tuple (setI (dyItems (.tuple ds)) i z))) = fun z => put (.tuple (ds.set j z)) := by
        funext z
        show put (.tuple (setI ds i z)) = _
        unfold setI
        rw [hj]
      rw [e2]
      refine l.w.trans (put := fun z => .tuple (ds.set j z)) ⟨g3, ls, ts, g2, fun Z' H' qs' x' s hk hr' => ?_⟩
      exact .tup (s _ _ hz) (dyo_row (g4 Z' H' qs' x' s hk hr'))
theorem Leaf.dyL (l : Leaf Sh.dy SO K H0 Z H v ps u qs x put b) (ht : dyLst x = true ∧ immA (dyItems x) = true) : ∃ a, u = .ref a ∧ a ∈ ps ∧ Own K H0 Z H a (dyItems x) ∧ ∀ w (l' : List PyData), immA l' = true → Own K H0 Z (upd H a w) a l' → OwnO SO K H0 Z (upd H a w) v ps (put (.list l')) := by
  have ex := dyLst_eq ht.1
  have r : Dyo K Z H u qs x := l.w.r
  have o := l.sub
  rw [ex] at r
  cases r with
  | @lst a xs rs _ hs ha =>
    obtain ⟨e2, r2⟩ := immA_told _ _ _ ht.2 ha
    subst e2
    refine ⟨a, rfl, l.mem a (by simp), ⟨⟨xs, hs, all_pr r2⟩, o.nz a (by simp), o.n0 a (by simp)⟩, fun w l' hi o' => l.back (by simp) ?_⟩
    obtain ⟨⟨ys, h1, h2⟩, _, _⟩ := o'
    have h3 : DyrAll K Z ys l' := by
      have := dyr_all h2
      rwa [show l'.map (ToD.td : PyData → PyData) = l' from List.map_id l'] at this
    exact .lst h1 (DyrAll.imm _ _ hi h3)
end
end Cd

set_option Elab.async false
set_option linter.all false
set_option maxRecDepth 100000
set_option maxHeartbeats 4000000
namespace Cd
open PySem L2 PyProof.Rows
/-! ### data that is told, or a list of one's own: in one list; and a second list of the same things -/
inductive Dm where
  | told (d : PyData)
  | own (l : List PyData)
def Dm.dat : Dm → PyData
  | .told d => d
  | .own l => .list l
def Dm.isO : Dm → Bool
  | .told _ => false
  | .own _ => true
def Dm.its : Dm → List PyData
  | .told _ => []
  | .own l => l
instance : Inhabited Dm := ⟨.own []⟩
instance : Py Dm := ⟨fun K Z v a => Py.R K Z v a.dat, fun s h => Py.mono (α := PyData) s h⟩
def Sh.dm : Sh Dm where
  R := fun K Z H v ps a => match a with
    | .told d => ps = [] ∧ Py.R K Z v d
    | .own l => (Sh.lt PyData).R K Z H v ps l
  keep := fun {K Z Z' H H' v ps a} s h r => by
    cases a with
    | told d => exact ⟨r.1, Py.mono s r.2⟩
    | own l => exact (Sh.lt PyData).keep s h r
  stands := fun {K Z H v ps a} r => by
    cases a with
    | told d => intro q hq; rw [r.1] at hq; cases hq
    | own l => exact (Sh.lt PyData).stands r
instance : MutS Sh.dm := ⟨fun {K Z H v ps a} r => by
  cases a with
  | told d => intro q hq; rw [r.1] at hq; cases hq
  | own l => exact MutS.mt (S := Sh.lt PyData) r⟩
theorem dyr_list {K : Fr} {Z : Hp} {v : V} {l : List PyData} (h : Py.R K Z v l) : Py.R K Z v (PyData.list l) := by
  obtain ⟨a, xs, rfl, hz, p⟩ := h
  exact .lst hz (pr_dyAll p)
instance : Dat Sh.dm := ⟨fun {K Z v ps a} r => by
  cases a with
  | told d => exact r.2
  | own l => exact dyr_list (Dat.dat (S := Sh.lt PyData) r)⟩
section
variable {K : Fr} {Z0 H0 Z H : Hp} {G : List Rt} {v : V}
theorem allR_dm {l : List PyData} : ∀ {xs : List V}, Paired (Py.R K Z) xs l → allR Sh.dm K Z H xs [] (l.map Dm.told) := by
  induction l with
  | nil => intro xs h; cases h; exact ⟨rfl, rfl⟩
  | cons d r ih =>
    intro xs h
    cases h with
    | cons h1 h2 => exact ⟨_, _, [], [], rfl, rfl, ⟨rfl, h1⟩, ih h2⟩
theorem Sep.toDm {l : List PyData} (h : Sep K Z0 H0 Z H G) (i : Nat) (e : G[i]? = some ⟨Sh.lt PyData, v, l⟩) : Sep K Z0 H0 Z H (G.set i ⟨Sh.lst (ShL.all Sh.dm), v, l.map Dm.told⟩) :=
  h.wide i e fun ps ⟨p, xs, e1, e2, h1, h2⟩ => ⟨p, xs, [], e1, e2, h1, allR_dm h2⟩
theorem Sep.ownDm {l : List PyData} (h : Sep K Z0 H0 Z H G) (i : Nat) (e : G[i]? = some ⟨Sh.lt PyData, v, l⟩) : Sep K Z0 H0 Z H (G.set i ⟨Sh.dm, v, Dm.own l⟩) := h.wide i e fun ps r => r
theorem Sep.unDm {a : Dm} (h : Sep K Z0 H0 Z H G) (i : Nat) (e : G[i]? = some ⟨Sh.dm, v, a⟩) (g : a.isO = true) : Sep K Z0 H0 Z H (G.set i ⟨Sh.lt PyData, v, a.its⟩) :=
  h.wide i e fun ps r => by
    cases a with
    | told d => cases g
    | own l => exact r
theorem dat_pr : ∀ {l : List Dm} {xs : List V}, Paired (Py.R K Z) xs l → Paired (Py.R K Z) xs (l.map Dm.dat)
  | _, _, .nil => .nil
  | _, _, .cons h1 h2 => .cons h1 (dat_pr h2)
theorem dat_told {l : List Dm} (h : Py.R K Z v l) : Py.R K Z v (l.map Dm.dat) := by
  obtain ⟨a, xs, e, hz, p⟩ := h
  exact ⟨a, xs, e, hz, dat_pr p⟩
theorem Sep.datDm {l : List Dm} (h : Sep K Z0 H0 Z H G) (i : Nat) (e : G[i]? = some ⟨Sh.told, v, l⟩) : Sep K Z0 H0 Z H (G.set i ⟨Sh.told, v, l.map Dm.dat⟩) :=
  h.wide i e fun ps ⟨e1, r⟩ => ⟨e1, dat_told r⟩
/-- a list of one's own of which only the values are known -/
structure Raw where xs : List V
instance : Py Raw := ⟨fun _ Z v a => ∃ q, v = .ref q ∧ Z q = some (.lst a.xs), fun s ⟨q, e, h⟩ => ⟨q, e, s _ _ h⟩⟩
def Sh.raw : Sh Raw where
  R := fun _ _ H v ps a => ∃ q, v = .ref q ∧ ps = [q] ∧ H q = some (.lst a.xs)
  keep := fun s h ⟨q, e1, e2, h1⟩ => ⟨q, e1, e2, (h q (by rw [e2]; simp)).trans h1⟩
  stands := fun ⟨q, e1, e2, h1⟩ x hx => by rw [e2, List.mem_singleton] at hx; rw [hx]; exact ⟨_, h1⟩
instance : MutS Sh.raw := ⟨fun ⟨q, e1, e2, h1⟩ x hx => by rw [e2, List.mem_singleton] at hx; rw [hx]; exact ⟨_, h1, trivial⟩⟩
instance : Dat Sh.raw := ⟨fun ⟨q, e1, _, h1⟩ => ⟨q, e1, h1⟩⟩
instance : ImmS Sh.raw := ⟨fun _ r => r⟩
instance {α : Type} [Py α] {S : Sh α} [Dat S] {xs : List V} : Dat (Sh.lstV xs S) := ⟨fun ⟨p, qs, e1, e2, h1, h2⟩ => Dat.dat (S := Sh.lst (ShL.all S)) ⟨p, xs, qs, e1, e2, h1, h2⟩⟩
instance {α : Type} {S : Sh α} [MutS S] {xs : List V} : MutS (Sh.lstV xs S) := ⟨fun ⟨p, qs, e1, e2, h1, h2⟩ => MutS.mt (S := Sh.lst (ShL.all S)) ⟨p, xs, qs, e1, e2, h1, h2⟩⟩
theorem k_slV {p : Addr} {xs : List V} {lo hi : Option Int} {Q : VK} {l : List Dm} (h : Sep K Z0 H0 Z H (⟨Sh.lstV xs Sh.dm, .ref p, l⟩ :: G)) (k : ∀ q H', Sep K Z0 H0 Z H' (⟨Sh.raw, .ref q, ⟨cutV xs lo hi⟩⟩ :: ⟨Sh.lstV xs Sh.dm, .ref p, l⟩ :: G) → Q (.ref q) H') : rSlL K (.ref p) lo hi H Q := by
  obtain ⟨hp, _⟩ := h.atV 0 rfl
  refine ⟨p, xs, rfl, SqL.of hp, fun q hq => k q _ ?_⟩
  have st : Step Z H Z (upd H q (.lst (cutV xs lo hi))) := Step.own h.zh hq
  exact h.own st ⟨⟨q, rfl, rfl, upd_same⟩, by simp, fun x hx => by rw [List.mem_singleton] at hx; rw [hx]; exact h.zh.free hq, fun x hx => by rw [List.mem_singleton] at hx; rw [hx]; exact hq⟩
theorem raw_told {w : V} {p : Addr} {xs : List V} {lo hi : Option Int} {l : List Dm} (zh : Same Z H) (hp : H p = some (.lst xs)) (h1 : Py.R K Z (.ref p) l) (h2 : Py.R K Z w (⟨cutV xs lo hi⟩ : Raw)) : Py.R K Z w (cutL (l.map Dm.dat) lo hi) := by
  obtain ⟨a, ys, e, hz, pr⟩ := dat_told h1
  cases e
  have := zh _ _ hz
  rw [hp] at this
  cases this
  obtain ⟨q, rfl, hq⟩ := h2
  exact ⟨q, _, rfl, hq, pr.pCut lo hi⟩
end
/-! ### a new object, by a call with keywords -/
structure MakN (P : Program) (w : World) (K : PySem.W.Frag) (mg : Str → Option Value) (base : Heap) (CX : CXT) (k : Nat) (x : Str) (C : Addr) (ps : List Str) (dvs : List V) (js : List Nat) (sp : Sp) (n : Nat) (ks : List Str) (gV : List V → List V → List V) : Prop extends MakD P w K mg base CX k x C ps dvs js sp where
  kw : ∃ (f : Addr) (fd : FuncData) (g : List Value → List Value → List Value), Mk K C f ∧ FnOk P w K mg base CX k f fd ps sp ∧ mg x = some (.ref C) ∧ KBn K fd ps (n + 1) ks g gV
theorem pe_mkN {X : Cx} {CX : CXT} {k n : Nat} {C : Addr} {x : Str} {ps ks : List Str} {dvs : List V} {js : List Nat} {sp : Sp} {gV : List V → List V → List V} {E : XK} {t tk : TA} {e : Expr} {es : List Expr} {kws : List Keyword} {p pos : Pos} (c : MakN X.prog X.w X.K X.mg X.base CX k x C ps dvs js sp n ks gV) (hr : Room (k + 1) X.A) (hx : Passes CX X E) (ha : PA X (e :: es) t) (hkw : PK X kws tk) (hg : Gl X x := by rfl) (hall : (backToKw pos (keywordEach kws X.env)).all (·.1.isSome) = true := by rfl) (hks : (backToKw pos (keywordEach kws X.env)).filterMap (·.1) = ks := by rfl)
    (hdb : (x == ("__debug__" : Str)) = false := by decide) (he : starEach (e :: es) X.env = (false, eval e X.env) :: starEach es X.env := by rfl) (hpl : ((backTo pos (starEach (e :: es) X.env)).any (·.1) || (backToKw pos (keywordEach kws X.env)).any (·.1.isNone)) = false := by rfl) :
    PE X (.Call (.Name x p) (e :: es) kws pos) (tMakeN C n ks.length sp gV E t tk) := by
  obtain ⟨f, fd, g, M, F, hm, hb⟩ := c.kw
  exact pe_makeN M F hr hg hm hb hx ha hkw hall hks hdb he hpl
theorem Vals.pick : ∀ {vs : List V} {us : List Value} (i : Nat), Vals vs us → Vals (vs[i]?.toList) (us[i]?.toList)
  | _, _, _, .nil => .nil
  | _, _, 0, .cons h _ => .cons h .nil
  | _, _, i + 1, .cons _ r => Vals.pick i r
end Cd

set_option Elab.async false
set_option linter.all false
set_option maxRecDepth 100000
set_option maxHeartbeats 4000000
namespace Cd
open PySem L2

structure Asking where
  deck : Str
  picks : (List ((Int × Int) × Str))
  middle : PyData
  order : (List (Int × Int))
  works : (List (T4 (Int × Int) (Int × Int) Str (Int × Int)))
  breaks : Int
  sums : (List (Int × Int))
  figures : Int
  board : (List (Int × Int))
deriving Inhabited
def Asking.row (a : Asking) : (Str × ((List ((Int × Int) × Str)) × (PyData × ((List (Int × Int)) × ((List (T4 (Int × Int) (Int × Int) Str (Int × Int))) × (Int × ((List (Int × Int)) × (Int × ((List (Int × Int)) × Unit))))))))) := (a.deck, (a.picks, (a.middle, (a.order, (a.works, (a.breaks, (a.sums, (a.figures, (a.board, ())))))))))
def kwg_Asking___init__ {α : Type} (us ds zs : List α) : List α := us ++ (ds[0]?.toList ++ (zs[0]?.toList ++ (zs[1]?.toList ++ (ds[3]?.toList ++ (zs[2]?.toList)))))
theorem kwr_Asking___init__ {vs ds zs : List V} {us its ws : List Value} (a : Vals vs us) (b : Vals ds its) (c : Vals zs ws) : Vals (kwg_Asking___init__ vs ds zs) (kwg_Asking___init__ us its ws) := a.append ((Vals.pick 0 b).append ((Vals.pick 0 c).append ((Vals.pick 1 c).append ((Vals.pick 3 b).append (Vals.pick 2 c)))))
def sh_Asking : Sh Asking := (Sh.objK "Asking" ["deck", "picks", "middle", "order", "works", "breaks", "sums", "figures", "board"] (ShL.cons (Sh.told (α := Str)) (ShL.cons (Sh.lt ((Int × Int) × Str)) (ShL.cons Sh.dy (ShL.cons (Sh.lt (Int × Int)) (ShL.cons (Sh.lt (T4 (Int × Int) (Int × Int) Str (Int × Int))) (ShL.cons (Sh.told (α := Int)) (ShL.cons (Sh.lt (Int × Int)) (ShL.cons (Sh.told (α := Int)) (ShL.cons (Sh.lt (Int × Int)) ShL.nil)))))))))).via Asking.row
instance : IsRef sh_Asking := inferInstanceAs (IsRef (Sh.via _ _))
instance : Py Asking := pyObj "Asking" ["deck", "picks", "middle", "order", "works", "breaks", "sums", "figures", "board"] Asking.row
instance : Dat sh_Asking := dat_obj
instance : MutS sh_Asking := mut_obj
instance : Nn Asking := ⟨fun h e => by obtain ⟨C, p, dx, vs, e0, e1, _⟩ := h; rw [e1] at e; cases e⟩
instance : ImmS sh_Asking := imm_obj
theorem fld_Asking_deck {K : Fr} {Z H : Hp} {v : V} {a : Asking} {A : Addr} {Q : V → Prop} (zh : Same Z H) (h : Py.R K Z v a) (nk : PySem.W.nsIn K mainGlobals "Asking" = some (some (.ref A))) (cl : Cls K A) (na : NoAttr K A "deck") (k : Q (.str a.deck)) : ∃ p C dx fs u, v = .ref p ∧ H p = some (.ins C dx fs) ∧ Cls K C ∧ NoAttr K C "deck" ∧ fs.lookup ("deck" : Str) = some u ∧ Q u := by
  obtain ⟨p, dx, vs, rfl, h1, hl, h3⟩ := objR.at h zh nk
  obtain ⟨v0, w0, rfl, g0, h3⟩ := h3
  obtain ⟨v1, w1, rfl, g1, h3⟩ := h3
  obtain ⟨v2, w2, rfl, g2, h3⟩ := h3
  obtain ⟨v3, w3, rfl, g3, h3⟩ := h3
  obtain ⟨v4, w4, rfl, g4, h3⟩ := h3
  obtain ⟨v5, w5, rfl, g5, h3⟩ := h3
  obtain ⟨v6, w6, rfl, g6, h3⟩ := h3
  obtain ⟨v7, w7, rfl, g7, h3⟩ := h3
  obtain ⟨v8, w8, rfl, g8, h3⟩ := h3
  obtain rfl := h3
  exact ⟨p, A, dx, _, v0, rfl, h1, cl, na, rfl, by rw [show v0 = (.str a.deck) from g0]; exact k⟩
theorem fld_Asking_picks {K : Fr} {Z H : Hp} {v : V} {a : Asking} {A : Addr} {Q : V → Prop} (zh : Same Z H) (h : Py.R K Z v a) (nk : PySem.W.nsIn K mainGlobals "Asking" = some (some (.ref A))) (cl : Cls K A) (na : NoAttr K A "picks") (k : ∀ u, Py.R K Z u a.picks → Q u) : ∃ p C dx fs u, v = .ref p ∧ H p = some (.ins C dx fs) ∧ Cls K C ∧ NoAttr K C "picks" ∧ fs.lookup ("picks" : Str) = some u ∧ Q u := by
  obtain ⟨p, dx, vs, rfl, h1, hl, h3⟩ := objR.at h zh nk
  obtain ⟨v0, w0, rfl, g0, h3⟩ := h3
  obtain ⟨v1, w1, rfl, g1, h3⟩ := h3
  obtain ⟨v2, w2, rfl, g2, h3⟩ := h3
  obtain ⟨v3, w3, rfl, g3, h3⟩ := h3
  obtain ⟨v4, w4, rfl, g4, h3⟩ := h3
  obtain ⟨v5, w5, rfl, g5, h3⟩ := h3
  obtain ⟨v6, w6, rfl, g6, h3⟩ := h3
  obtain ⟨v7, w7, rfl, g7, h3⟩ := h3
  obtain ⟨v8, w8, rfl, g8, h3⟩ := h3
  obtain rfl := h3
  exact ⟨p, A, dx, _, v1, rfl, h1, cl, na, rfl, k _ g1⟩
theorem fld_Asking_middle {K : Fr} {Z H : Hp} {v : V} {a : Asking} {A : Addr} {Q : V → Prop} (zh : Same Z H) (h : Py.R K Z v a) (nk : PySem.W.nsIn K mainGlobals "Asking" = some (some (.ref A))) (cl : Cls K A) (na : NoAttr K A "middle") (k : ∀ u, Py.R K Z u a.middle → Q u) : ∃ p C dx fs u, v = .ref p ∧ H p = some (.ins C dx fs) ∧ Cls K C ∧ NoAttr K C "middle" ∧ fs.lookup ("middle" : Str) = some u ∧ Q u := by
  obtain ⟨p, dx, vs, rfl, h1, hl, h3⟩ := objR.at h zh nk
  obtain ⟨v0, w0, rfl, g0, h3⟩ := h3
  obtain ⟨v1, w1, rfl, g1, h3⟩ := h3
  obtain ⟨v2, w2, rfl, g2, h3⟩ := h3
  obtain ⟨v3, w3, rfl, g3, h3⟩ := h3
  obtain ⟨v4, w4, rfl, g4, h3⟩ := h3
  obtain ⟨v5, w5, rfl, g5, h3⟩ := h3
  obtain ⟨v6, w6, rfl, g6, h3⟩ := h3
  obtain ⟨v7, w7, rfl, g7, h3⟩ := h3
  obtain ⟨v8, w8, rfl, g8, h3⟩ := h3
  obtain rfl := h3
  exact ⟨p, A, dx, _, v2, rfl, h1, cl, na, rfl, k _ g2⟩
theorem fld_Asking_order {K : Fr} {Z H : Hp} {v : V} {a : Asking} {A : Addr} {Q : V → Prop} (zh : Same Z H) (h : Py.R K Z v a) (nk : PySem.W.nsIn K mainGlobals "Asking" = some (some (.ref A))) (cl : Cls K A) (na : NoAttr K A "order") (k : ∀ u, Py.R K Z u a.order → Q u) : ∃ p C dx fs u, v = .ref p ∧ H p = some (.ins C dx fs) ∧ Cls K C ∧ NoAttr K C "order" ∧ fs.lookup ("order" : Str) = some u ∧ Q u := by
  obtain ⟨p, dx, vs, rfl, h1, hl, h3⟩ := objR.at h zh nk
  obtain ⟨v0, w0, rfl, g0, h3⟩ := h3
  obtain ⟨v1, w1, rfl, g1, h3⟩ := h3
  obtain ⟨v2, w2, rfl, g2, h3⟩ := h3
  obtain ⟨v3, w3, rfl, g3, h3⟩ := h3
  obtain ⟨v4, w4, rfl, g4, h3⟩ := h3
  obtain ⟨v5, w5, rfl, g5, h3⟩ := h3
  obtain ⟨v6, w6, rfl, g6, h3⟩ := h3
  obtain ⟨v7, w7, rfl, g7, h3⟩ := h3
  obtain ⟨v8, w8, rfl, g8, h3⟩ := h3
  obtain rfl := h3
  exact ⟨p, A, dx, _, v3, rfl, h1, cl, na, rfl, k _ g3⟩
theorem fld_Asking_works {K : Fr} {Z H : Hp} {v : V} {a : Asking} {A : Addr} {Q : V → Prop} (zh : Same Z H) (h : Py.R K Z v a) (nk : PySem.W.nsIn K mainGlobals "Asking" = some (some (.ref A))) (cl : Cls K A) (na : NoAttr K A "works") (k : ∀ u, Py.R K Z u a.works → Q u) : ∃ p C dx fs u, v = .ref p ∧ H p = some (.ins C dx fs) ∧ Cls K C ∧ NoAttr K C "works" ∧ fs.lookup ("works" : Str) = some u ∧ Q u := by
  obtain ⟨p, dx, vs, rfl, h1, hl, h3⟩ := objR.at h zh nk
  obtain ⟨v0, w0, rfl, g0, h3⟩ := h3
  obtain ⟨v1, w1, rfl, g1, h3⟩ := h3
  obtain ⟨v2, w2, rfl, g2, h3⟩ := h3
  obtain ⟨v3, w3, rfl, g3, h3⟩ := h3
  obtain ⟨v4, w4, rfl, g4, h3⟩ := h3
  obtain ⟨v5, w5, rfl, g5, h3⟩ := h3
  obtain ⟨v6, w6, rfl, g6, h3⟩ := h3
  obtain ⟨v7, w7, rfl, g7, h3⟩ := h3
  obtain ⟨v8, w8, rfl, g8, h3⟩ := h3
  obtain rfl := h3
  exact ⟨p, A, dx, _, v4, rfl, h1, cl, na, rfl, k _ g4⟩
theorem fld_Asking_breaks {K : Fr} {Z H : Hp} {v : V} {a : Asking} {A : Addr} {Q : V → Prop} (zh : Same Z H) (h : Py.R K Z v a) (nk : PySem.W.nsIn K mainGlobals "Asking" = some (some (.ref A))) (cl : Cls K A) (na : NoAttr K A "breaks") (k : Q (.int a.breaks)) : ∃ p C dx fs u, v = .ref p ∧ H p = some (.ins C dx fs) ∧ Cls K C ∧ NoAttr K C "breaks" ∧ fs.lookup ("breaks" : Str) = some u ∧ Q u := by
  obtain ⟨p, dx, vs, rfl, h1, hl, h3⟩ := objR.at h zh nk
  obtain ⟨v0, w0, rfl, g0, h3⟩ := h3
  obtain ⟨v1, w1, rfl, g1, h3⟩ := h3
  obtain ⟨v2, w2, rfl, g2, h3⟩ := h3
  obtain ⟨v3, w3, rfl, g3, h3⟩ := h3
  obtain ⟨v4, w4, rfl, g4, h3⟩ := h3
  obtain ⟨v5, w5, rfl, g5, h3⟩ := h3
  obtain ⟨v6, w6, rfl, g6, h3⟩ := h3
  obtain ⟨v7, w7, rfl, g7, h3⟩ := h3
  obtain ⟨v8, w8, rfl, g8, h3⟩ := h3
  obtain rfl := h3
  exact ⟨p, A, dx, _, v5, rfl, h1, cl, na, rfl, by rw [show v5 = (.int a.breaks) from g5]; exact k⟩
theorem fld_Asking_sums {K : Fr} {Z H : Hp} {v : V} {a : Asking} {A : Addr} {Q : V → Prop} (zh : Same Z H) (h : Py.R K Z v a) (nk : PySem.W.nsIn K mainGlobals "Asking" = some (some (.ref A))) (cl : Cls K A) (na : NoAttr K A "sums") (k : ∀ u, Py.R K Z u a.sums → Q u) : ∃ p C dx fs u, v = .ref p ∧ H p = some (.ins C dx fs) ∧ Cls K C ∧ NoAttr K C "sums" ∧ fs.lookup ("sums" : Str) = some u ∧ Q u := by
  obtain ⟨p, dx, vs, rfl, h1, hl, h3⟩ := objR.at h zh nk
  obtain ⟨v0, w0, rfl, g0, h3⟩ := h3
  obtain ⟨v1, w1, rfl, g1, h3⟩ := h3
  obtain ⟨v2, w2, rfl, g2, h3⟩ := h3
  obtain ⟨v3, w3, rfl, g3, h3⟩ := h3
  obtain ⟨v4, w4, rfl, g4, h3⟩ := h3
  obtain ⟨v5, w5, rfl, g5, h3⟩ := h3
  obtain ⟨v6, w6, rfl, g6, h3⟩ := h3
  obtain ⟨v7, w7, rfl, g7, h3⟩ := h3
  obtain ⟨v8, w8, rfl, g8, h3⟩ := h3
  obtain rfl := h3
  exact ⟨p, A, dx, _, v6, rfl, h1, cl, na, rfl, k _ g6⟩
theorem fld_Asking_figures {K : Fr} {Z H : Hp} {v : V} {a : Asking} {A : Addr} {Q : V → Prop} (zh : Same Z H) (h : Py.R K Z v a) (nk : PySem.W.nsIn K mainGlobals "Asking" = some (some (.ref A))) (cl : Cls K A) (na : NoAttr K A "figures") (k : Q (.int a.figures)) : ∃ p C dx fs u, v = .ref p ∧ H p = some (.ins C dx fs) ∧ Cls K C ∧ NoAttr K C "figures" ∧ fs.lookup ("figures" : Str) = some u ∧ Q u := by
  obtain ⟨p, dx, vs, rfl, h1, hl, h3⟩ := objR.at h zh nk
  obtain ⟨v0, w0, rfl, g0, h3⟩ := h3
  obtain ⟨v1, w1, rfl, g1, h3⟩ := h3
  obtain ⟨v2, w2, rfl, g2, h3⟩ := h3
  obtain ⟨v3, w3, rfl, g3, h3⟩ := h3
  obtain ⟨v4, w4, rfl, g4, h3⟩ := h3
  obtain ⟨v5, w5, rfl, g5, h3⟩ := h3
  obtain ⟨v6, w6, rfl, g6, h3⟩ := h3
  obtain ⟨v7, w7, rfl, g7, h3⟩ := h3
  obtain ⟨v8, w8, rfl, g8, h3⟩ := h3
  obtain rfl := h3
  exact ⟨p, A, dx, _, v7, rfl, h1, cl, na, rfl, by rw [show v7 = (.int a.figures) from g7]; exact k⟩
theorem fld_Asking_board {K : Fr} {Z H : Hp} {v : V} {a : Asking} {A : Addr} {Q : V → Prop} (zh : Same Z H) (h : Py.R K Z v a) (nk : PySem.W.nsIn K mainGlobals "Asking" = some (some (.ref A))) (cl : Cls K A) (na : NoAttr K A "board") (k : ∀ u, Py.R K Z u a.board → Q u) : ∃ p C dx fs u, v = .ref p ∧ H p = some (.ins C dx fs) ∧ Cls K C ∧ NoAttr K C "board" ∧ fs.lookup ("board" : Str) = some u ∧ Q u := by
  obtain ⟨p, dx, vs, rfl, h1, hl, h3⟩ := objR.at h zh nk
  obtain ⟨v0, w0, rfl, g0, h3⟩ := h3
  obtain ⟨v1, w1, rfl, g1, h3⟩ := h3
  obtain ⟨v2, w2, rfl, g2, h3⟩ := h3
  obtain ⟨v3, w3, rfl, g3, h3⟩ := h3
  obtain ⟨v4, w4, rfl, g4, h3⟩ := h3
  obtain ⟨v5, w5, rfl, g5, h3⟩ := h3
  obtain ⟨v6, w6, rfl, g6, h3⟩ := h3
  obtain ⟨v7, w7, rfl, g7, h3⟩ := h3
  obtain ⟨v8, w8, rfl, g8, h3⟩ := h3
  obtain rfl := h3
  exact ⟨p, A, dx, _, v8, rfl, h1, cl, na, rfl, k _ g8⟩
/-! ### mirrors -/
noncomputable def m_is_card_b0 (sign_6 : Str) : R (LR (Unit) Bool) :=
  if (!inS sign_6 (" 0123456789ABCDEFGHIJKLMNOPQRSTUVWXYZ" : Str)) = true then (
  .ok (.ret false))
  else (
  .ok (.nxt ()))
noncomputable def m_is_card (a_text : Str) : R Bool :=
  chk (a_text.length ≤ sizeLine) (
if (!decide (((a_text).length : Int) = (40 : Int))) = true then (
  .ok false)
  else (
  R.bind (forL (fun (s_ : Unit) (q_ : Str) => m_is_card_b0 q_) () (chars a_text)) fun o_ => LR.go o_ (fun _ => (
  .ok true)) (fun v_ => .ok v_)))
noncomputable def m_card_of (a_text : Str) : R Str :=
  vl (Txt.ljust a_text (40 : Int)) fun card_1 => (
  R.bind (m_is_card card_1).nx fun r3 => (
if (!r3) = true then (
  .ex .NoCard)
  else (
  .ok card_1)))
noncomputable def m_make_board_b0 (here_8 : Int) (there_9 : Int) : R (Unit) :=
  if ((decide (here_8 < (1 : Int))) || ((decide ((40 : Int) < here_8)) || ((decide (there_9 < (1 : Int))) || (decide ((36 : Int) < there_9))))) = true then (
  .ex .NoBoard)
  else (
  .ok ())
noncomputable def m_make_board_b1 (known_55 : (Dct Int (Int × Int))) (wire_59 : (Int × Int)) : R ((Dct Int (Int × Int))) :=
  if (decide ((wire_59).2 ∈ (known_55).kv.map (·.1))) = true then (
  chk ((wire_59).2 ∈ (known_55).kv.map (·.1)) (
.ex (Er.Meet (dAt known_55 (wire_59).2) wire_59)))
  else (
  chk (known_55.kv.length < sizeLine) (
vl (⟨dPut (known_55).kv (wire_59).2 wire_59⟩ : (Dct Int (Int × Int))) fun known_89 => (
  .ok known_89)))
noncomputable def m_make_board (a_wires : (List (Int × Int))) : R (List (Int × Int)) :=
  R.bind (forR (fun (s_ : Unit) (q_ : (Int × Int)) => m_make_board_b0 q_.1 q_.2) () a_wires) fun _ => (
  vl (⟨[]⟩ : (Dct Int (Int × Int))) fun known_42 => (
  R.bind (forR (fun (s_ : (Dct Int (Int × Int))) (q_ : (Int × Int)) => m_make_board_b1 s_ q_) known_42 a_wires) fun known_55 => (
  chk (known_55.kv.length < 64) (
chk ((sortI (known_55.kv.map (·.1))).length < sizeLine) (
chk ((∀ there_98 ∈ (sortI (known_55.kv.map (·.1))), there_98 ∈ (known_55).kv.map (·.1))) (
.ok ((sortI (known_55.kv.map (·.1))).map (fun (there_98 : Int) => (dAt known_55 there_98)))))))))
noncomputable def m_columns_of (a_field : (Int × Int)) : R (List Int) :=
  chk (-1000000 ≤ (a_field).1 ∧ (a_field).1 ≤ 1000000 ∧ -1000000 ≤ ((a_field).2 + (1 : Int)) ∧ ((a_field).2 + (1 : Int)) ≤ 1000000) (
.ok (rangeL (a_field).1 (((a_field).2 + (1 : Int)) - (a_field).1).toNat))
noncomputable def m_are_apart (a_one : (Int × Int)) (a_other : (Int × Int)) : R Bool :=
  .ok ((decide ((a_one).2 < (a_other).1)) || (decide ((a_other).2 < (a_one).1)))
noncomputable def m_is_name_b0 (sign_3 : Str) : R (LR (Unit) Bool) :=
  if (!inS sign_3 ("abcdefghijklmnopqrstuvwxyz" : Str)) = true then (
  .ok (.ret false))
  else (
  .ok (.nxt ()))
noncomputable def m_is_name (a_text : Str) : R Bool :=
  R.bind (forL (fun (s_ : Unit) (q_ : Str) => m_is_name_b0 q_) () (chars a_text)) fun o_ => LR.go o_ (fun _ => (
  chk (a_text.length ≤ sizeLine) (
.ok (decide ((1 : Int) ≤ ((a_text).length : Int)) && decide (((a_text).length : Int) ≤ (8 : Int)))))) (fun v_ => .ok v_)
noncomputable def m_is_field (a_pair : (Int × Int)) : R Bool :=
  .ok (decide ((1 : Int) ≤ (a_pair).1) && (decide ((a_pair).1 ≤ (a_pair).2) && decide ((a_pair).2 ≤ (36 : Int))))
noncomputable def m_is_wide (a_text : Str) (a_field : (Int × Int)) : R Bool :=
  R.tr (
  R.bind (m_card_of a_text) fun r5 => (
  .ok ()))
 (fun _ => (
  chk (a_text.length ≤ sizeLine) (
R.bind (m_columns_of a_field) fun r18 => (
.ok (decide (((a_text).length : Int) = ((r18).length : Int)))))))
 (fun e_ => match e_ with
  | .NoCard  => (
  .ok false)
  | _ => .bad)
noncomputable def m_is_board (a_board : (List (Int × Int))) : R Bool :=
  R.tr (
  R.bind (m_make_board a_board) fun r5 => (
.ok (decide ((r5 : (List (Int × Int))) = a_board))))
 (fun r_ => .ok r_)
 (fun e_ => match e_ with
  | .Meet p_21 q_22 => (
  .ok false)
  | .NoBoard  => (
  .ok false)
  | _ => .bad)
noncomputable def m_are_picks_b1 (known_77 : (Dct Int Str)) (column_81 : Int) (sign_82 : Str) : R (LR ((Dct Int Str)) Bool) :=
  chk (known_77.kv.length < sizeLine) (
vl ((dGet (known_77).kv column_81).getD sign_82) fun got_104 => (
vl (⟨dSet (known_77).kv column_81 sign_82⟩ : (Dct Int Str)) fun known_105 => (
if (!decide (got_104 = sign_82)) = true then (
  .ok (.ret false))
  else (
  .ok (.nxt known_105)))))
noncomputable def m_are_picks_b0 (known_16 : (Dct Int Str)) (field_20 : (Int × Int)) (text_21 : Str) : R (LR ((Dct Int Str)) Bool) :=
  R.bind (R.bind (m_is_field field_20) fun r46 => (
if (!r46) = true then .ok true else (R.bind (m_is_wide text_21 field_20) fun r47 => (
.ok (!r47))))) fun t48 => (
if t48 = true then (
  .ok (.ret false))
  else (
  R.bind (m_columns_of field_20) fun r65 => (
R.bind (forL (fun (s_ : (Dct Int Str)) (q_ : (Int × Str)) => m_are_picks_b1 s_ q_.1 q_.2) known_16 (r65.zip (chars text_21))) fun o_ => LR.go o_ (fun known_77 => (
  .ok (.nxt known_77))) (fun v_ => .ok (.ret v_)))))
noncomputable def m_are_picks (a_picks : (List ((Int × Int) × Str))) : R Bool :=
  if (decide ((8 : Int) < ((a_picks).length : Int))) = true then (
  .ok false)
  else (
  vl (⟨[]⟩ : (Dct Int Str)) fun known_3 => (
  R.bind (forL (fun (s_ : (Dct Int Str)) (q_ : ((Int × Int) × Str)) => m_are_picks_b0 s_ q_.1 q_.2) known_3 a_picks) fun o_ => LR.go o_ (fun known_16 => (
  .ok true)) (fun v_ => .ok v_)))
noncomputable def m_is_middle (a_middle : PyData) (a_deck : Str) : R Bool :=
  if (dyNone a_middle) = true then (
  .ok true)
  else (
  chk (dySeq a_middle = true ∧ inR (dyItems a_middle).length (0 : Int)) (
chk (SeqAt.shaped (dyAt a_middle (0 : Int)) = true ∧ SeqAt.shaped (ToD.td (("first" : Str) : Str)) = true) (
if (PyData.eqv (dyAt a_middle (0 : Int)) (ToD.td (("first" : Str) : Str))) = true then (
  chk (dySeq a_middle = true ∧ inR (dyItems a_middle).length (1 : Int)) (
chk ((FromD.fd (α := (Int × Int)) (dyAt a_middle (1 : Int))).isSome = true) (
R.bind (m_is_field ((FromD.fd (α := (Int × Int)) (dyAt a_middle (1 : Int))).getD default)) fun r13 => (
.ok r13))))
  else (
  R.bind (chk (dySeq a_middle = true ∧ inR (dyItems a_middle).length (0 : Int)) (
chk (SeqAt.shaped (dyAt a_middle (0 : Int)) = true ∧ SeqAt.shaped (ToD.td (("mates" : Str) : Str)) = true) (
chk (((!PyData.eqv (dyAt a_middle (0 : Int)) (ToD.td (("mates" : Str) : Str))) = true → dySeq a_middle = true ∧ inR (dyItems a_middle).length (0 : Int))) (
chk (((!PyData.eqv (dyAt a_middle (0 : Int)) (ToD.td (("mates" : Str) : Str))) = true → SeqAt.shaped (dyAt a_middle (0 : Int)) = true ∧ SeqAt.shaped (ToD.td (("without" : Str) : Str)) = true)) (
if ((!PyData.eqv (dyAt a_middle (0 : Int)) (ToD.td (("mates" : Str) : Str))) && (!PyData.eqv (dyAt a_middle (0 : Int)) (ToD.td (("without" : Str) : Str)))) = true then .ok true else (chk (dySeq a_middle = true ∧ inR (dyItems a_middle).length (1 : Int)) (
chk ((FromD.fd (α := Str) (dyAt a_middle (1 : Int))).isSome = true) (
R.bind (m_is_name ((FromD.fd (α := Str) (dyAt a_middle (1 : Int))).getD default)) fun r27 => (
if (!r27) = true then .ok true else (chk (dySeq a_middle = true ∧ inR (dyItems a_middle).length (1 : Int)) (
chk (SeqAt.shaped (dyAt a_middle (1 : Int)) = true ∧ SeqAt.shaped (ToD.td (a_deck : Str)) = true) (
.ok (PyData.eqv (dyAt a_middle (1 : Int)) (ToD.td (a_deck : Str))))))))))))))) fun t31 => (
if t31 = true then (
  .ok false)
  else (
  chk (dySeq a_middle = true ∧ inR (dyItems a_middle).length (2 : Int)) (
chk ((FromD.fd (α := (Int × Int)) (dyAt a_middle (2 : Int))).isSome = true) (
vl ((FromD.fd (α := (Int × Int)) (dyAt a_middle (2 : Int))).getD default) fun one_53 => (
  chk (dySeq a_middle = true ∧ inR (dyItems a_middle).length (3 : Int)) (
chk ((FromD.fd (α := (Int × Int)) (dyAt a_middle (3 : Int))).isSome = true) (
vl ((FromD.fd (α := (Int × Int)) (dyAt a_middle (3 : Int))).getD default) fun other_61 => (
  R.bind (R.bind (m_is_field one_53) fun r64 => (
if r64 = true then (R.bind (m_is_field other_61) fun r65 => (
if r65 = true then (.ok (decide (((one_53).2 - (one_53).1) = ((other_61).2 - (other_61).1)))) else .ok false)) else .ok false)) fun t66 => (
.ok t66)))))))))))))
noncomputable def m_main_field (a_middle : PyData) : R (List (Int × Int)) :=
  if (dyNone a_middle) = true then (
  .ok ([] : (List (Int × Int))))
  else (
  chk (dySeq a_middle = true ∧ inR (dyItems a_middle).length (0 : Int)) (
chk (SeqAt.shaped (dyAt a_middle (0 : Int)) = true ∧ SeqAt.shaped (ToD.td (("first" : Str) : Str)) = true) (
if (PyData.eqv (dyAt a_middle (0 : Int)) (ToD.td (("first" : Str) : Str))) = true then (
  chk (dySeq a_middle = true ∧ inR (dyItems a_middle).length (1 : Int)) (
chk ((FromD.fd (α := (Int × Int)) (dyAt a_middle (1 : Int))).isSome = true) (
.ok [((FromD.fd (α := (Int × Int)) (dyAt a_middle (1 : Int))).getD default)])))
  else (
  chk (dySeq a_middle = true ∧ inR (dyItems a_middle).length (2 : Int)) (
chk ((FromD.fd (α := (Int × Int)) (dyAt a_middle (2 : Int))).isSome = true) (
.ok [((FromD.fd (α := (Int × Int)) (dyAt a_middle (2 : Int))).getD default)]))))))
noncomputable def m_are_works_b1 (kept_126 : (List (Int × Int))) (ahead_130 : (T4 (Int × Int) (Int × Int) Str (Int × Int))) : R ((List (Int × Int))) :=
  chk (kept_126.length + [ahead_130.x2, ahead_130.x4].length ≤ sizeLine) (
vl (kept_126 ++ [ahead_130.x2, ahead_130.x4]) fun kept_150 => (
  .ok kept_150))
noncomputable def m_are_works_b2 (to_32 : (Int × Int)) (field_171 : (Int × Int)) : R (LR (Unit) Bool) :=
  R.bind (m_are_apart to_32 field_171) fun r188 => (
if (!r188) = true then (
  .ok (.ret false))
  else (
  .ok (.nxt ())))
noncomputable def m_are_works_b0 (a_works : (List (T4 (Int × Int) (Int × Int) Str (Int × Int)))) (a_guarded : (List (Int × Int))) (k_10 : Int) (work_11 : (T4 (Int × Int) (Int × Int) Str (Int × Int))) : R (LR (Unit) Bool) :=
  vl (work_11).x1 fun to_32 => (
vl (work_11).x2 fun one_33 => (
vl (work_11).x3 fun word_34 => (
vl (work_11).x4 fun other_35 => (
  if (!(decide (word_34 ∈ (⟨[("plus" : Str), ("less" : Str), ("times" : Str)]⟩ : (TL Str)).l))) = true then (
  .ok (.ret false))
  else (
  R.bind (R.bind (m_is_field to_32) fun r54 => (
if (!r54) = true then .ok true else (R.bind (m_is_field one_33) fun r55 => (
if (!r55) = true then .ok true else (R.bind (m_is_field other_35) fun r56 => (
.ok (!r56))))))) fun t57 => (
if t57 = true then (
  .ok (.ret false))
  else (
  chk ((cutL a_works none (some k_10)).length < sizeLine) (
chk (a_guarded.length + ((cutL a_works none (some k_10)).map (fun (ahead_79 : (T4 (Int × Int) (Int × Int) Str (Int × Int))) => ahead_79.x1)).length ≤ sizeLine) (
vl (a_guarded ++ ((cutL a_works none (some k_10)).map (fun (ahead_79 : (T4 (Int × Int) (Int × Int) Str (Int × Int))) => ahead_79.x1))) fun kept_85 => (
  R.bind (forR (fun (s_ : (List (Int × Int))) (q_ : (T4 (Int × Int) (Int × Int) Str (Int × Int))) => m_are_works_b1 s_ q_) kept_85 (cutL a_works none (some (k_10 + (1 : Int))))) fun kept_126 => (
  R.bind (forL (fun (s_ : Unit) (q_ : (Int × Int)) => m_are_works_b2 to_32 q_) () kept_126) fun o_ => LR.go o_ (fun _ => (
  .ok (.nxt ()))) (fun v_ => .ok (.ret v_)))))))))))))
noncomputable def m_are_works (a_works : (List (T4 (Int × Int) (Int × Int) Str (Int × Int)))) (a_guarded : (List (Int × Int))) : R Bool :=
  if (decide ((4 : Int) < ((a_works).length : Int))) = true then (
  .ok false)
  else (
  R.bind (forL (fun (s_ : Unit) (q_ : (Int × (T4 (Int × Int) (Int × Int) Str (Int × Int)))) => m_are_works_b0 a_works a_guarded q_.1 q_.2) () (enumL 0 a_works)) fun o_ => LR.go o_ (fun _ => (
  .ok true)) (fun v_ => .ok v_))
noncomputable def m_law_cell_at (a_law_script : Scr) (a_law_k : Int) : R Int :=
  if (decide (a_law_k < ((a_law_script).ns.length : Int))) = true then (
  chk (inR a_law_script.ns.length a_law_k) (
.ok (getI a_law_script.ns a_law_k)))
  else (
  .ok (0 : Int))
noncomputable def m_law_whole (a_law_found : PyData) : R Bool :=
  chk ((kitB (dyT a_law_found) "int").isSome = true) (
chk ((((kitB (dyT a_law_found) "int").getD false) = true → (kitB (dyT a_law_found) "bool").isSome = true)) (
.ok (((kitB (dyT a_law_found) "int").getD false) && (!((kitB (dyT a_law_found) "bool").getD false)))))
noncomputable def m_law_name (a_law_cell : Int) : R Str :=
  vl ("abcdefghijklmnopqrstuvwxyz" : Str) fun letters_1 => (
  chk (-(2 ^ 62) ≤ ((1 : Int) + (a_law_cell % (8 : Int))) ∧ ((1 : Int) + (a_law_cell % (8 : Int))) < 2 ^ 62) (
chk ((rangeL 0 (((1 : Int) + (a_law_cell % (8 : Int)))).toNat).length < sizeLine) (
chk ((∀ k_4 ∈ (rangeL 0 (((1 : Int) + (a_law_cell % (8 : Int)))).toNat), CDivC a_law_cell (k_4 + (1 : Int)))) (
chk ((∀ k_4 ∈ (rangeL 0 (((1 : Int) + (a_law_cell % (8 : Int)))).toNat), IntMulOk k_4 k_4)) (
chk ((∀ k_4 ∈ (rangeL 0 (((1 : Int) + (a_law_cell % (8 : Int)))).toNat), okIx letters_1 (((a_law_cell / (k_4 + (1 : Int))) + (k_4 * k_4)) % (26 : Int)))) (
chk ((((rangeL 0 (((1 : Int) + (a_law_cell % (8 : Int)))).toNat).map (fun (k_4 : Int) => (chS letters_1 (((a_law_cell / (k_4 + (1 : Int))) + (k_4 * k_4)) % (26 : Int))))).map (·.length)).sum + ((rangeL 0 (((1 : Int) + (a_law_cell % (8 : Int)))).toNat).map (fun (k_4 : Int) => (chS letters_1 (((a_law_cell / (k_4 + (1 : Int))) + (k_4 * k_4)) % (26 : Int))))).length * ("" : Str).length ≤ 16777216) (
.ok (Txt.join ("" : Str) ((rangeL 0 (((1 : Int) + (a_law_cell % (8 : Int)))).toNat).map (fun (k_4 : Int) => (chS letters_1 (((a_law_cell / (k_4 + (1 : Int))) + (k_4 * k_4)) % (26 : Int)))))))))))))
noncomputable def m_law_other (a_law_name_here : Str) (a_law_cell : Int) : R Str :=
  vl ("abcdefghijklmnopqrstuvwxyz" : Str) fun letters_1 => (
  chk (a_law_name_here.length ≤ sizeLine) (
chk ((0 : Int) < ((a_law_name_here).length : Int)) (
vl (a_law_cell % ((a_law_name_here).length : Int)) fun at_5 => (
  chk (okIx a_law_name_here at_5) (
chk (okIx letters_1 ((((Txt.find letters_1 (chS a_law_name_here at_5)) + (1 : Int)) + ((a_law_cell / (8 : Int)) % (25 : Int))) % (26 : Int))) (
vl (chS letters_1 ((((Txt.find letters_1 (chS a_law_name_here at_5)) + (1 : Int)) + ((a_law_cell / (8 : Int)) % (25 : Int))) % (26 : Int))) fun letter_9 => (
  chk (a_law_name_here.length ≤ sizeLine) (
chk ((cutS a_law_name_here none (some at_5)).length + letter_9.length ≤ sizeLine) (
chk (a_law_name_here.length ≤ sizeLine) (
chk (((cutS a_law_name_here none (some at_5)) ++ letter_9).length + (cutS a_law_name_here (some (at_5 + (1 : Int))) none).length ≤ sizeLine) (
.ok (((cutS a_law_name_here none (some at_5)) ++ letter_9) ++ (cutS a_law_name_here (some (at_5 + (1 : Int))) none)))))))))))))
noncomputable def m_law_span (a_law_number : Int) (a_law_high : Int) (a_law_wide : Int) : R (Int × Int) :=
  chk ((0 : Int) < a_law_high) (
vl ((1 : Int) + (a_law_number % a_law_high)) fun first_2 => (
  chk ((0 : Int) < a_law_wide) (
.ok (first_2, (min2 a_law_high (first_2 + ((a_law_number / (24 : Int)) % a_law_wide)))))))
noncomputable def m_law_middle (a_law_name_here : Str) (a_law_cell : Int) : R PyData :=
  R.bind (m_law_span (a_law_cell / (4 : Int)) (24 : Int) (6 : Int)) fun r1 => (
  vl ((r1).2 - (r1).1) fun wide_6 => (
  chk ((0 : Int) < ((36 : Int) - wide_6)) (
vl ((1 : Int) + ((a_law_cell / (9 : Int)) % ((36 : Int) - wide_6))) fun first_9 => (
  if (decide ((a_law_cell % (4 : Int)) = (1 : Int))) = true then (
  .ok (ToD.td ((("first" : Str), r1) : (Str × (Int × Int)))))
  else (
  if (decide ((1 : Int) < (a_law_cell % (4 : Int)))) = true then (
  chk (inR [("mates" : Str), ("without" : Str)].length (a_law_cell % (2 : Int))) (
R.bind (m_law_other a_law_name_here (a_law_cell / (4 : Int))) fun r20 => (
.ok (ToD.td ((⟨(getI [("mates" : Str), ("without" : Str)] (a_law_cell % (2 : Int))), r20, r1, (first_9, (first_9 + wide_6))⟩ : (T4 Str Str (Int × Int) (Int × Int))) : (T4 Str Str (Int × Int) (Int × Int)))))))
  else (
  .ok (ToD.td (() : Unit))))))))
noncomputable def m_law_work_j0 (a_law_number : Int) (to_1 : (Int × Int)) (r12 : (Int × Int)) (one_17 : (Int × Int)) : R ((T4 (Int × Int) (Int × Int) Str (Int × Int))) :=
  chk (inR [("plus" : Str), ("less" : Str), ("times" : Str)].length ((a_law_number / (4 : Int)) % (3 : Int))) (
.ok (⟨to_1, one_17, (getI [("plus" : Str), ("less" : Str), ("times" : Str)] ((a_law_number / (4 : Int)) % (3 : Int))), r12⟩ : (T4 (Int × Int) (Int × Int) Str (Int × Int))))
noncomputable def m_law_work (a_law_number : Int) (a_law_k : Int) : R (T4 (Int × Int) (Int × Int) Str (Int × Int)) :=
  vl (((25 : Int) + ((3 : Int) * a_law_k)), (((25 : Int) + ((3 : Int) * a_law_k)) + (a_law_number % (3 : Int)))) fun to_1 => (
  R.bind (m_law_span (a_law_number / (3 : Int)) (24 : Int) (6 : Int)) fun r7 => (
  R.bind (m_law_span (a_law_number / (5 : Int)) (24 : Int) (3 : Int)) fun r12 => (
  R.bind (if ((decide ((0 : Int) < a_law_k)) && (decide (((a_law_number / (2 : Int)) % (3 : Int)) = (1 : Int)))) = true then (
  chk ((0 : Int) < a_law_k) (
vl ((25 : Int) + ((3 : Int) * ((a_law_number / (7 : Int)) % a_law_k))) fun at_24 => (
  vl (at_24, (at_24 + ((a_law_number / (11 : Int)) % (3 : Int)))) fun one_26 => (
  .ok one_26))))
  else (
  .ok r7)) fun (s_ : (Int × Int)) => m_law_work_j0 a_law_number to_1 r12 s_)))
noncomputable def m_law_drawn_j3 (kind_75 : Int) (number_77 : Int) (some_206 : (List (List PyData))) : R ((List (List PyData))) :=
  R.bind (if (decide (kind_75 = (4 : Int))) = true then (chk (inR some_206.length (4 : Int)) (
chk ((getI some_206 (4 : Int)).length < sizeLine) (
chk ((∀ wire_248 ∈ (getI some_206 (4 : Int)), dySeq wire_248 = true ∧ inR (dyItems wire_248).length (1 : Int))) (
chk ((∀ wire_248 ∈ (getI some_206 (4 : Int)), (FromD.fd (α := Int) (dyAt wire_248 (1 : Int))).isSome = true)) (
.ok (!(decide (((1 : Int) + ((number_77 / (40 : Int)) % (36 : Int))) ∈ ((getI some_206 (4 : Int)).map (fun (wire_248 : PyData) => ((FromD.fd (α := Int) (dyAt wire_248 (1 : Int))).getD default))))))))))) else .ok false) fun t256 => (
if t256 = true then (
  chk (inR some_206.length (4 : Int)) (
chk ((getI some_206 (4 : Int)).length < sizeLine) (
vl ((getI some_206 (4 : Int)) ++ [(ToD.td ((((1 : Int) + (number_77 % (40 : Int))), ((1 : Int) + ((number_77 / (40 : Int)) % (36 : Int)))) : (Int × Int)))]) fun part_303 => (
vl (setI some_206 (4 : Int) part_303) fun some_305 => (
  .ok some_305)))))
  else (
  .ok some_206))
noncomputable def m_law_drawn_j2 (kind_75 : Int) (number_77 : Int) (some_178 : (List (List PyData))) : R ((List (List PyData))) :=
  R.bind (if (decide (kind_75 = (3 : Int))) = true then (
  chk (inR some_178.length (3 : Int)) (
R.bind (m_law_span number_77 (36 : Int) (8 : Int)) fun r219 => (
chk ((getI some_178 (3 : Int)).length < sizeLine) (
vl ((getI some_178 (3 : Int)) ++ [(ToD.td (r219 : (Int × Int)))]) fun part_227 => (
vl (setI some_178 (3 : Int) part_227) fun some_229 => (
  .ok some_229))))))
  else (
  .ok some_178)) fun (s_ : (List (List PyData))) => m_law_drawn_j3 kind_75 number_77 s_
noncomputable def m_law_drawn_j1 (kind_75 : Int) (number_77 : Int) (some_152 : (List (List PyData))) : R ((List (List PyData))) :=
  R.bind (if (decide (kind_75 = (2 : Int))) = true then (
  chk (inR some_152.length (2 : Int)) (
R.bind (m_law_work number_77 (((getI some_152 (2 : Int))).length : Int)) fun r193 => (
chk ((getI some_152 (2 : Int)).length < sizeLine) (
vl ((getI some_152 (2 : Int)) ++ [(ToD.td (r193 : (T4 (Int × Int) (Int × Int) Str (Int × Int))))]) fun part_201 => (
vl (setI some_152 (2 : Int) part_201) fun some_203 => (
  .ok some_203))))))
  else (
  .ok some_152)) fun (s_ : (List (List PyData))) => m_law_drawn_j2 kind_75 number_77 s_
noncomputable def m_law_drawn_j0 (kind_75 : Int) (number_77 : Int) (some_95 : (List (List PyData))) : R ((List (List PyData))) :=
  R.bind (if (decide (kind_75 = (1 : Int))) = true then (
  chk (inR some_95.length (1 : Int)) (
R.bind (m_law_span number_77 (24 : Int) (4 : Int)) fun r165 => (
chk ((getI some_95 (1 : Int)).length < sizeLine) (
vl ((getI some_95 (1 : Int)) ++ [(ToD.td (r165 : (Int × Int)))]) fun part_173 => (
vl (setI some_95 (1 : Int) part_173) fun some_175 => (
  .ok some_175))))))
  else (
  .ok some_95)) fun (s_ : (List (List PyData))) => m_law_drawn_j1 kind_75 number_77 s_
noncomputable def m_law_drawn_b0 (signs_1 : Str) (r3 : Int) (some_53 : (List (List PyData))) (cell_57 : Int) : R ((List (List PyData))) :=
  vl (cell_57 % (5 : Int)) fun kind_75 => (
  vl (cell_57 / (5 : Int)) fun number_77 => (
  chk (inR some_53.length kind_75) (
chk (inR [(8 : Int), (6 : Int), (4 : Int), (4 : Int), (36 : Int)].length kind_75) (
if (decide ((getI [(8 : Int), (6 : Int), (4 : Int), (4 : Int), (36 : Int)] kind_75) ≤ (((getI some_53 kind_75)).length : Int))) = true then (
  .ok some_53)
  else (
  R.bind (if (decide (kind_75 = (0 : Int))) = true then (
  R.bind (m_law_span number_77 (24 : Int) (5 : Int)) fun r101 => (
  chk (-(2 ^ 62) ≤ (r101).1 ∧ (r101).1 < 2 ^ 62 ∧ -(2 ^ 62) ≤ ((r101).2 + (1 : Int)) ∧ ((r101).2 + (1 : Int)) < 2 ^ 62) (
chk ((rangeL (r101).1 (((r101).2 + (1 : Int)) - (r101).1).toNat).length < sizeLine) (
chk ((∀ at_107 ∈ (rangeL (r101).1 (((r101).2 + (1 : Int)) - (r101).1).toNat), IntMulOk at_107 at_107)) (
chk ((∀ at_107 ∈ (rangeL (r101).1 (((r101).2 + (1 : Int)) - (r101).1).toNat), IntMulOk (at_107 * at_107) ((1 : Int) + (r3 % (7 : Int))))) (
chk ((∀ at_107 ∈ (rangeL (r101).1 (((r101).2 + (1 : Int)) - (r101).1).toNat), okIx signs_1 ((r3 + ((at_107 * at_107) * ((1 : Int) + (r3 % (7 : Int))))) % (37 : Int)))) (
chk ((((rangeL (r101).1 (((r101).2 + (1 : Int)) - (r101).1).toNat).map (fun (at_107 : Int) => (chS signs_1 ((r3 + ((at_107 * at_107) * ((1 : Int) + (r3 % (7 : Int))))) % (37 : Int))))).map (·.length)).sum + ((rangeL (r101).1 (((r101).2 + (1 : Int)) - (r101).1).toNat).map (fun (at_107 : Int) => (chS signs_1 ((r3 + ((at_107 * at_107) * ((1 : Int) + (r3 % (7 : Int))))) % (37 : Int))))).length * ("" : Str).length ≤ 16777216) (
vl (Txt.join ("" : Str) ((rangeL (r101).1 (((r101).2 + (1 : Int)) - (r101).1).toNat).map (fun (at_107 : Int) => (chS signs_1 ((r3 + ((at_107 * at_107) * ((1 : Int) + (r3 % (7 : Int))))) % (37 : Int)))))) fun text_132 => (
  chk (inR some_53.length (0 : Int)) (
chk ((getI some_53 (0 : Int)).length < sizeLine) (
vl ((getI some_53 (0 : Int)) ++ [(ToD.td ((r101, text_132) : ((Int × Int) × Str)))]) fun part_147 => (
vl (setI some_53 (0 : Int) part_147) fun some_149 => (
  .ok some_149)))))))))))))
  else (
  .ok some_53)) fun (s_ : (List (List PyData))) => m_law_drawn_j0 kind_75 number_77 s_)))))
noncomputable def m_law_drawn (a_law_script : Scr) : R (List (List PyData)) :=
  vl (" 0123456789ABCDEFGHIJKLMNOPQRSTUVWXYZ" : Str) fun signs_1 => (
  R.bind (m_law_cell_at a_law_script (3 : Int)) fun r3 => (
  vl [([] : (List PyData)), ([] : (List PyData)), ([] : (List PyData)), ([] : (List PyData)), ([] : (List PyData))] fun some_37 => (
  R.bind (forR (fun (s_ : (List (List PyData))) (q_ : Int) => m_law_drawn_b0 signs_1 r3 s_ q_) some_37 (cutL a_law_script.ns (some (4 : Int)) (some (67 : Int)))) fun some_53 => (
  .ok some_53))))
noncomputable def m_law_turned (a_law_field : (Int × Int)) : R (Int × Int) :=
  .ok (((37 : Int) - (a_law_field).2), ((37 : Int) - (a_law_field).1))
noncomputable def m_law_parts_b0 (turned_here_199 : (List (T4 (Int × Int) (Int × Int) Str (Int × Int)))) (to_203 : (Int × Int)) (one_204 : (Int × Int)) (word_205 : Str) (other_here_206 : (Int × Int)) : R ((List (T4 (Int × Int) (Int × Int) Str (Int × Int)))) :=
  R.bind (m_law_turned to_203) fun r239 => (
R.bind (m_law_turned one_204) fun r240 => (
R.bind (m_law_turned other_here_206) fun r241 => (
chk (turned_here_199.length < sizeLine) (
vl (turned_here_199 ++ [(⟨r239, r240, word_205, r241⟩ : (T4 (Int × Int) (Int × Int) Str (Int × Int)))]) fun turned_here_261 => (
  .ok turned_here_261)))))
noncomputable def m_law_parts_j0 (r5 : Str) (r18 : Int) (wires_61 : (List (Int × Int))) (picks_63 : (List ((Int × Int) × Str))) (order_64 : (List (Int × Int))) (totals_65 : (List (Int × Int))) (works_66 : (List (T4 (Int × Int) (Int × Int) Str (Int × Int)))) (middle_here_67 : PyData) : R ((List PyData)) :=
  chk (wires_61.length < sizeLine) (
chk ((sortP (wires_61.map (fun (wire_313 : (Int × Int)) => ((wire_313).2, (wire_313).1)))).length < sizeLine) (
vl ((sortP (wires_61.map (fun (wire_313 : (Int × Int)) => ((wire_313).2, (wire_313).1)))).map (fun (q317 : (Int × Int)) => (q317.2, q317.1))) fun wired_323 => (
  chk ((0 : Int) < ((min2 (3 : Int) ((order_64).length : Int)) + (1 : Int))) (
vl (r18 % ((min2 (3 : Int) ((order_64).length : Int)) + (1 : Int))) fun broken_386 => (
  .ok [(ToD.td (r5 : Str)), (ToD.td (picks_63 : (List ((Int × Int) × Str)))), middle_here_67, (ToD.td (order_64 : (List (Int × Int)))), (ToD.td (works_66 : (List (T4 (Int × Int) (Int × Int) Str (Int × Int))))), (ToD.td (broken_386 : Int)), (ToD.td (totals_65 : (List (Int × Int)))), (ToD.td (((1 : Int) + ((r18 / (4 : Int)) % (12 : Int))) : Int)), (ToD.td (wired_323 : (List (Int × Int))))])))))
noncomputable def m_law_parts (a_law_script : Scr) : R (List PyData) :=
  R.bind (m_law_cell_at a_law_script (0 : Int)) fun r1 => (
  R.bind (m_law_name (r1 / (2 : Int))) fun r5 => (
  R.bind (m_law_cell_at a_law_script (1 : Int)) fun r9 => (
R.bind (m_law_middle r5 r9) fun r10 => (
  R.bind (m_law_cell_at a_law_script (2 : Int)) fun r18 => (
  R.bind (m_law_drawn a_law_script) fun r22 => (
chk (r22.length = 5) (
chk ((fdAll (α := ((Int × Int) × Str)) (getI r22 0)).isSome = true) (
vl ((fdAll (α := ((Int × Int) × Str)) (getI r22 0)).getD []) fun picks_49 => (
chk ((fdAll (α := (Int × Int)) (getI r22 1)).isSome = true) (
vl ((fdAll (α := (Int × Int)) (getI r22 1)).getD []) fun order_52 => (
chk ((fdAll (α := (T4 (Int × Int) (Int × Int) Str (Int × Int))) (getI r22 2)).isSome = true) (
vl ((fdAll (α := (T4 (Int × Int) (Int × Int) Str (Int × Int))) (getI r22 2)).getD []) fun works_55 => (
chk ((fdAll (α := (Int × Int)) (getI r22 3)).isSome = true) (
vl ((fdAll (α := (Int × Int)) (getI r22 3)).getD []) fun totals_58 => (
chk ((fdAll (α := (Int × Int)) (getI r22 4)).isSome = true) (
vl ((fdAll (α := (Int × Int)) (getI r22 4)).getD []) fun wires_61 => (
  R.bind (if (decide ((r1 % (2 : Int)) = (1 : Int))) = true then (
  chk (picks_49.length < sizeLine) (
R.bind (lcR (fun (q76 : ((Int × Int) × Str)) => (
R.bind (m_law_turned q76.1) fun r81 => (
chk (q76.2.length ≤ sizeLine) (
.ok (some (r81, (revS q76.2))))))) picks_49) fun r84 => (
  chk (order_52.length < sizeLine) (
R.bind (lcR (fun (field_120 : (Int × Int)) => (
R.bind (m_law_turned field_120) fun r123 => (
.ok (some r123)))) order_52) fun r125 => (
  chk (totals_58.length < sizeLine) (
R.bind (lcR (fun (field_153 : (Int × Int)) => (
R.bind (m_law_turned field_153) fun r156 => (
.ok (some r156)))) totals_58) fun r158 => (
  vl ([] : (List (T4 (Int × Int) (Int × Int) Str (Int × Int)))) fun turned_here_186 => (
  R.bind (forR (fun (s_ : (List (T4 (Int × Int) (Int × Int) Str (Int × Int)))) (q_ : (T4 (Int × Int) (Int × Int) Str (Int × Int))) => m_law_parts_b0 s_ q_.x1 q_.x2 q_.x3 q_.x4) turned_here_186 works_55) fun turned_here_199 => (
    if (!dyNone r10) = true then (
  chk (dySeq r10 = true) (
chk (dySeq r10 = true) (
vl ((((dyItems r10).length : Int) - (1 : Int)) - (b2i (decide (((dyItems r10).length : Int) = (4 : Int))))) fun at_275 => (
  chk ((FromD.fd (α := (TL PyData)) r10).isSome = true) (
chk (dySeq r10 = true ∧ inR (dyItems r10).length at_275) (
chk ((FromD.fd (α := (Int × Int)) (dyAt r10 at_275)).isSome = true) (
R.bind (m_law_turned ((FromD.fd (α := (Int × Int)) (dyAt r10 at_275)).getD default)) fun r283 => (
chk ((⟨cutL ((FromD.fd (α := (TL PyData)) r10).getD default).l none (some at_275)⟩ : (TL PyData)).l.length + (⟨[(ToD.td (r283 : (Int × Int)))]⟩ : (TL PyData)).l.length ≤ sizeLine) (
chk ((FromD.fd (α := (TL PyData)) r10).isSome = true) (
chk ((⟨(⟨cutL ((FromD.fd (α := (TL PyData)) r10).getD default).l none (some at_275)⟩ : (TL PyData)).l ++ (⟨[(ToD.td (r283 : (Int × Int)))]⟩ : (TL PyData)).l⟩ : (TL PyData)).l.length + (⟨cutL ((FromD.fd (α := (TL PyData)) r10).getD default).l (some (at_275 + (1 : Int))) none⟩ : (TL PyData)).l.length ≤ sizeLine) (
vl (ToD.td ((⟨(⟨(⟨cutL ((FromD.fd (α := (TL PyData)) r10).getD default).l none (some at_275)⟩ : (TL PyData)).l ++ (⟨[(ToD.td (r283 : (Int × Int)))]⟩ : (TL PyData)).l⟩ : (TL PyData)).l ++ (⟨cutL ((FromD.fd (α := (TL PyData)) r10).getD default).l (some (at_275 + (1 : Int))) none⟩ : (TL PyData)).l⟩ : (TL PyData)) : (TL PyData))) fun middle_here_287 => (
  .ok (r84, r125, r158, turned_here_199, middle_here_287)))))))))))))
  else (
  .ok (r84, r125, r158, turned_here_199, r10)))))))))))
  else (
  .ok (picks_49, order_52, totals_58, works_55, r10))) fun (s_ : (List ((Int × Int) × Str)) × (List (Int × Int)) × (List (Int × Int)) × (List (T4 (Int × Int) (Int × Int) Str (Int × Int))) × PyData) => m_law_parts_j0 r5 r18 wires_61 s_.1 s_.2.1 s_.2.2.1 s_.2.2.2.1 s_.2.2.2.2)))))))))))))))))
noncomputable def m_law_told (a_law_asking : Asking) : R (List PyData) :=
  vl [(ToD.td ((a_law_asking).deck : Str)), (ToD.td ((a_law_asking).picks : (List ((Int × Int) × Str)))), (a_law_asking).middle, (ToD.td ((a_law_asking).order : (List (Int × Int)))), (ToD.td ((a_law_asking).works : (List (T4 (Int × Int) (Int × Int) Str (Int × Int))))), (ToD.td ((a_law_asking).breaks : Int))] fun told_here_5 => (
  chk (told_here_5.length + [(ToD.td ((a_law_asking).sums : (List (Int × Int)))), (ToD.td ((a_law_asking).figures : Int)), (ToD.td ((a_law_asking).board : (List (Int × Int))))].length ≤ sizeLine) (
.ok (told_here_5 ++ [(ToD.td ((a_law_asking).sums : (List (Int × Int)))), (ToD.td ((a_law_asking).figures : Int)), (ToD.td ((a_law_asking).board : (List (Int × Int))))])))
noncomputable def m_law_are_b0 (r1 : (List PyData)) (k_19 : Int) : R (LR (Unit) Bool) :=
  chk (inR r1.length k_19) (
chk ((kitB (dyT (getI r1 k_19)) "list").isSome = true) (
if (!((kitB (dyT (getI r1 k_19)) "list").getD false)) = true then (
  .ok (.ret false))
  else (
  .ok (.nxt ()))))
noncomputable def m_law_are (a_law_asking : Asking) (a_law_parts_here : (List PyData)) : R Bool :=
  R.bind (m_law_told a_law_asking) fun r1 => (
  R.bind (forL (fun (s_ : Unit) (q_ : Int) => m_law_are_b0 r1 q_) () [(1 : Int), (3 : Int), (4 : Int), (6 : Int), (8 : Int)]) fun o_ => LR.go o_ (fun _ => (
  R.bind (chk (inR r1.length (0 : Int)) (
chk ((kitB (dyT (getI r1 (0 : Int))) "str").isSome = true) (
if (!((kitB (dyT (getI r1 (0 : Int))) "str").getD false)) = true then .ok true else (chk (inR r1.length (5 : Int)) (
R.bind (m_law_whole (getI r1 (5 : Int))) fun r50 => (
if (!r50) = true then .ok true else (chk (inR r1.length (7 : Int)) (
R.bind (m_law_whole (getI r1 (7 : Int))) fun r53 => (
.ok (!r53)))))))))) fun t54 => (
if t54 = true then (
  .ok false)
  else (
  chk (SeqAt.shaped (ToD.td (r1 : (List PyData))) = true ∧ SeqAt.shaped (ToD.td (a_law_parts_here : (List PyData))) = true) (
.ok (PyData.eqv (ToD.td (r1 : (List PyData))) (ToD.td (a_law_parts_here : (List PyData))))))))) (fun v_ => .ok v_))
noncomputable def m_Asking_is_fit_b0 (field_48 : (Int × Int)) : R (LR (Unit) Bool) :=
  R.bind (m_is_field field_48) fun r65 => (
if (!r65) = true then (
  .ok (.ret false))
  else (
  .ok (.nxt ())))
noncomputable def m_Asking_is_fit (a_self : Asking) : R Bool :=
  R.bind (R.bind (m_is_name (a_self).deck) fun r1 => (
if (!r1) = true then .ok true else (R.bind (m_are_picks (a_self).picks) fun r3 => (
if (!r3) = true then .ok true else (R.bind (m_is_middle (a_self).middle (a_self).deck) fun r5 => (
.ok (!r5))))))) fun t6 => (
if t6 = true then (
  .ok false)
  else (
  if ((decide ((6 : Int) < (((a_self).order).length : Int))) || ((decide ((4 : Int) < (((a_self).sums).length : Int))) || (!(decide ((1 : Int) ≤ (a_self).figures) && decide ((a_self).figures ≤ (12 : Int)))))) = true then (
  .ok false)
  else (
  chk ((a_self).order.length + (a_self).sums.length ≤ sizeLine) (
R.bind (forL (fun (s_ : Unit) (q_ : (Int × Int)) => m_Asking_is_fit_b0 q_) () ((a_self).order ++ (a_self).sums)) fun o_ => LR.go o_ (fun _ => (
  R.bind (if (!(decide ((0 : Int) ≤ (a_self).breaks) && decide ((a_self).breaks ≤ (min2 (3 : Int) (((a_self).order).length : Int))))) = true then .ok true else (R.bind (m_is_board (a_self).board) fun r77 => (
.ok (!r77)))) fun t78 => (
if t78 = true then (
  .ok false)
  else (
  chk ((a_self).picks.length < sizeLine) (
R.bind (m_main_field (a_self).middle) fun r100 => (
chk (((a_self).picks.map (fun (q93 : ((Int × Int) × Str)) => q93.1)).length + r100.length ≤ sizeLine) (
chk ((((a_self).picks.map (fun (q93 : ((Int × Int) × Str)) => q93.1)) ++ r100).length + (a_self).order.length ≤ sizeLine) (
vl ((((a_self).picks.map (fun (q93 : ((Int × Int) × Str)) => q93.1)) ++ r100) ++ (a_self).order) fun guarded_104 => (
  R.bind (m_are_works (a_self).works guarded_104) fun r147 => (
.ok r147)))))))))) (fun v_ => .ok v_)))))
noncomputable def m_Asking___init__ (a_deck : Str) (a_picks : (List ((Int × Int) × Str))) (a_middle : PyData) (a_order : (List (Int × Int))) (a_works : (Option (List (T4 (Int × Int) (Int × Int) Str (Int × Int))))) (a_breaks : Int) (a_sums : (Option (List (Int × Int)))) (a_figures : Int) (a_board : (Option (List (Int × Int)))) : R Asking :=
  vl a_deck fun self_deck_1 => (
  vl a_picks fun self_picks_3 => (
  chk (immD a_middle = true) (
vl a_middle fun self_middle_11 => (
  vl a_order fun self_order_14 => (
  vl (a_works.getD []) fun self_works_22 => (
  vl a_breaks fun self_breaks_34 => (
  vl (a_sums.getD []) fun self_sums_36 => (
  vl a_figures fun self_figures_48 => (
  vl (a_board.getD []) fun self_board_50 => (
  R.bind (m_Asking_is_fit (⟨self_deck_1, self_picks_3, self_middle_11, self_order_14, self_works_22, self_breaks_34, self_sums_36, self_figures_48, self_board_50⟩ : Asking)) fun r62 => (
if (!r62) = true then (
  .bad)
  else (
  .ok (⟨self_deck_1, self_picks_3, self_middle_11, self_order_14, self_works_22, self_breaks_34, self_sums_36, self_figures_48, self_board_50⟩ : Asking)))))))))))))
noncomputable def m_law_b0 (r1 : (List PyData)) (handed_49 : (List Dm)) (k_53 : Int) : R ((List Dm)) :=
  chk (inR r1.length k_53) (
chk ((FromD.fd (α := (List PyData)) (getI r1 k_53)).isSome = true) (
chk (inR handed_49.length k_53) (
vl (setI handed_49 k_53 (Dm.own ((FromD.fd (α := (List PyData)) (getI r1 k_53)).getD default))) fun handed_82 => (
  .ok handed_82))))
noncomputable def m_law_b1 (handed_360 : (List Dm)) (k_364 : Int) : R ((List Dm)) :=
  chk (inR handed_360.length k_364) (
chk (((getI handed_360 k_364)).isO = true) (
chk (((getI handed_360 k_364)).its.length < sizeLine) (
vl (((getI handed_360 k_364)).its ++ [(ToD.td (((1 : Int), (36 : Int)) : (Int × Int)))]) fun part_396 => (
vl (setI handed_360 k_364 (Dm.own part_396)) fun handed_398 => (
  .ok handed_398)))))
noncomputable def m_law (a_law_script : Scr) : R Bool :=
  R.bind (m_law_parts a_law_script) fun r1 => (
  chk (r1.length < sizeLine) (
vl (r1.map (fun (part_8 : PyData) => part_8)) fun handed_12 => (
  vl (handed_12.map Dm.told) fun handed_38 => (
  R.bind (forR (fun (s_ : (List Dm)) (q_ : Int) => m_law_b0 r1 s_ q_) handed_38 [(1 : Int), (3 : Int), (4 : Int), (6 : Int), (8 : Int)]) fun handed_49 => (
    chk (inR (handed_49.map Dm.dat).length (0 : Int)) (
chk ((FromD.fd (α := Str) (getI (handed_49.map Dm.dat) (0 : Int))).isSome = true) (
chk (inR (handed_49.map Dm.dat).length (1 : Int)) (
chk ((FromD.fd (α := (List ((Int × Int) × Str))) (getI (handed_49.map Dm.dat) (1 : Int))).isSome = true) (
chk (inR (handed_49.map Dm.dat).length (2 : Int)) (
chk (inR (handed_49.map Dm.dat).length (3 : Int)) (
chk ((FromD.fd (α := (List (Int × Int))) (getI (handed_49.map Dm.dat) (3 : Int))).isSome = true) (
chk (inR (cutL (handed_49.map Dm.dat) (some (4 : Int)) none).length (0 : Int)) (
chk ((FromD.fd (α := (List (T4 (Int × Int) (Int × Int) Str (Int × Int)))) (getI (cutL (handed_49.map Dm.dat) (some (4 : Int)) none) (0 : Int))).isSome = true) (
chk (inR (cutL (handed_49.map Dm.dat) (some (4 : Int)) none).length (1 : Int)) (
chk ((FromD.fd (α := Int) (getI (cutL (handed_49.map Dm.dat) (some (4 : Int)) none) (1 : Int))).isSome = true) (
chk (inR (cutL (handed_49.map Dm.dat) (some (4 : Int)) none).length (2 : Int)) (
chk ((FromD.fd (α := (List (Int × Int))) (getI (cutL (handed_49.map Dm.dat) (some (4 : Int)) none) (2 : Int))).isSome = true) (
chk (inR (cutL (handed_49.map Dm.dat) (some (4 : Int)) none).length (3 : Int)) (
chk ((FromD.fd (α := Int) (getI (cutL (handed_49.map Dm.dat) (some (4 : Int)) none) (3 : Int))).isSome = true) (
chk (inR (cutL (handed_49.map Dm.dat) (some (4 : Int)) none).length (4 : Int)) (
chk ((FromD.fd (α := (List (Int × Int))) (getI (cutL (handed_49.map Dm.dat) (some (4 : Int)) none) (4 : Int))).isSome = true) (
R.bind (m_Asking___init__ ((FromD.fd (α := Str) (getI (handed_49.map Dm.dat) (0 : Int))).getD default) ((FromD.fd (α := (List ((Int × Int) × Str))) (getI (handed_49.map Dm.dat) (1 : Int))).getD default) (getI (handed_49.map Dm.dat) (2 : Int)) ((FromD.fd (α := (List (Int × Int))) (getI (handed_49.map Dm.dat) (3 : Int))).getD default) (some ((FromD.fd (α := (List (T4 (Int × Int) (Int × Int) Str (Int × Int)))) (getI (cutL (handed_49.map Dm.dat) (some (4 : Int)) none) (0 : Int))).getD default)) ((FromD.fd (α := Int) (getI (cutL (handed_49.map Dm.dat) (some (4 : Int)) none) (1 : Int))).getD default) (some ((FromD.fd (α := (List (Int × Int))) (getI (cutL (handed_49.map Dm.dat) (some (4 : Int)) none) (2 : Int))).getD default)) ((FromD.fd (α := Int) (getI (cutL (handed_49.map Dm.dat) (some (4 : Int)) none) (3 : Int))).getD default) (some ((FromD.fd (α := (List (Int × Int))) (getI (cutL (handed_49.map Dm.dat) (some (4 : Int)) none) (4 : Int))).getD default))) fun r127 => (
  R.bind (chk (SeqAt.shaped (ToD.td ((handed_49.map Dm.dat) : (List PyData))) = true ∧ SeqAt.shaped (ToD.td (r1 : (List PyData))) = true) (
if (!PyData.eqv (ToD.td ((handed_49.map Dm.dat) : (List PyData))) (ToD.td (r1 : (List PyData)))) = true then .ok true else (R.bind (m_law_are r127 r1) fun r142 => (
.ok (!r142))))) fun t143 => (
if t143 = true then (
  .ok false)
  else (
  chk (inR (handed_49.map Dm.dat).length (0 : Int)) (
chk ((FromD.fd (α := Str) (getI (handed_49.map Dm.dat) (0 : Int))).isSome = true) (
chk (inR (handed_49.map Dm.dat).length (1 : Int)) (
chk ((FromD.fd (α := (List ((Int × Int) × Str))) (getI (handed_49.map Dm.dat) (1 : Int))).isSome = true) (
chk (inR (handed_49.map Dm.dat).length (2 : Int)) (
chk (inR (handed_49.map Dm.dat).length (3 : Int)) (
chk ((FromD.fd (α := (List (Int × Int))) (getI (handed_49.map Dm.dat) (3 : Int))).isSome = true) (
R.bind (m_Asking___init__ ((FromD.fd (α := Str) (getI (handed_49.map Dm.dat) (0 : Int))).getD default) ((FromD.fd (α := (List ((Int × Int) × Str))) (getI (handed_49.map Dm.dat) (1 : Int))).getD default) (getI (handed_49.map Dm.dat) (2 : Int)) ((FromD.fd (α := (List (Int × Int))) (getI (handed_49.map Dm.dat) (3 : Int))).getD default) (none : Option (List (T4 (Int × Int) (Int × Int) Str (Int × Int)))) (0 : Int) (none : Option (List (Int × Int))) (6 : Int) (none : Option (List (Int × Int)))) fun r173 => (
  chk ((cutL r1 none (some (4 : Int))).length + [(ToD.td (([] : (List Int)) : (List Int))), (ToD.td ((0 : Int) : Int)), (ToD.td (([] : (List Int)) : (List Int))), (ToD.td ((6 : Int) : Int)), (ToD.td (([] : (List Int)) : (List Int)))].length ≤ sizeLine) (
vl ((cutL r1 none (some (4 : Int))) ++ [(ToD.td (([] : (List Int)) : (List Int))), (ToD.td ((0 : Int) : Int)), (ToD.td (([] : (List Int)) : (List Int))), (ToD.td ((6 : Int) : Int)), (ToD.td (([] : (List Int)) : (List Int)))]) fun due_182 => (
  R.bind (m_law_are r173 due_182) fun r211 => (
if (!r211) = true then (
  .ok false)
  else (
  chk (inR (handed_49.map Dm.dat).length (0 : Int)) (
chk ((FromD.fd (α := Str) (getI (handed_49.map Dm.dat) (0 : Int))).isSome = true) (
R.bind (m_Asking___init__ ((FromD.fd (α := Str) (getI (handed_49.map Dm.dat) (0 : Int))).getD default) ([] : (List ((Int × Int) × Str))) (ToD.td (() : Unit)) ([] : (List (Int × Int))) (none : Option (List (T4 (Int × Int) (Int × Int) Str (Int × Int)))) (0 : Int) (none : Option (List (Int × Int))) (12 : Int) (none : Option (List (Int × Int)))) fun r224 => (
  chk (inR r1.length (0 : Int)) (
chk ((FromD.fd (α := Str) (getI r1 (0 : Int))).isSome = true) (
R.bind (m_law_are r224 [(ToD.td (((FromD.fd (α := Str) (getI r1 (0 : Int))).getD default) : Str)), (ToD.td (([] : (List Int)) : (List Int))), (ToD.td (() : Unit)), (ToD.td (([] : (List Int)) : (List Int))), (ToD.td (([] : (List Int)) : (List Int))), (ToD.td ((0 : Int) : Int)), (ToD.td (([] : (List Int)) : (List Int))), (ToD.td ((12 : Int) : Int)), (ToD.td (([] : (List Int)) : (List Int)))]) fun r249 => (
if (!r249) = true then (
  .ok false)
  else (
  chk (inR (handed_49.map Dm.dat).length (0 : Int)) (
chk ((FromD.fd (α := Str) (getI (handed_49.map Dm.dat) (0 : Int))).isSome = true) (
chk (inR (handed_49.map Dm.dat).length (1 : Int)) (
chk ((FromD.fd (α := (List ((Int × Int) × Str))) (getI (handed_49.map Dm.dat) (1 : Int))).isSome = true) (
chk (inR (handed_49.map Dm.dat).length (2 : Int)) (
chk (inR (handed_49.map Dm.dat).length (3 : Int)) (
chk ((FromD.fd (α := (List (Int × Int))) (getI (handed_49.map Dm.dat) (3 : Int))).isSome = true) (
chk (inR (cutL (handed_49.map Dm.dat) (some (4 : Int)) none).length (1 : Int)) (
chk ((FromD.fd (α := Int) (getI (cutL (handed_49.map Dm.dat) (some (4 : Int)) none) (1 : Int))).isSome = true) (
chk (inR (cutL (handed_49.map Dm.dat) (some (4 : Int)) none).length (2 : Int)) (
chk ((FromD.fd (α := (List (Int × Int))) (getI (cutL (handed_49.map Dm.dat) (some (4 : Int)) none) (2 : Int))).isSome = true) (
chk (inR (cutL (handed_49.map Dm.dat) (some (4 : Int)) none).length (4 : Int)) (
chk ((FromD.fd (α := (List (Int × Int))) (getI (cutL (handed_49.map Dm.dat) (some (4 : Int)) none) (4 : Int))).isSome = true) (
R.bind (m_Asking___init__ ((FromD.fd (α := Str) (getI (handed_49.map Dm.dat) (0 : Int))).getD default) ((FromD.fd (α := (List ((Int × Int) × Str))) (getI (handed_49.map Dm.dat) (1 : Int))).getD default) (getI (handed_49.map Dm.dat) (2 : Int)) ((FromD.fd (α := (List (Int × Int))) (getI (handed_49.map Dm.dat) (3 : Int))).getD default) (none : Option (List (T4 (Int × Int) (Int × Int) Str (Int × Int)))) ((FromD.fd (α := Int) (getI (cutL (handed_49.map Dm.dat) (some (4 : Int)) none) (1 : Int))).getD default) (some ((FromD.fd (α := (List (Int × Int))) (getI (cutL (handed_49.map Dm.dat) (some (4 : Int)) none) (2 : Int))).getD default)) (6 : Int) (some ((FromD.fd (α := (List (Int × Int))) (getI (cutL (handed_49.map Dm.dat) (some (4 : Int)) none) (4 : Int))).getD default))) fun r306 => (
  chk (inR r1.length (5 : Int)) (
chk ((FromD.fd (α := Int) (getI r1 (5 : Int))).isSome = true) (
chk (inR r1.length (6 : Int)) (
chk ((FromD.fd (α := (List (Int × Int))) (getI r1 (6 : Int))).isSome = true) (
chk (inR r1.length (8 : Int)) (
chk ((FromD.fd (α := (List (Int × Int))) (getI r1 (8 : Int))).isSome = true) (
chk ((cutL r1 none (some (4 : Int))).length + [(ToD.td (([] : (List Int)) : (List Int))), (ToD.td (((FromD.fd (α := Int) (getI r1 (5 : Int))).getD default) : Int)), (ToD.td (((FromD.fd (α := (List (Int × Int))) (getI r1 (6 : Int))).getD default) : (List (Int × Int)))), (ToD.td ((6 : Int) : Int)), (ToD.td (((FromD.fd (α := (List (Int × Int))) (getI r1 (8 : Int))).getD default) : (List (Int × Int))))].length ≤ sizeLine) (
vl ((cutL r1 none (some (4 : Int))) ++ [(ToD.td (([] : (List Int)) : (List Int))), (ToD.td (((FromD.fd (α := Int) (getI r1 (5 : Int))).getD default) : Int)), (ToD.td (((FromD.fd (α := (List (Int × Int))) (getI r1 (6 : Int))).getD default) : (List (Int × Int)))), (ToD.td ((6 : Int) : Int)), (ToD.td (((FromD.fd (α := (List (Int × Int))) (getI r1 (8 : Int))).getD default) : (List (Int × Int))))]) fun more_324 => (
  R.bind (m_law_are r306 more_324) fun r345 => (
if (!r345) = true then (
  .ok false)
  else (
  R.bind (forR (fun (s_ : (List Dm)) (q_ : Int) => m_law_b1 s_ q_) handed_49 [(1 : Int), (3 : Int), (4 : Int), (6 : Int), (8 : Int)]) fun handed_360 => (
  R.bind (R.bind (m_law_are r127 r1) fun r406 => (
if r406 = true then (R.bind (m_law_are r173 due_182) fun r407 => (
if r407 = true then (R.bind (m_law_are r306 more_324) fun r408 => (
.ok r408)) else .ok false)) else .ok false)) fun t409 => (
.ok t409))))))))))))))))))))))))))))))))))))))))))))))))))))))))))))))))))))))
/-! ### promises -/
def sp_is_card (K : Fr) (ca : CA) : Sp := fun vs H Q _ => ∃ (Z : Hp) (a_text : Str), vs = [(.str a_text)] ∧ Same Z H ∧ Good (m_is_card a_text) (fun r_ => ∀ Z' H', Step Z H Z' H' → Q (.bl r_) H') NoE
def sp_card_of (K : Fr) (ca : CA) : Sp := fun vs H Q E => ∃ (Z : Hp) (a_text : Str), vs = [(.str a_text)] ∧ Same Z H ∧ Good (m_card_of a_text) (fun r_ => ∀ Z' H', Step Z H Z' H' → Q (.str r_) H') (fun e_ => ∀ Z' H' cls_ d_, Step Z H Z' H' → ExR ca K Z' H' e_ cls_ d_ → E cls_ d_ H')
def sp_make_board (K : Fr) (ca : CA) : Sp := fun vs H Q E => ∃ (Z : Hp) (a_wires : (List (Int × Int))) (v_wires : V), vs = [v_wires] ∧ Same Z H ∧ Py.R K Z v_wires a_wires ∧ Good (m_make_board a_wires) (fun r_ => NewO (Sh.lt (Int × Int)) K Z H Q r_) (fun e_ => ∀ Z' H' cls_ d_, Step Z H Z' H' → ExR ca K Z' H' e_ cls_ d_ → E cls_ d_ H')
def sp_columns_of (K : Fr) (ca : CA) : Sp := fun vs H Q _ => ∃ (Z : Hp) (a_field : (Int × Int)) (v_field : V), vs = [v_field] ∧ Same Z H ∧ Py.R K Z v_field a_field ∧ Good (m_columns_of a_field) (fun r_ => NewO (Sh.lt Int) K Z H Q r_) NoE
def sp_are_apart (K : Fr) (ca : CA) : Sp := fun vs H Q _ => ∃ (Z : Hp) (a_one : (Int × Int)) (v_one : V) (a_other : (Int × Int)) (v_other : V), vs = [v_one, v_other] ∧ Same Z H ∧ Py.R K Z v_one a_one ∧ Py.R K Z v_other a_other ∧ Good (m_are_apart a_one a_other) (fun r_ => ∀ Z' H', Step Z H Z' H' → Q (.bl r_) H') NoE
def sp_is_name (K : Fr) (ca : CA) : Sp := fun vs H Q _ => ∃ (Z : Hp) (a_text : Str), vs = [(.str a_text)] ∧ Same Z H ∧ Good (m_is_name a_text) (fun r_ => ∀ Z' H', Step Z H Z' H' → Q (.bl r_) H') NoE
def sp_is_field (K : Fr) (ca : CA) : Sp := fun vs H Q _ => ∃ (Z : Hp) (a_pair : (Int × Int)) (v_pair : V), vs = [v_pair] ∧ Same Z H ∧ Py.R K Z v_pair a_pair ∧ Good (m_is_field a_pair) (fun r_ => ∀ Z' H', Step Z H Z' H' → Q (.bl r_) H') NoE
def sp_is_wide (K : Fr) (ca : CA) : Sp := fun vs H Q _ => ∃ (Z : Hp) (a_text : Str) (a_field : (Int × Int)) (v_field : V), vs = [(.str a_text), v_field] ∧ Same Z H ∧ Py.R K Z v_field a_field ∧ Good (m_is_wide a_text a_field) (fun r_ => ∀ Z' H', Step Z H Z' H' → Q (.bl r_) H') NoE
def sp_is_board (K : Fr) (ca : CA) : Sp := fun vs H Q _ => ∃ (Z : Hp) (a_board : (List (Int × Int))) (v_board : V), vs = [v_board] ∧ Same Z H ∧ Py.R K Z v_board a_board ∧ Good (m_is_board a_board) (fun r_ => ∀ Z' H', Step Z H Z' H' → Q (.bl r_) H') NoE
def sp_are_picks (K : Fr) (ca : CA) : Sp := fun vs H Q _ => ∃ (Z : Hp) (a_picks : (List ((Int × Int) × Str))) (v_picks : V), vs = [v_picks] ∧ Same Z H ∧ Py.R K Z v_picks a_picks ∧ Good (m_are_picks a_picks) (fun r_ => ∀ Z' H', Step Z H Z' H' → Q (.bl r_) H') NoE
def sp_is_middle (K : Fr) (ca : CA) : Sp := fun vs H Q _ => ∃ (Z : Hp) (a_middle : PyData) (v_middle : V) (a_deck : Str), vs = [v_middle, (.str a_deck)] ∧ Same Z H ∧ Py.R K Z v_middle a_middle ∧ Good (m_is_middle a_middle a_deck) (fun r_ => ∀ Z' H', Step Z H Z' H' → Q (.bl r_) H') NoE
def sp_main_field (K : Fr) (ca : CA) : Sp := fun vs H Q _ => ∃ (Z : Hp) (a_middle : PyData) (v_middle : V), vs = [v_middle] ∧ Same Z H ∧ Py.R K Z v_middle a_middle ∧ Good (m_main_field a_middle) (fun r_ => NewO (Sh.lt (Int × Int)) K Z H Q r_) NoE
def sp_are_works (K : Fr) (ca : CA) : Sp := fun vs H Q _ => ∃ (Z : Hp) (a_works : (List (T4 (Int × Int) (Int × Int) Str (Int × Int)))) (v_works : V) (a_guarded : (List (Int × Int))) (v_guarded : V), vs = [v_works, v_guarded] ∧ Same Z H ∧ Py.R K Z v_works a_works ∧ Py.R K Z v_guarded a_guarded ∧ Good (m_are_works a_works a_guarded) (fun r_ => ∀ Z' H', Step Z H Z' H' → Q (.bl r_) H') NoE
def sp_law_cell_at (K : Fr) (ca : CA) : Sp := fun vs H Q _ => ∃ (Z : Hp) (a_law_script : Scr) (v_law_script : V) (a_law_k : Int), vs = [v_law_script, (.int a_law_k)] ∧ Same Z H ∧ Py.R K Z v_law_script a_law_script ∧ Good (m_law_cell_at a_law_script a_law_k) (fun r_ => ∀ Z' H', Step Z H Z' H' → Q (.int r_) H') NoE
def sp_law_whole (K : Fr) (ca : CA) : Sp := fun vs H Q _ => ∃ (Z : Hp) (a_law_found : PyData) (v_law_found : V), vs = [v_law_found] ∧ Same Z H ∧ Py.R K Z v_law_found a_law_found ∧ Good (m_law_whole a_law_found) (fun r_ => ∀ Z' H', Step Z H Z' H' → Q (.bl r_) H') NoE
def sp_law_name (K : Fr) (ca : CA) : Sp := fun vs H Q _ => ∃ (Z : Hp) (a_law_cell : Int), vs = [(.int a_law_cell)] ∧ Same Z H ∧ Good (m_law_name a_law_cell) (fun r_ => ∀ Z' H', Step Z H Z' H' → Q (.str r_) H') NoE
def sp_law_other (K : Fr) (ca : CA) : Sp := fun vs H Q _ => ∃ (Z : Hp) (a_law_name_here : Str) (a_law_cell : Int), vs = [(.str a_law_name_here), (.int a_law_cell)] ∧ Same Z H ∧ Good (m_law_other a_law_name_here a_law_cell) (fun r_ => ∀ Z' H', Step Z H Z' H' → Q (.str r_) H') NoE
def sp_law_span (K : Fr) (ca : CA) : Sp := fun vs H Q _ => ∃ (Z : Hp) (a_law_number : Int) (a_law_high : Int) (a_law_wide : Int), vs = [(.int a_law_number), (.int a_law_high), (.int a_law_wide)] ∧ Same Z H ∧ Good (m_law_span a_law_number a_law_high a_law_wide) (fun r_ => Tel K Z H Q r_) NoE
def sp_law_middle (K : Fr) (ca : CA) : Sp := fun vs H Q _ => ∃ (Z : Hp) (a_law_name_here : Str) (a_law_cell : Int), vs = [(.str a_law_name_here), (.int a_law_cell)] ∧ Same Z H ∧ Good (m_law_middle a_law_name_here a_law_cell) (fun r_ => Tel K Z H Q r_) NoE
def sp_law_work (K : Fr) (ca : CA) : Sp := fun vs H Q _ => ∃ (Z : Hp) (a_law_number : Int) (a_law_k : Int), vs = [(.int a_law_number), (.int a_law_k)] ∧ Same Z H ∧ Good (m_law_work a_law_number a_law_k) (fun r_ => Tel K Z H Q r_) NoE
def sp_law_drawn (K : Fr) (ca : CA) : Sp := fun vs H Q _ => ∃ (Z : Hp) (a_law_script : Scr) (v_law_script : V), vs = [v_law_script] ∧ Same Z H ∧ Py.R K Z v_law_script a_law_script ∧ Good (m_law_drawn a_law_script) (fun r_ => Tel K Z H Q r_) NoE
def sp_law_turned (K : Fr) (ca : CA) : Sp := fun vs H Q _ => ∃ (Z : Hp) (a_law_field : (Int × Int)) (v_law_field : V), vs = [v_law_field] ∧ Same Z H ∧ Py.R K Z v_law_field a_law_field ∧ Good (m_law_turned a_law_field) (fun r_ => Tel K Z H Q r_) NoE
def sp_law_parts (K : Fr) (ca : CA) : Sp := fun vs H Q _ => ∃ (Z : Hp) (a_law_script : Scr) (v_law_script : V), vs = [v_law_script] ∧ Same Z H ∧ Py.R K Z v_law_script a_law_script ∧ Good (m_law_parts a_law_script) (fun r_ => NewO (Sh.lt PyData) K Z H Q r_) NoE
def sp_law_told (K : Fr) (ca : CA) : Sp := fun vs H Q _ => ∃ (Z : Hp) (a_law_asking : Asking) (v_law_asking : V), vs = [v_law_asking] ∧ Same Z H ∧ Py.R K Z v_law_asking a_law_asking ∧ Good (m_law_told a_law_asking) (fun r_ => NewO (Sh.lt PyData) K Z H Q r_) NoE
def sp_law_are (K : Fr) (ca : CA) : Sp := fun vs H Q _ => ∃ (Z : Hp) (a_law_asking : Asking) (v_law_asking : V) (a_law_parts_here : (List PyData)) (v_law_parts_here : V), vs = [v_law_asking, v_law_parts_here] ∧ Same Z H ∧ Py.R K Z v_law_asking a_law_asking ∧ Py.R K Z v_law_parts_here a_law_parts_here ∧ Good (m_law_are a_law_asking a_law_parts_here) (fun r_ => ∀ Z' H', Step Z H Z' H' → Q (.bl r_) H') NoE
def sp_Asking_is_fit (K : Fr) (ca : CA) : Sp := fun vs H Q _ => ∃ (Z : Hp) (a_self : Asking) (v_self : V), vs = [v_self] ∧ Same Z H ∧ Py.R K Z v_self a_self ∧ Good (m_Asking_is_fit a_self) (fun r_ => ∀ Z' H', Step Z H Z' H' → Q (.bl r_) H') NoE
def sp_Asking___init__ (K : Fr) (ca : CA) : Sp := fun vs H Q _ => ∃ (Z : Hp) (p_self dx_self : Addr) (a_deck : Str) (a_picks : (List ((Int × Int) × Str))) (v_picks : V) (a_middle : PyData) (v_middle : V) (a_order : (List (Int × Int))) (v_order : V) (a_works : (Option (List (T4 (Int × Int) (Int × Int) Str (Int × Int))))) (v_works : V) (a_breaks : Int) (a_sums : (Option (List (Int × Int)))) (v_sums : V) (a_figures : Int) (a_board : (Option (List (Int × Int)))) (v_board : V), vs = [.ref p_self, (.str a_deck), v_picks, v_middle, v_order, v_works, (.int a_breaks), v_sums, (.int a_figures), v_board] ∧ Same Z (delL H [p_self, dx_self]) ∧ (∃ C_, PySem.W.nsIn K mainGlobals "Asking" = some (some (.ref C_)) ∧ H p_self = some (.ins C_ dx_self [])) ∧ H dx_self = some (.own p_self) ∧ Py.R K Z v_picks a_picks ∧ Py.R K Z v_middle a_middle ∧ Py.R K Z v_order a_order ∧ Py.R K Z v_works a_works ∧ Py.R K Z v_sums a_sums ∧ Py.R K Z v_board a_board ∧ Good (m_Asking___init__ a_deck a_picks a_middle a_order a_works a_breaks a_sums a_figures a_board) (fun r_ => ∀ (Z' H' : Hp) (ps' : List Addr), Step Z (delL H [p_self, dx_self]) Z' H' → OwnO sh_Asking K (delL H [p_self, dx_self]) Z' H' (.ref p_self) ps' r_ → Q .non H') NoE
def sp_law (K : Fr) : Sp := fun vs H Q _ => ∃ (Z : Hp) (a_law_script : Scr) (v_law_script : V), vs = [v_law_script] ∧ Same Z H ∧ Py.R K Z v_law_script a_law_script ∧ Good (m_law a_law_script) (fun r_ => ∀ Z' H', Step Z H Z' H' → Q (.bl r_) H') NoE
structure Txt (K : Fr) (mg : Str → Option Value) (ca : CA) (cb : CB) : Prop where
  cl_Asking : Cls K cb.Asking
  gc_Asking : mg "Asking" = some (.ref cb.Asking)
  nk_Asking : PySem.W.nsIn K mainGlobals "Asking" = some (some (.ref cb.Asking))
  na_Asking_deck : NoAttr K cb.Asking "deck"
  na_Asking_picks : NoAttr K cb.Asking "picks"
  na_Asking_middle : NoAttr K cb.Asking "middle"
  na_Asking_order : NoAttr K cb.Asking "order"
  na_Asking_works : NoAttr K cb.Asking "works"
  na_Asking_breaks : NoAttr K cb.Asking "breaks"
  na_Asking_sums : NoAttr K cb.Asking "sums"
  na_Asking_figures : NoAttr K cb.Asking "figures"
  na_Asking_board : NoAttr K cb.Asking "board"
  b_bool : mg "bool" = none
  b_enumerate : mg "enumerate" = none
  b_int : mg "int" = none
  b_isinstance : mg "isinstance" = none
  b_len : mg "len" = none
  b_list : mg "list" = none
  b_min : mg "min" = none
  b_range : mg "range" = none
  b_sorted : mg "sorted" = none
  b_str : mg "str" = none
  b_zip : mg "zip" = none
  g_LETTERS : ∃ t, mg "LETTERS" = some (.str ("abcdefghijklmnopqrstuvwxyz" : Str) t)
  g_SIGNS : ∃ t, mg "SIGNS" = some (.str (" 0123456789ABCDEFGHIJKLMNOPQRSTUVWXYZ" : Str) t)
  g_WIDTH : ∃ t, mg "WIDTH" = some (.int 40 t)
  crd_ShopError : CRd K ca.ShopError
  em_Meet_Meet : PySem.W.exmOne K (.ref ca.Meet) (.ref ca.Meet) = some true
  em_Meet_NoBoard : PySem.W.exmOne K (.ref ca.Meet) (.ref ca.NoBoard) = some false
  em_NoBoard_NoBoard : PySem.W.exmOne K (.ref ca.NoBoard) (.ref ca.NoBoard) = some true
  em_NoCard_NoCard : PySem.W.exmOne K (.ref ca.NoCard) (.ref ca.NoCard) = some true
  ex_NoBoard : PySem.W.excIn K ca.NoBoard [.type "ValueError", .type "Exception", .type "BaseException", .type "object"] "ValueError.__new__" = true
  ex_NoCard : PySem.W.excIn K ca.NoCard [.type "ValueError", .type "Exception", .type "BaseException", .type "object"] "ValueError.__new__" = true
  gx_Meet : mg "Meet" = some (.ref ca.Meet)
  gx_NoBoard : mg "NoBoard" = some (.ref ca.NoBoard)
  gx_NoCard : mg "NoCard" = some (.ref ca.NoCard)
  gx_ShopError : mg "ShopError" = some (.ref ca.ShopError)
  kx_NoBoard : PySem.W.keepIn K (.ref ca.NoBoard) = true
  kx_NoCard : PySem.W.keepIn K (.ref ca.NoCard) = true
  oe_Meet : OexC K ca.Meet
  su_NoBoard : PySem.W.subIn K (.ref ca.NoBoard) (.type "BaseException") = some true
  su_NoCard : PySem.W.subIn K (.ref ca.NoCard) (.type "BaseException") = some true
  ty_NoBoard : PySem.W.typeIn K (.ref ca.NoBoard) = some (.type "type")
  ty_NoCard : PySem.W.typeIn K (.ref ca.NoCard) = some (.type "type")
  vin_ShopError : PySem.W.findCls K (.ref ca.ShopError) (.type "type") "__init__" = some (.val (.builtin "ValueError.__init__"))
  xf_Meet : XfC K ca.Meet
  xn_Meet_one : PySem.W.findIn K (.ref ca.Meet) "one" = some none
  xn_Meet_other : PySem.W.findIn K (.ref ca.Meet) "other" = some none
section
variable {P : Program} {w : World} {K : Fr} {mg : Str → Option Value} {base : Heap} {ca : CA} {cb : CB}
theorem sc_Meet___init__ : FnScope ["self", "one", "other"] ["self", "one", "other"] (defScope (inClass (topS 4) 0)) := ⟨rfl, rfl, rfl, by decide +kernel, rfl, by decide +kernel, by decide +kernel⟩
theorem okf_Meet___init__ {f : Addr} {fd : FuncData} (F : Fun K "__init__" "Meet.__init__" (inClass (topS 4) 0) f fd) (T : Txt K mg ca cb) : FnOk P w K mg base CX0 1 f fd ["self", "one", "other"] (sp_Meet K) := by
  refine F.ok sc_Meet___init__ (fun vs H0 Q E h => ?_) (fun cdv A outer s H0 vs Q E hr h => ?_)
  · obtain ⟨a, C, u, v, rfl, T1, n1, n2, ha, k⟩ := h
    rfl
  · obtain ⟨a, C, u, v, rfl, T1, n1, n2, ha, k⟩ := h
    have nd := sc_Meet___init__.nd
    refine ⟨_, (pss_cons (ps_expr (pe_cinit rfl T.gx_ShopError T.crd_ShopError T.vin_ShopError (pa_cons (pv 0) (pa_cons (pcK pe_str) pnK)))) (pss_cons (ps_ost (pv 0) (pv 1)) (pss_one (ps_ost (pv 0) (pv 2))))), ?_⟩
    refine ⟨_, rfl, ⟨trivial, ⟨trivial, a, C, _, rfl, Nat.le_of_ble_eq_true rfl, T1, ha, ?_⟩⟩⟩
    refine ⟨_, rfl, ⟨_, rfl, a, C, rfl, T1, n1, .inl ⟨ha, fun dx hdx ne => ?_⟩⟩⟩
    refine ⟨_, rfl, ⟨_, rfl, a, C, rfl, T1, n2, .inr ⟨dx, _, upd_same, by rw [upd_ne ne, upd_same], Nat.le_of_ble_eq_true rfl, ?_⟩⟩⟩
    exact xinit_done (k dx hdx ne)
theorem ok_Meet___init__ {f : Addr} {fd : FuncData} (F : Fun K "__init__" "Meet.__init__" (inClass (topS 4) 0) f fd) (hi : PySem.W.findIn K (.ref ca.Meet) "__init__" = some (some (.ref f))) (ht : PySem.W.typeIn K (.ref f) = some (.type "function")) (T : Txt K mg ca cb) : MkE P w K mg base 1 "Meet" ca.Meet ["self", "one", "other"] (sp_Meet K) :=
  ⟨⟨f, fd, T.oe_Meet, hi, ht, okf_Meet___init__ F T, F.binds (ps := ["self", "one", "other"]) fun _ _ _ _ _ _ us hl => match us, hl with | [_, _, _], _ => rfl, T.gx_Meet⟩⟩
theorem sc_is_card : FnScope ["text", "sign"] ["text"] (defScope (topS 9)) := ⟨rfl, rfl, rfl, by decide +kernel, rfl, by decide +kernel, by decide +kernel⟩
theorem okf_is_card {f : Addr} {fd : FuncData} (F : Fun K "is_card" "is_card" (topS 9) f fd) (T : Txt K mg ca cb) : FnOk P w K mg base CX0 1 f fd ["text"] (sp_is_card K ca) := by
  refine F.ok sc_is_card (fun vs H0 Q E h => ?_) (fun cdv A outer s H0 vs Q E hr h => ?_)
  · obtain ⟨Z0, a_text, rfl, _⟩ := h
    rfl
  · obtain ⟨Z0, a_text, rfl, zh, hm⟩ := h
    obtain ⟨t_SIGNS, g_SIGNS⟩ := T.g_SIGNS
    obtain ⟨t_WIDTH, g_WIDTH⟩ := T.g_WIDTH
    have nd := sc_is_card.nd
    have hm_ := hm.opn; clear hm; obtain ⟨W, WE, hm, hW, hWE⟩ := hm_
    have hS := Sep.start (K := K) zh
    unfold m_is_card at hm
    refine ⟨_, (pss_cons (ps_if (pt_cmpR op_ne (pe_callB call_len_str (by rfl) T.b_len PySem.boot_len (pa_cons (pv 0) pnK)) (pcK (pe_glob (v := .int 40) rfl g_WIDTH ⟨_, rfl⟩)) (nomark _)) (pss_one (ps_ret (pcK pe_bl))) pss_nil) (pss_cons (ps_for PassesOwn.never rfl (pi_str (pv 0)) (pg_name (i := 1) nd rfl (Or.inl rfl)) (pss_one (ps_if (pt_cmpR op_notin_str (pv 1) (pcK (pe_glob (v := .str (" 0123456789ABCDEFGHIJKLMNOPQRSTUVWXYZ" : Str)) rfl g_SIGNS ⟨_, rfl⟩)) (by rfl)) (pss_one (ps_ret (pcK pe_bl))) pss_nil))) (pss_one (ps_ret (pcK pe_bl))))), ?_⟩
    obtain ⟨g1, hm⟩ := Good.chk hm
    refine ⟨_, rfl, ⟨trivial, ⟨_, rfl, g1, ⟨trivial, (k_neI ⟨_, rfl, (ite2 (fun e2 => ?_) (fun e3 => ?_))⟩)⟩⟩⟩⟩
    · skip
      have hm := Good.ifT e2 hm
      refine ⟨trivial, ?_⟩
      exact hW _ hm _ _ hS.st
    · skip
      have hm := Good.ifF e3 hm
      obtain ⟨W5, hm, hWW5⟩ := Good.bndW hm
      refine ⟨_, rfl, ⟨_, rfl, (forK (Z := Z0) (L := (chars a_text)) (src_str _) (fun rr σr Hr Zr => (∃ (w_sign : Option V), σr = [some (.str a_text), w_sign] ∧ Sep K Z0 H0 Zr Hr [] ∧ Same Z0 Zr ∧ (Good (forL (fun (s_ : Unit) (q_ : Str) => m_is_card_b0 q_) () rr) W5 WE))) ?_ ?_ ?_ ?_)⟩⟩
      · rintro rr σr Hr Zr hk
        obtain ⟨w_sign, rfl, hS, sm4, hm⟩ := hk
        exact ⟨sm4, hS.zh⟩
      · exact ⟨Z0, (none), rfl, hS.pick [] (by decide) rfl, Same.refl _, hm⟩
      · skip
        intro sign_6 r7 x8 sg9 H10 H11 Z12 mem13 dec14 hp15 y16
        obtain ⟨w_sign, rfl, hS, sm4, hm⟩ := hp15
        obtain ⟨W17, hm, hn18, hb19, hr20⟩ := Good.forL hm
        have hm : Good (m_is_card_b0 sign_6) _ _ := hm; unfold m_is_card_b0 at hm
        obtain ⟨rfl, rfl⟩ := y16
        refine (tgt1 ?_)
        refine ⟨_, rfl, ⟨trivial, ⟨_, _, rfl, rfl, ⟨_, rfl, (ite2 (fun e23 => ?_) (fun e24 => ?_))⟩⟩⟩⟩
        · skip
          have hm := Good.ifT e23 hm
          refine ⟨trivial, ?_⟩
          have hm := hr20 _ hm
          have hm := hWW5 _ hm
          exact hW _ hm _ _ hS.st
        · skip
          have hm := Good.ifF e24 hm
          have hm := hn18 _ hm
          exact ⟨_, (some (.str sign_6)), rfl, hS.pick [] (by decide) rfl, sm4, hm⟩
      · intro sg25 H26 Z27 hp28
        obtain ⟨w_sign, rfl, hS, sm4, hm⟩ := hp28
        have hm := hWW5 _ hm
        refine ⟨trivial, ?_⟩
        exact hW _ hm _ _ hS.st
theorem ok_is_card {f : Addr} {fd : FuncData} (F : Fun K "is_card" "is_card" (topS 9) f fd) (gm : mg "is_card" = some (.ref f)) (T : Txt K mg ca cb) : Cal P w K mg base CX0 "is_card" 1 ["text"] (sp_is_card K ca) :=
  ⟨⟨f, fd, okf_is_card F T, gm, F.kp, F.binds (ps := ["text"]) fun _ _ _ _ _ _ us hl => match us, hl with | [_], _ => rfl⟩⟩
theorem sc_card_of : FnScope ["text", "card"] ["text"] (defScope (topS 10)) := ⟨rfl, rfl, rfl, by decide +kernel, rfl, by decide +kernel, by decide +kernel⟩
theorem okf_card_of {f : Addr} {fd : FuncData} (F : Fun K "card_of" "card_of" (topS 10) f fd) (T : Txt K mg ca cb) (C_is_card : Cal P w K mg base CX0 "is_card" 1 ["text"] (sp_is_card K ca)) : FnOk P w K mg base (L2.CX P w) 2 f fd ["text"] (sp_card_of K ca) := by
  refine F.okX sc_card_of (fun vs H0 Q E h => ?_) (fun cdv A outer s H0 vs Q E hr h => ?_)
  · obtain ⟨Z0, a_text, rfl, _⟩ := h
    rfl
  · obtain ⟨Z0, a_text, rfl, zh, hm⟩ := h
    obtain ⟨t_WIDTH, g_WIDTH⟩ := T.g_WIDTH
    have nd := sc_card_of.nd
    have hm_ := hm.opn; clear hm; obtain ⟨W, WE, hm, hW, hWE⟩ := hm_
    have hS := Sep.start (K := K) zh
    unfold m_card_of at hm
    refine ⟨_, (pss_cons (ps_set (i := 1) nd rfl (Or.inl rfl) (pe_bmK (K := K) rfl PySem.F.plainAttrs_str PySem.F.slot_str_ljust PySem.F.type_str_ljust mt_ljust (pv 0) (pa_cons (pcK (pe_glob (v := .int 40) rfl g_WIDTH ⟨_, rfl⟩)) pnK))) (pss_cons (ps_if (ptK (pt_not (pt_val (pe_cal C_is_card (hr.mono (by decide)) pass0 (pa_cons (pv 1) pnK))))) (pss_one (ps_raise rfl (takes_of rfl rfl rfl rfl) (pmk_own PySem.F.excBase_ValueError T.ex_NoCard T.gx_NoCard T.kx_NoCard (raises_own T.su_NoCard T.ty_NoCard) rfl))) pss_nil) (pss_one (ps_ret (pv 1))))), ?_⟩
    refine ⟨_, rfl, ⟨rfl, ⟨trivial, ⟨trivial, ⟨_, _, rfl, rfl, rfl, (storeS fun card_1 en2 => ?_)⟩⟩⟩⟩⟩
    have hm := Good.vl en2 hm
    refine ⟨trivial, ⟨_, rfl, ⟨trivial, ⟨_, _, rfl, hS.zh, (Good.nx (Good.bnd hm)).imp (fun r3 hm => fun Z4 H5 st6 => ?_) (fun _ h_ => h_)⟩⟩⟩⟩
    have hS := hS.step st6
    refine ⟨_, rfl, (ite2 (fun e7 => ?_) (fun e8 => ?_))⟩
    · skip
      have hm := Good.ifT e7 hm
      exact hWE _ hm _ _ _ _ hS.st ⟨rfl, rfl⟩
    · skip
      have hm := Good.ifF e8 hm
      refine ⟨_, rfl, ?_⟩
      exact hW _ hm _ _ hS.st
theorem ok_card_of {f : Addr} {fd : FuncData} (F : Fun K "card_of" "card_of" (topS 10) f fd) (gm : mg "card_of" = some (.ref f)) (T : Txt K mg ca cb) (C_is_card : Cal P w K mg base CX0 "is_card" 1 ["text"] (sp_is_card K ca)) : Cal P w K mg base (L2.CX P w) "card_of" 2 ["text"] (sp_card_of K ca) :=
  ⟨⟨f, fd, okf_card_of F T C_is_card, gm, F.kp, F.binds (ps := ["text"]) fun _ _ _ _ _ _ us hl => match us, hl with | [_], _ => rfl⟩⟩
theorem sc_make_board : FnScope ["wires", "here", "there", "known", "wire"] ["wires"] (defScope (topS 12)) := ⟨rfl, rfl, rfl, by decide +kernel, rfl, by decide +kernel, by decide +kernel⟩
theorem okf_make_board {f : Addr} {fd : FuncData} (F : Fun K "make_board" "make_board" (topS 12) f fd) (T : Txt K mg ca cb) (C_Meet___init__ : MkE P w K mg base 1 "Meet" ca.Meet ["self", "one", "other"] (sp_Meet K)) : FnOk P w K mg base (L2.CX P w) 3 f fd ["wires"] (sp_make_board K ca) := by
  refine F.okX sc_make_board (fun vs H0 Q E h => ?_) (fun cdv A outer s H0 vs Q E hr h => ?_)
  · obtain ⟨Z0, a_wires, v_wires, rfl, _⟩ := h
    rfl
  · obtain ⟨Z0, a_wires, v_wires, rfl, zh, h_wires, hm⟩ := h
    have nd := sc_make_board.nd
    have hm_ := hm.opn; clear hm; obtain ⟨W, WE, hm, hW, hWE⟩ := hm_
    have hS := Sep.start (K := K) zh
    have hS := hS.tel h_wires
    unfold m_make_board at hm
    refine ⟨_, (pss_cons (ps_for (passes_of rfl) rfl (pi_list (pv 0)) (pg_tup rfl (pgs_cons (pg_name (i := 1) nd rfl (Or.inl rfl)) (pgs_cons (pg_name (i := 2) nd rfl (Or.inl rfl)) pgs_nil))) (pss_one (ps_if (ptK (PW.pt (pw_or (pt_cmpR op_lt (pv 1) (pcK pe_int) (nomark _)) (pw_or (pt_cmpR op_gt (pv 1) (pcK pe_int) (nomark _)) (pw_or (pt_cmpR op_lt (pv 2) (pcK pe_int) (nomark _)) (pw_or1 (pt_cmpR op_gt (pv 2) (pcK pe_int) (nomark _)))))))) (pss_one (ps_raise rfl (takes_of rfl rfl rfl rfl) (pmk_own PySem.F.excBase_ValueError T.ex_NoBoard T.gx_NoBoard T.kx_NoBoard (raises_own T.su_NoBoard T.ty_NoBoard) rfl))) pss_nil))) (pss_cons (ps_set (i := 3) nd rfl (Or.inr rfl) (puK pe_dnewQ)) (pss_cons (ps_for (passes_of rfl) rfl (pi_list (pv 0)) (pg_name (i := 4) nd rfl (Or.inl rfl)) (pss_cons (ps_if (pt_cmp (pc_dinQ (hu_of hr) (pe_ix (ix_tupK (K := K) rfl) (pv 4) (pcK pe_int) (fun _ _ => rfl)) (pv 3))) (pss_one (ps_raise rfl (takes_of rfl rfl rfl rfl) (pmk_E C_Meet___init__ (hr.mono (by decide)) (pa_cons (pe_dgetQ (hu_of hr) (pv 3) (pe_ix (ix_tupK (K := K) rfl) (pv 4) (pcK pe_int) (fun _ _ => rfl)) (fun _ _ => rfl)) (pa_cons (pv 4) pnK))))) pss_nil) (pss_one (ps_dputQ (hu_of hr) (pv 3) (pe_ix (ix_tupK (K := K) rfl) (pv 4) (pcK pe_int) (fun _ _ => rfl)) (pv 4) rfl)))) (pss_one (ps_ret (pe_lcQ (own := [("there", 2)]) (g := (gName 2)) rfl nd (pi_list (pe_callB (call_sortDIQ rfl) (by rfl) T.b_sorted (by decide +kernel) (pa_cons (pv 3) pnK))) (blkOk_by (N := ["wires", "here", "there", "known", "wire"]) (sc := defScope (topS 12)) (own := [("there", 2)]) (by decide +kernel)) (by intro _ _ _ _ _; exact pg_name (i := 2) nd rfl (Or.inl rfl)) (by intro _ _ _ _ _; exact pts_nil) (by intro _ _ _ _ _; exact (pe_dgetQ (hu_of hr) (pv 3) (pv 2) (fun _ _ => rfl))))))))), ?_⟩
    obtain ⟨a1, xs2, ev3, hz4, pr5⟩ := pyL (hS.fact 0 rfl)
    obtain ⟨W7, hm, hWW7⟩ := Good.bndW hm
    refine ⟨_, rfl, ⟨_, ev3, ⟨_, SqL.of (hS.zh _ _ hz4)⟩, (forK (Z := Z0) (L := a_wires) (src_list hz4 pr5) (fun rr σr Hr Zr => (∃ (w_here : Option V) (w_there : Option V), σr = [some v_wires, w_here, w_there, none, none] ∧ Sep K Z0 H0 Zr Hr [⟨(Sh.told (α := (List (Int × Int)))), v_wires, a_wires⟩] ∧ Same Z0 Zr ∧ (Good (forR (fun (s_ : Unit) (q_ : (Int × Int)) => m_make_board_b0 q_.1 q_.2) () rr) W7 WE))) ?_ ?_ ?_ ?_)⟩⟩
    · rintro rr σr Hr Zr hk
      obtain ⟨w_here, w_there, rfl, hS, sm6, hm⟩ := hk
      exact ⟨sm6, hS.zh⟩
    · exact ⟨Z0, (none), (none), rfl, hS.pick [0] (by decide) rfl, Same.refl _, hm⟩
    · skip
      intro q10 r11 x12 sg13 H14 H15 Z16 mem17 dec18 hp19 y20
      obtain ⟨here_8, there_9⟩ := q10
      obtain ⟨w_here, w_there, rfl, hS, sm6, hm⟩ := hp19
      obtain ⟨W21, hm, hn22⟩ := Good.forR hm
      have hm : Good (m_make_board_b0 here_8 there_9) _ _ := hm; unfold m_make_board_b0 at hm
      obtain ⟨rfl, ht_⟩ := y20
      refine (tgtP hS.zh (Py.mono sm6 ht_) fun a31 e29 a32 e30 v25 v27 h26 h28 => ?_)
      obtain rfl : here_8 = a31 := e29.symm
      obtain rfl : v25 = (.int here_8) := h26
      obtain rfl : there_9 = a32 := e30.symm
      obtain rfl : v27 = (.int there_9) := h28
      refine ⟨trivial, (ansOr (fun _ q => ⟨_, rfl, ⟨trivial, ⟨_, _, rfl, rfl, ⟨_, rfl, q⟩⟩⟩⟩) (fun b35 _ q => (ansOr (fun _ q => ⟨_, rfl, ⟨trivial, ⟨_, _, rfl, rfl, ⟨_, rfl, q⟩⟩⟩⟩) (fun b36 _ q => (ansOr (fun _ q => ⟨_, rfl, ⟨trivial, ⟨_, _, rfl, rfl, ⟨_, rfl, q⟩⟩⟩⟩) (fun b37 _ q => ⟨_, rfl, ⟨trivial, ⟨_, _, rfl, rfl, ⟨_, rfl, q⟩⟩⟩⟩) q)) q)) (ite2 (fun e33 => ?_) (fun e34 => ?_)))⟩
      · skip
        have hm := Good.ifT e33 hm
        exact hWE _ hm _ _ _ _ hS.st ⟨rfl, rfl⟩
      · skip
        have hm := Good.ifF e34 hm
        have hm := hn22 _ hm
        exact ⟨_, (some (.int here_8)), (some (.int there_9)), rfl, hS.pick [0] (by decide) rfl, sm6, hm⟩
    · intro sg38 H39 Z40 hp41
      obtain ⟨w_here, w_there, rfl, hS, sm6, hm⟩ := hp41
      have hm := hWW7 _ hm
      refine ⟨trivial, (k_dnew (K := K) (κ := Int) (α := (Int × Int)) hS.zh (NewD.gen fun known_42 en43 => NewD.ownS fun p47 ps48 Z44 H45 st46 o49 => ?_))⟩
      have hS := hS.own st46 o49
      refine (tgt1 ?_)
      have hm := Good.vl en43 hm
      obtain ⟨a50, xs51, ev52, hz53, pr54⟩ := pyL (hS.fact 1 rfl)
      obtain ⟨W58, hm, hWW58⟩ := Good.bndW hm
      refine ⟨_, rfl, ⟨_, ev52, ⟨_, SqL.of (hS.zh _ _ hz53)⟩, (forK (Z := Z44) (L := a_wires) (src_list hz53 pr54) (fun rr σr Hr Zr => (∃ (known_55 : (Dct Int (Int × Int))) (v56 : V) (w_wire : Option V), σr = [some v_wires, w_here, w_there, some v56, w_wire] ∧ Sep K Z0 H0 Zr Hr [⟨(Sh.dc Int (Int × Int)), v56, known_55⟩, ⟨(Sh.told (α := (List (Int × Int)))), v_wires, a_wires⟩] ∧ Same Z44 Zr ∧ (Good (forR (fun (s_ : (Dct Int (Int × Int))) (q_ : (Int × Int)) => m_make_board_b1 s_ q_) known_55 rr) W58 WE))) ?_ ?_ ?_ ?_)⟩⟩
      · rintro rr σr Hr Zr hk
        obtain ⟨known_55, v56, w_wire, rfl, hS, sm57, hm⟩ := hk
        obtain ⟨p91, er_⟩ := hS.ref 0 rfl
        subst er_
        exact ⟨sm57, hS.zh⟩
      · exact ⟨Z44, known_42, ((.ref p47)), (none), rfl, hS.pick [0, 1] (by decide) rfl, Same.refl _, hm⟩
      · skip
        intro wire_59 r60 x61 sg62 H63 H64 Z65 mem66 dec67 hp68 y69
        obtain ⟨known_55, v56, w_wire, rfl, hS, sm57, hm⟩ := hp68
        obtain ⟨p70, er_⟩ := hS.ref 0 rfl
        subst er_
        obtain ⟨W71, hm, hn72⟩ := Good.forR hm
        have hm : Good (m_make_board_b1 known_55 wire_59) _ _ := hm; unfold m_make_board_b1 at hm
        obtain ⟨rfl, h76⟩ := y69
        have h76 := Py.mono sm57 h76
        have hS := hS.tel h76
        refine (tgt1 ?_)
        refine ⟨_, rfl, ⟨trivial, (k_sndS hS.zh (hS.fact 0 rfl) ⟨_, rfl, (k_din (RD.own (hS.D 1 rfl)) ⟨_, rfl, (ite2 (fun e77 => ?_) (fun e78 => ?_))⟩)⟩)⟩⟩
        · skip
          have hm := Good.ifT e77 hm
          obtain ⟨g79, hm⟩ := Good.chk hm
          refine ⟨_, rfl, ⟨_, rfl, ⟨trivial, (k_sndS hS.zh (hS.fact 0 rfl) (k_dget (RD.own (hS.D 1 rfl)) g79 (fun y80 hy80 => ⟨_, rfl, ⟨trivial, ⟨Nat.le_of_ble_eq_true rfl, raise_meet hS.zh T.oe_Meet T.xn_Meet_one T.xn_Meet_other (fun dx81 Z82 H83 st84 hx85 => ?_)⟩⟩⟩)))⟩⟩⟩
          exact hWE _ hm _ _ _ _ (hS.step st84).st ⟨rfl, _, _, _, rfl, hx85, Py.mono st84.zz hy80, Py.mono st84.zz (hS.fact 0 rfl)⟩
        · skip
          have hm := Good.ifF e78 hm
          obtain ⟨g88, hm⟩ := Good.chk hm
          refine ⟨_, rfl, ⟨_, rfl, ⟨_, rfl, ⟨trivial, (k_sndS hS.zh (hS.fact 0 rfl) (k_dput (k0 := (wire_59).2) (a := wire_59) (hS.D 1 rfl) (hS.fact 0 rfl) g88 (fun u86 o87 => ?_)))⟩⟩⟩⟩
          have hS := hS.mutD 1 rfl o87; dsimp only [List.set] at hS
          obtain ⟨known_89, en90⟩ : ∃ z, z = (⟨dPut (known_55).kv (wire_59).2 wire_59⟩ : (Dct Int (Int × Int))) := ⟨_, rfl⟩
          rw [← en90] at hS
          have hm := Good.vl en90 hm
          have hm := hn72 _ hm
          exact ⟨_, known_89, ((.ref p70)), (some x61), rfl, hS.pick [1, 2] (by decide) rfl, sm57, hm⟩
      · intro sg92 H93 Z94 hp95
        obtain ⟨known_55, v56, w_wire, rfl, hS, sm57, hm⟩ := hp95
        obtain ⟨p96, er_⟩ := hS.ref 0 rfl
        subst er_
        have hm := hWW58 _ hm
        obtain ⟨g97, hm⟩ := Good.chk hm
        refine ⟨_, rfl, ⟨trivial, (k_sortDI hS.zh (RD.own (hS.D 0 rfl)) g97 (New.tel fun v107 Z104 H105 st106 hv107 => ?_))⟩⟩
        have hS := (hS.step st106).tel (a := (sortI (known_55.kv.map (·.1)))) hv107
        obtain ⟨g103, hm⟩ := Good.chk hm
        obtain ⟨g101, hm⟩ := Good.chk hm
        obtain ⟨a108, xs109, ev110, hz111, pr112⟩ := pyL (hS.fact 0 rfl)
        refine ⟨_, ev110, ⟨_, SqL.of (hS.zh _ _ hz111)⟩, (lcKQ (K := K) (src_list hz111 pr112) hS.zh (fun (there_98 : Int) => (dAt known_55 there_98)) (fun _ => true) g103 (fun there_98 x113 Z114 H115 H116 C117 N118 mem119 st120 y121 kC122 kN123 => ?_) (New.all (New.ownS fun p129 ps130 Z126 H127 st128 o131 => ?_)))⟩
        · skip
          have hS := hS.step st120
          have sx_ := Step.refl hS.zh
          have g101 := g101 there_98 mem119
          obtain ⟨rfl, rfl⟩ := y121
          refine (tgt1 ?_)
          refine ⟨rfl, (yesK ⟨_, rfl, ⟨_, rfl, (k_dget (RD.own (hS.D 1 rfl)) g101 (fun y102 hy102 => (kC122 _ _ _ sx_ rfl hy102)))⟩⟩)⟩
        have hS := hS.own st128 o131
        obtain ⟨ps_, o_⟩ := hS.nth 0 rfl
        exact hW _ hm _ _ _ _ hS.st o_
theorem ok_make_board {f : Addr} {fd : FuncData} (F : Fun K "make_board" "make_board" (topS 12) f fd) (gm : mg "make_board" = some (.ref f)) (T : Txt K mg ca cb) (C_Meet___init__ : MkE P w K mg base 1 "Meet" ca.Meet ["self", "one", "other"] (sp_Meet K)) : Cal P w K mg base (L2.CX P w) "make_board" 3 ["wires"] (sp_make_board K ca) :=
  ⟨⟨f, fd, okf_make_board F T C_Meet___init__, gm, F.kp, F.binds (ps := ["wires"]) fun _ _ _ _ _ _ us hl => match us, hl with | [_], _ => rfl⟩⟩
theorem sc_columns_of : FnScope ["field"] ["field"] (defScope (topS 14)) := ⟨rfl, rfl, rfl, by decide +kernel, rfl, by decide +kernel, by decide +kernel⟩
theorem okf_columns_of {f : Addr} {fd : FuncData} (F : Fun K "columns_of" "columns_of" (topS 14) f fd) (T : Txt K mg ca cb) : FnOk P w K mg base CX0 1 f fd ["field"] (sp_columns_of K ca) := by
  refine F.ok sc_columns_of (fun vs H0 Q E h => ?_) (fun cdv A outer s H0 vs Q E hr h => ?_)
  · obtain ⟨Z0, a_field, v_field, rfl, _⟩ := h
    rfl
  · obtain ⟨Z0, a_field, v_field, rfl, zh, h_field, hm⟩ := h
    have nd := sc_columns_of.nd
    have hm_ := hm.opn; clear hm; obtain ⟨W, WE, hm, hW, hWE⟩ := hm_
    have hS := Sep.start (K := K) zh
    have hS := hS.tel h_field
    unfold m_columns_of at hm
    refine ⟨_, (pss_one (ps_ret (pe_listRgN rfl rfl T.b_list (prg_2 rfl T.b_range (pe_ix (ix_tupK (K := K) rfl) (pv 0) (pcK pe_int) (fun _ _ => rfl)) (pe_op op_add (pe_ix (ix_tupK (K := K) rfl) (pv 0) (pcK pe_int) (fun _ _ => rfl)) (pcK pe_int)))))), ?_⟩
    obtain ⟨g1, hm⟩ := Good.chk hm
    refine ⟨_, rfl, ⟨trivial, (k_fstS hS.zh (hS.fact 0 rfl) ⟨_, rfl, ⟨trivial, (k_sndS hS.zh (hS.fact 0 rfl) ⟨trivial, ⟨_, _, rfl, rfl, ⟨_, _, rfl, rfl, (k_listRgN (K := K) hS.zh (rg_ok g1.1 g1.2.1 g1.2.2.1 g1.2.2.2) (New.ownS fun p5 ps6 Z2 H3 st4 o7 => ?_))⟩⟩⟩)⟩⟩)⟩⟩
    have hS := hS.own st4 o7
    obtain ⟨ps_, o_⟩ := hS.nth 0 rfl
    exact hW _ hm _ _ _ _ hS.st o_
theorem ok_columns_of {f : Addr} {fd : FuncData} (F : Fun K "columns_of" "columns_of" (topS 14) f fd) (gm : mg "columns_of" = some (.ref f)) (T : Txt K mg ca cb) : Cal P w K mg base CX0 "columns_of" 1 ["field"] (sp_columns_of K ca) :=
  ⟨⟨f, fd, okf_columns_of F T, gm, F.kp, F.binds (ps := ["field"]) fun _ _ _ _ _ _ us hl => match us, hl with | [_], _ => rfl⟩⟩
theorem sc_are_apart : FnScope ["one", "other"] ["one", "other"] (defScope (topS 15)) := ⟨rfl, rfl, rfl, by decide +kernel, rfl, by decide +kernel, by decide +kernel⟩
theorem okf_are_apart {f : Addr} {fd : FuncData} (F : Fun K "are_apart" "are_apart" (topS 15) f fd) (T : Txt K mg ca cb) : FnOk P w K mg base CX0 1 f fd ["one", "other"] (sp_are_apart K ca) := by
  refine F.ok sc_are_apart (fun vs H0 Q E h => ?_) (fun cdv A outer s H0 vs Q E hr h => ?_)
  · obtain ⟨Z0, a_one, v_one, a_other, v_other, rfl, _⟩ := h
    rfl
  · obtain ⟨Z0, a_one, v_one, a_other, v_other, rfl, zh, h_one, h_other, hm⟩ := h
    have nd := sc_are_apart.nd
    have hm_ := hm.opn; clear hm; obtain ⟨W, WE, hm, hW, hWE⟩ := hm_
    have hS := Sep.start (K := K) zh
    have hS := hS.tel h_one
    have hS := hS.tel h_other
    unfold m_are_apart at hm
    refine ⟨_, (pss_one (ps_ret (puK (pe_or (pe_cmpR op_lt (pe_ix (ix_tupK (K := K) rfl) (pv 0) (pcK pe_int) (fun _ _ => rfl)) (pe_ix (ix_tupK (K := K) rfl) (pv 1) (pcK pe_int) (fun _ _ => rfl)) (nomark _)) (pe_one (pe_cmpR op_lt (pe_ix (ix_tupK (K := K) rfl) (pv 1) (pcK pe_int) (fun _ _ => rfl)) (pe_ix (ix_tupK (K := K) rfl) (pv 0) (pcK pe_int) (fun _ _ => rfl)) (nomark _))))))), ?_⟩
    refine ⟨trivial, (valOr (fun _ q => ⟨_, rfl, ⟨trivial, (k_sndS hS.zh (hS.fact 1 rfl) ⟨_, rfl, ⟨trivial, (k_fstS hS.zh (hS.fact 0 rfl) ⟨_, _, rfl, rfl, q⟩)⟩⟩)⟩⟩) (fun b1 _ q => ⟨_, rfl, ⟨trivial, (k_sndS hS.zh (hS.fact 0 rfl) ⟨_, rfl, ⟨trivial, (k_fstS hS.zh (hS.fact 1 rfl) ⟨_, _, rfl, rfl, q⟩)⟩⟩)⟩⟩) ?_)⟩
    exact hW _ hm _ _ hS.st
theorem ok_are_apart {f : Addr} {fd : FuncData} (F : Fun K "are_apart" "are_apart" (topS 15) f fd) (gm : mg "are_apart" = some (.ref f)) (T : Txt K mg ca cb) : Cal P w K mg base CX0 "are_apart" 1 ["one", "other"] (sp_are_apart K ca) :=
  ⟨⟨f, fd, okf_are_apart F T, gm, F.kp, F.binds (ps := ["one", "other"]) fun _ _ _ _ _ _ us hl => match us, hl with | [_, _], _ => rfl⟩⟩
theorem sc_is_name : FnScope ["text", "sign"] ["text"] (defScope (topS 18)) := ⟨rfl, rfl, rfl, by decide +kernel, rfl, by decide +kernel, by decide +kernel⟩
theorem okf_is_name {f : Addr} {fd : FuncData} (F : Fun K "is_name" "is_name" (topS 18) f fd) (T : Txt K mg ca cb) : FnOk P w K mg base CX0 1 f fd ["text"] (sp_is_name K ca) := by
  refine F.ok sc_is_name (fun vs H0 Q E h => ?_) (fun cdv A outer s H0 vs Q E hr h => ?_)
  · obtain ⟨Z0, a_text, rfl, _⟩ := h
    rfl
  · obtain ⟨Z0, a_text, rfl, zh, hm⟩ := h
    obtain ⟨t_LETTERS, g_LETTERS⟩ := T.g_LETTERS
    have nd := sc_is_name.nd
    have hm_ := hm.opn; clear hm; obtain ⟨W, WE, hm, hW, hWE⟩ := hm_
    have hS := Sep.start (K := K) zh
    unfold m_is_name at hm
    refine ⟨_, (pss_cons (ps_for PassesOwn.never rfl (pi_str (pv 0)) (pg_name (i := 1) nd rfl (Or.inl rfl)) (pss_one (ps_if (pt_cmpR op_notin_str (pv 1) (pcK (pe_glob (v := .str ("abcdefghijklmnopqrstuvwxyz" : Str)) rfl g_LETTERS ⟨_, rfl⟩)) (by rfl)) (pss_one (ps_ret (pcK pe_bl))) pss_nil))) (pss_one (ps_ret (pe_chain op_le op_le (pcK pe_int) (pe_callB call_len_str (by rfl) T.b_len PySem.boot_len (pa_cons (pv 0) pnK)) (pcK pe_int))))), ?_⟩
    obtain ⟨W2, hm, hWW2⟩ := Good.bndW hm
    refine ⟨_, rfl, ⟨_, rfl, (forK (Z := Z0) (L := (chars a_text)) (src_str _) (fun rr σr Hr Zr => (∃ (w_sign : Option V), σr = [some (.str a_text), w_sign] ∧ Sep K Z0 H0 Zr Hr [] ∧ Same Z0 Zr ∧ (Good (forL (fun (s_ : Unit) (q_ : Str) => m_is_name_b0 q_) () rr) W2 WE))) ?_ ?_ ?_ ?_)⟩⟩
    · rintro rr σr Hr Zr hk
      obtain ⟨w_sign, rfl, hS, sm1, hm⟩ := hk
      exact ⟨sm1, hS.zh⟩
    · exact ⟨Z0, (none), rfl, hS.pick [] (by decide) rfl, Same.refl _, hm⟩
    · skip
      intro sign_3 r4 x5 sg6 H7 H8 Z9 mem10 dec11 hp12 y13
      obtain ⟨w_sign, rfl, hS, sm1, hm⟩ := hp12
      obtain ⟨W14, hm, hn15, hb16, hr17⟩ := Good.forL hm
      have hm : Good (m_is_name_b0 sign_3) _ _ := hm; unfold m_is_name_b0 at hm
      obtain ⟨rfl, rfl⟩ := y13
      refine (tgt1 ?_)
      refine ⟨_, rfl, ⟨trivial, ⟨_, _, rfl, rfl, ⟨_, rfl, (ite2 (fun e20 => ?_) (fun e21 => ?_))⟩⟩⟩⟩
      · skip
        have hm := Good.ifT e20 hm
        refine ⟨trivial, ?_⟩
        have hm := hr17 _ hm
        have hm := hWW2 _ hm
        exact hW _ hm _ _ hS.st
      · skip
        have hm := Good.ifF e21 hm
        have hm := hn15 _ hm
        exact ⟨_, (some (.str sign_3)), rfl, hS.pick [] (by decide) rfl, sm1, hm⟩
    · intro sg22 H23 Z24 hp25
      obtain ⟨w_sign, rfl, hS, sm1, hm⟩ := hp25
      have hm := hWW2 _ hm
      try dsimp only
      obtain ⟨g26, hm⟩ := Good.chk hm
      refine (k_ch2r (fun _ q => ⟨trivial, q⟩) (fun _ q => ⟨_, rfl, ⟨trivial, ⟨_, rfl, g26, q⟩⟩⟩) (fun _ q => ⟨trivial, q⟩) ?_)
      exact hW _ hm _ _ hS.st
theorem ok_is_name {f : Addr} {fd : FuncData} (F : Fun K "is_name" "is_name" (topS 18) f fd) (gm : mg "is_name" = some (.ref f)) (T : Txt K mg ca cb) : Cal P w K mg base CX0 "is_name" 1 ["text"] (sp_is_name K ca) :=
  ⟨⟨f, fd, okf_is_name F T, gm, F.kp, F.binds (ps := ["text"]) fun _ _ _ _ _ _ us hl => match us, hl with | [_], _ => rfl⟩⟩
theorem sc_is_field : FnScope ["pair"] ["pair"] (defScope (topS 19)) := ⟨rfl, rfl, rfl, by decide +kernel, rfl, by decide +kernel, by decide +kernel⟩
theorem okf_is_field {f : Addr} {fd : FuncData} (F : Fun K "is_field" "is_field" (topS 19) f fd) (T : Txt K mg ca cb) : FnOk P w K mg base CX0 1 f fd ["pair"] (sp_is_field K ca) := by
  refine F.ok sc_is_field (fun vs H0 Q E h => ?_) (fun cdv A outer s H0 vs Q E hr h => ?_)
  · obtain ⟨Z0, a_pair, v_pair, rfl, _⟩ := h
    rfl
  · obtain ⟨Z0, a_pair, v_pair, rfl, zh, h_pair, hm⟩ := h
    have nd := sc_is_field.nd
    have hm_ := hm.opn; clear hm; obtain ⟨W, WE, hm, hW, hWE⟩ := hm_
    have hS := Sep.start (K := K) zh
    have hS := hS.tel h_pair
    unfold m_is_field at hm
    refine ⟨_, (pss_one (ps_ret (pe_ch3 op_le op_le op_le (pcK pe_int) (pe_ix (ix_tupK (K := K) rfl) (pv 0) (pcK pe_int) (fun _ _ => rfl)) (pe_ix (ix_tupK (K := K) rfl) (pv 0) (pcK pe_int) (fun _ _ => rfl)) (pcK pe_int)))), ?_⟩
    refine (k_ch3 (fun _ q => ⟨trivial, q⟩) (fun _ q => ⟨_, rfl, ⟨trivial, (k_fstS hS.zh (hS.fact 0 rfl) q)⟩⟩) (fun _ q => ⟨_, rfl, ⟨trivial, (k_sndS hS.zh (hS.fact 0 rfl) q)⟩⟩) (fun _ q => ⟨trivial, q⟩) ?_)
    exact hW _ hm _ _ hS.st
theorem ok_is_field {f : Addr} {fd : FuncData} (F : Fun K "is_field" "is_field" (topS 19) f fd) (gm : mg "is_field" = some (.ref f)) (T : Txt K mg ca cb) : Cal P w K mg base CX0 "is_field" 1 ["pair"] (sp_is_field K ca) :=
  ⟨⟨f, fd, okf_is_field F T, gm, F.kp, F.binds (ps := ["pair"]) fun _ _ _ _ _ _ us hl => match us, hl with | [_], _ => rfl⟩⟩
theorem sc_is_wide : FnScope ["text", "field"] ["text", "field"] (defScope (topS 20)) := ⟨rfl, rfl, rfl, by decide +kernel, rfl, by decide +kernel, by decide +kernel⟩
theorem okf_is_wide {f : Addr} {fd : FuncData} (F : Fun K "is_wide" "is_wide" (topS 20) f fd) (T : Txt K mg ca cb) (C_card_of : Cal P w K mg base (L2.CX P w) "card_of" 2 ["text"] (sp_card_of K ca)) (C_columns_of : Cal P w K mg base CX0 "columns_of" 1 ["field"] (sp_columns_of K ca)) : FnOk P w K mg base CX0 3 f fd ["text", "field"] (sp_is_wide K ca) := by
  refine F.ok sc_is_wide (fun vs H0 Q E h => ?_) (fun cdv A outer s H0 vs Q E hr h => ?_)
  · obtain ⟨Z0, a_text, a_field, v_field, rfl, _⟩ := h
    rfl
  · obtain ⟨Z0, a_text, a_field, v_field, rfl, zh, h_field, hm⟩ := h
    have nd := sc_is_wide.nd
    have hm_ := hm.opn; clear hm; obtain ⟨W, WE, hm, hW, hWE⟩ := hm_
    have hS := Sep.start (K := K) zh
    have hS := hS.tel h_field
    unfold m_is_wide at hm
    refine ⟨_, (pss_one (ps_try_manyN (pss_one (ps_ret (pe_cmpR op_eq (pe_callB call_len_str (by rfl) T.b_len PySem.boot_len (pa_cons (pv 0) pnK)) (pe_callB (call_lenK (K := K) rfl) (by rfl) T.b_len PySem.boot_len (pa_cons (pe_cal C_columns_of (hr.mono (by decide)) pass0 (pa_cons (pv 1) pnK)) pnK)) (nomark _)))) rfl rfl takes0 (fun W pn xe tk _ => (pss_one (ps_expr (pe_calS C_card_of (hr.mono (by decide)) (fun σ => passAt tk σ) (pa_cons (pv 0) pnK))))) (.cons (c := .ref ca.NoCard) ⟨rfl, by decide, .inl T.gx_NoCard⟩ (fun a oe cls d pn hz hf => (pss_one (ps_ret (pcK pe_bl)))) .nil))), ?_⟩
    obtain ⟨W1, WE2, hm, hK3, hF4⟩ := Good.trW hm
    refine ⟨_, rfl, ⟨trivial, ⟨_, _, rfl, hS.zh, (Good.bnd hm).imp (fun r5 hm => fun Z14 H15 st16 => ?_) (fun e6 h7 Z8 H9 cls10 d11 st12 x13 => ?_)⟩⟩⟩
    have hS := hS.step st16
    have hm := hK3 _ hm
    obtain ⟨g17, hm⟩ := Good.chk hm
    refine ⟨_, rfl, ⟨trivial, ⟨_, rfl, g17, ⟨_, rfl, ⟨trivial, ⟨_, _, _, rfl, hS.zh, (hS.fact 0 rfl), (Good.bnd hm).imp (fun r18 hm => NewO.tel hS.zh (fun v22 Z19 H20 st21 hv22 => ?_)) hWE⟩⟩⟩⟩⟩⟩
    have hS := (hS.step st21).tel (a := r18) hv22
    refine ⟨trivial, (k_lenQ hS.zh (hS.fact 0 rfl) (k_eqI ?_))⟩
    exact hW _ hm _ _ hS.st
    have hm := hF4 e6 h7
    have hS := hS.step st12
    clear h7
    cases e6 with
    | NoCard  => 
      dsimp only at hm
      obtain ⟨rfl, rfl⟩ := x13
      refine ⟨true, T.em_NoCard_NoCard, (fun _ ax25 na26 => ?_), (fun q => nomatch q)⟩
      refine ⟨trivial, ?_⟩
      exact hW _ hm _ _ hS.st
    | _ => exact hm.elim
theorem ok_is_wide {f : Addr} {fd : FuncData} (F : Fun K "is_wide" "is_wide" (topS 20) f fd) (gm : mg "is_wide" = some (.ref f)) (T : Txt K mg ca cb) (C_card_of : Cal P w K mg base (L2.CX P w) "card_of" 2 ["text"] (sp_card_of K ca)) (C_columns_of : Cal P w K mg base CX0 "columns_of" 1 ["field"] (sp_columns_of K ca)) : Cal P w K mg base CX0 "is_wide" 3 ["text", "field"] (sp_is_wide K ca) :=
  ⟨⟨f, fd, okf_is_wide F T C_card_of C_columns_of, gm, F.kp, F.binds (ps := ["text", "field"]) fun _ _ _ _ _ _ us hl => match us, hl with | [_, _], _ => rfl⟩⟩
theorem sc_is_board : FnScope ["board"] ["board"] (defScope (topS 21)) := ⟨rfl, rfl, rfl, by decide +kernel, rfl, by decide +kernel, by decide +kernel⟩
theorem okf_is_board {f : Addr} {fd : FuncData} (F : Fun K "is_board" "is_board" (topS 21) f fd) (T : Txt K mg ca cb) (C_make_board : Cal P w K mg base (L2.CX P w) "make_board" 3 ["wires"] (sp_make_board K ca)) : FnOk P w K mg base CX0 4 f fd ["board"] (sp_is_board K ca) := by
  refine F.ok sc_is_board (fun vs H0 Q E h => ?_) (fun cdv A outer s H0 vs Q E hr h => ?_)
  · obtain ⟨Z0, a_board, v_board, rfl, _⟩ := h
    rfl
  · obtain ⟨Z0, a_board, v_board, rfl, zh, h_board, hm⟩ := h
    have nd := sc_is_board.nd
    have hm_ := hm.opn; clear hm; obtain ⟨W, WE, hm, hW, hWE⟩ := hm_
    have hS := Sep.start (K := K) zh
    have hS := hS.tel h_board
    unfold m_is_board at hm
    refine ⟨_, (pss_one (ps_try_manyN pss_nil rfl rfl takes0 (fun W pn xe tk _ => (pss_one (ps_ret (pe_cmpR (op_eqCK (K := K) rfl hr.units) (pe_calS C_make_board (hr.mono (by decide)) (fun σ => passAt tk σ) (pa_cons (pv 0) pnK)) (pv 0) (nomark _))))) (.cons (c := .ref ca.NoBoard) ⟨rfl, by decide, .inl T.gx_NoBoard⟩ (fun a oe cls d pn hz hf => (pss_one (ps_ret (pcK pe_bl)))) (.cons (c := .ref ca.Meet) ⟨rfl, by decide, .inl T.gx_Meet⟩ (fun a oe cls d pn hz hf => (pss_one (ps_ret (pcK pe_bl)))) .nil)))), ?_⟩
    obtain ⟨W1, WE2, hm, hK3, hF4⟩ := Good.trW hm
    refine ⟨_, rfl, ⟨trivial, ⟨_, _, _, rfl, hS.zh, (hS.fact 0 rfl), (Good.bnd hm).imp (fun r5 hm => NewO.tel hS.zh (fun v17 Z14 H15 st16 hv17 => ?_)) (fun e6 h7 Z8 H9 cls10 d11 st12 x13 => ?_)⟩⟩⟩
    have hS := (hS.step st16).tel (a := r5) hv17
    refine ⟨_, rfl, (k_eqL (α := (List (Int × Int))) (Rn.tel hS.zh (hS.fact 0 rfl)) (Rn.tel hS.zh (hS.fact 1 rfl)) (Nat.le_of_ble_eq_true rfl) ?_)⟩
    have hm := hK3 _ hm
    exact hW _ hm _ _ hS.st
    have hm := hF4 e6 h7
    have hS := hS.step st12
    clear h7
    cases e6 with
    | Meet p_21 q_22 => 
      dsimp only at hm
      obtain ⟨rfl, xd23, v24, v25, rfl, hx26, h27, h28⟩ := x13
      have hS := hS.tel (a := p_21) h27
      have hS := hS.tel (a := q_22) h28
      have hS := hS.tel (v := .ref xd23) (a := (⟨[("other", v25), ("one", v24)]⟩ : Xd)) ⟨_, rfl, hx26⟩
      refine ⟨false, T.em_Meet_NoBoard, (fun q => nomatch q), fun _ => ?_⟩
      refine ⟨true, T.em_Meet_Meet, (fun _ ax29 na30 => ?_), (fun q => nomatch q)⟩
      refine ⟨trivial, ?_⟩
      exact hW _ hm _ _ hS.st
    | NoBoard  => 
      dsimp only at hm
      obtain ⟨rfl, rfl⟩ := x13
      refine ⟨true, T.em_NoBoard_NoBoard, (fun _ ax31 na32 => ?_), (fun q => nomatch q)⟩
      refine ⟨trivial, ?_⟩
      exact hW _ hm _ _ hS.st
    | _ => exact hm.elim
theorem ok_is_board {f : Addr} {fd : FuncData} (F : Fun K "is_board" "is_board" (topS 21) f fd) (gm : mg "is_board" = some (.ref f)) (T : Txt K mg ca cb) (C_make_board : Cal P w K mg base (L2.CX P w) "make_board" 3 ["wires"] (sp_make_board K ca)) : Cal P w K mg base CX0 "is_board" 4 ["board"] (sp_is_board K ca) :=
  ⟨⟨f, fd, okf_is_board F T C_make_board, gm, F.kp, F.binds (ps := ["board"]) fun _ _ _ _ _ _ us hl => match us, hl with | [_], _ => rfl⟩⟩
theorem sc_are_picks : FnScope ["picks", "known", "field", "text", "column", "sign"] ["picks"] (defScope (topS 22)) := ⟨rfl, rfl, rfl, by decide +kernel, rfl, by decide +kernel, by decide +kernel⟩
theorem okf_are_picks {f : Addr} {fd : FuncData} (F : Fun K "are_picks" "are_picks" (topS 22) f fd) (T : Txt K mg ca cb) (C_columns_of : Cal P w K mg base CX0 "columns_of" 1 ["field"] (sp_columns_of K ca)) (C_is_field : Cal P w K mg base CX0 "is_field" 1 ["pair"] (sp_is_field K ca)) (C_is_wide : Cal P w K mg base CX0 "is_wide" 3 ["text", "field"] (sp_is_wide K ca)) : FnOk P w K mg base CX0 4 f fd ["picks"] (sp_are_picks K ca) := by
  refine F.ok sc_are_picks (fun vs H0 Q E h => ?_) (fun cdv A outer s H0 vs Q E hr h => ?_)
  · obtain ⟨Z0, a_picks, v_picks, rfl, _⟩ := h
    rfl
  · obtain ⟨Z0, a_picks, v_picks, rfl, zh, h_picks, hm⟩ := h
    have nd := sc_are_picks.nd
    have hm_ := hm.opn; clear hm; obtain ⟨W, WE, hm, hW, hWE⟩ := hm_
    have hS := Sep.start (K := K) zh
    have hS := hS.tel h_picks
    unfold m_are_picks at hm
    refine ⟨_, (pss_cons (ps_if (pt_cmpR op_gt (pe_callB (call_lenK (K := K) rfl) (by rfl) T.b_len PySem.boot_len (pa_cons (pv 0) pnK)) (pcK pe_int) (nomark _)) (pss_one (ps_ret (pcK pe_bl))) pss_nil) (pss_cons (ps_set (i := 1) nd rfl (Or.inl rfl) (puK pe_dnewQ)) (pss_cons (ps_for PassesOwn.never rfl (pi_list (pv 0)) (pg_tup rfl (pgs_cons (pg_name (i := 2) nd rfl (Or.inl rfl)) (pgs_cons (pg_name (i := 3) nd rfl (Or.inl rfl)) pgs_nil))) (pss_cons (ps_if (ptK (PW.pt (pw_or (pt_not (pt_val (pe_cal C_is_field (hr.mono (by decide)) pass0 (pa_cons (pv 2) pnK)))) (pw_or1 (pt_not (pt_val (pe_cal C_is_wide (hr.mono (by decide)) pass0 (pa_cons (pv 3) (pa_cons (pv 2) pnK))))))))) (pss_one (ps_ret (pcK pe_bl))) pss_nil) (pss_one (ps_for PassesOwn.never rfl (pi_ziS rfl T.b_zip (pa_cons (pe_cal C_columns_of (hr.mono (by decide)) pass0 (pa_cons (pv 2) pnK)) (pa_cons (pv 3) pnK))) (pg_tup rfl (pgs_cons (pg_name (i := 4) nd rfl (Or.inl rfl)) (pgs_cons (pg_name (i := 5) nd rfl (Or.inl rfl)) pgs_nil))) (pss_one (ps_if (ptK (pt_cmpR op_ne (pe_dsetQ (pv 1) (pv 4) (pv 5) ⟨rfl, rfl, rfl, rfl⟩) (pv 5) (nomark _))) (pss_one (ps_ret (pcK pe_bl))) pss_nil)))))) (pss_one (ps_ret (pcK pe_bl)))))), ?_⟩
    refine ⟨_, rfl, ⟨trivial, (k_lenQ hS.zh (hS.fact 0 rfl) ⟨trivial, ⟨_, _, rfl, rfl, ⟨_, rfl, (ite2 (fun e1 => ?_) (fun e2 => ?_))⟩⟩⟩)⟩⟩
    · skip
      have hm := Good.ifT e1 hm
      refine ⟨trivial, ?_⟩
      exact hW _ hm _ _ hS.st
    · skip
      have hm := Good.ifF e2 hm
      refine ⟨trivial, (k_dnew (K := K) (κ := Int) (α := Str) hS.zh (NewD.gen fun known_3 en4 => NewD.ownS fun p8 ps9 Z5 H6 st7 o10 => ?_))⟩
      have hS := hS.own st7 o10
      refine (tgt1 ?_)
      have hm := Good.vl en4 hm
      obtain ⟨a11, xs12, ev13, hz14, pr15⟩ := pyL (hS.fact 1 rfl)
      obtain ⟨W19, hm, hWW19⟩ := Good.bndW hm
      refine ⟨_, rfl, ⟨_, ev13, ⟨_, SqL.of (hS.zh _ _ hz14)⟩, (forK (Z := Z5) (L := a_picks) (src_list hz14 pr15) (fun rr σr Hr Zr => (∃ (known_16 : (Dct Int Str)) (v17 : V) (w_field : Option V) (w_text : Option V) (w_column : Option V) (w_sign : Option V), σr = [some v_picks, some v17, w_field, w_text, w_column, w_sign] ∧ Sep K Z0 H0 Zr Hr [⟨(Sh.dc Int Str), v17, known_16⟩, ⟨(Sh.told (α := (List ((Int × Int) × Str)))), v_picks, a_picks⟩] ∧ Same Z5 Zr ∧ (Good (forL (fun (s_ : (Dct Int Str)) (q_ : ((Int × Int) × Str)) => m_are_picks_b0 s_ q_.1 q_.2) known_16 rr) W19 WE))) ?_ ?_ ?_ ?_)⟩⟩
      · rintro rr σr Hr Zr hk
        obtain ⟨known_16, v17, w_field, w_text, w_column, w_sign, rfl, hS, sm18, hm⟩ := hk
        obtain ⟨p121, er_⟩ := hS.ref 0 rfl
        subst er_
        exact ⟨sm18, hS.zh⟩
      · exact ⟨Z5, known_3, ((.ref p8)), (none), (none), (none), (none), rfl, hS.pick [0, 1] (by decide) rfl, Same.refl _, hm⟩
      · skip
        intro q22 r23 x24 sg25 H26 H27 Z28 mem29 dec30 hp31 y32
        obtain ⟨field_20, text_21⟩ := q22
        obtain ⟨known_16, v17, w_field, w_text, w_column, w_sign, rfl, hS, sm18, hm⟩ := hp31
        obtain ⟨p33, er_⟩ := hS.ref 0 rfl
        subst er_
        obtain ⟨W34, hm, hn35, hb36, hr37⟩ := Good.forL hm
        have hm : Good (m_are_picks_b0 known_16 field_20 text_21) _ _ := hm; unfold m_are_picks_b0 at hm
        obtain ⟨rfl, ht_⟩ := y32
        refine (tgtP hS.zh (Py.mono sm18 ht_) fun a44 e42 a45 e43 v38 v40 h39 h41 => ?_)
        obtain rfl : field_20 = a44 := e42.symm
        have hS := hS.tel (a := field_20) h39
        obtain rfl : text_21 = a45 := e43.symm
        obtain rfl : v40 = (.str text_21) := h41
        obtain ⟨W49, hmb, hWW49⟩ := Good.bndW hm
        refine ⟨trivial, testK2 (Z := Z28) (fun z_ => W49 z_) (fun Q_ q50 => ?_) (fun t48 Z51 H52 w54 st53 => ?_)⟩
        · skip
          have hm := hmb
          have sx_ := Step.refl hS.zh
          refine ⟨_, rfl, ⟨trivial, ⟨_, _, _, rfl, hS.zh, (hS.fact 0 rfl), (Good.bnd hm).imp (fun r46 hm => fun Z55 H56 st57 => ?_) hWE⟩⟩⟩
          have sx_ := sx_.trans st57
          have hS := hS.step st57
          refine ⟨_, rfl, (ite2 (fun e58 => ?_) (fun e59 => ?_))⟩
          · have hm := Good.ifT e58 hm
            exact q50 _ _ _ hm sx_
          · skip
            have hm := Good.ifF e59 hm
            refine ⟨_, rfl, ⟨_, rfl, ⟨trivial, ⟨_, _, _, _, rfl, hS.zh, (hS.fact 0 rfl), (Good.bnd hm).imp (fun r47 hm => fun Z60 H61 st62 => ?_) hWE⟩⟩⟩⟩
            have sx_ := sx_.trans st62
            have hS := hS.step st62
            refine ⟨_, rfl, (q50 _ _ _ hm sx_)⟩
        have hm := hWW49 _ w54
        have sm18 := sm18.trans st53.zz
        have hS := hS.step st53
        refine (ite2 (fun e63 => ?_) (fun e64 => ?_))
        · skip
          have hm := Good.ifT e63 hm
          refine ⟨trivial, ?_⟩
          have hm := hr37 _ hm
          have hm := hWW19 _ hm
          exact hW _ hm _ _ hS.st
        · skip
          have hm := Good.ifF e64 hm
          refine ⟨_, rfl, ⟨trivial, ⟨_, _, _, rfl, hS.zh, (hS.fact 0 rfl), (Good.bnd hm).imp (fun r65 hm => NewO.tel hS.zh (fun v69 Z66 H67 st68 hv69 => ?_)) hWE⟩⟩⟩
          have sm18 := sm18.trans st68.zz
          have hS := (hS.step st68).tel (a := r65) hv69
          obtain ⟨a72, xs73, ev74, hz75, pr76⟩ := pyL (hS.fact 0 rfl)
          obtain ⟨W80, hm, hWW80⟩ := Good.bndW hm
          refine ⟨_, rfl, ⟨trivial, ⟨_, _, _, by rw [ev74], SqL.of (hS.zh _ _ hz75), (forK (Z := Z66) (L := (r65.zip (chars text_21))) (src_ziS _ hz75 pr76) (fun rr σr Hr Zr => (∃ (known_77 : (Dct Int Str)) (v78 : V) (w_column : Option V) (w_sign : Option V), σr = [some v_picks, some v78, some v38, some (.str text_21), w_column, w_sign] ∧ Sep K Z0 H0 Zr Hr [⟨(Sh.dc Int Str), v78, known_77⟩, ⟨(Sh.told (α := (List ((Int × Int) × Str)))), v_picks, a_picks⟩, ⟨(Sh.told (α := (Int × Int))), v38, field_20⟩] ∧ Same Z66 Zr ∧ (Good (forL (fun (s_ : (Dct Int Str)) (q_ : (Int × Str)) => m_are_picks_b1 s_ q_.1 q_.2) known_77 rr) W80 WE))) ?_ ?_ ?_ ?_)⟩⟩⟩
          · rintro rr σr Hr Zr hk
            obtain ⟨known_77, v78, w_column, w_sign, rfl, hS, sm79, hm⟩ := hk
            obtain ⟨p115, er_⟩ := hS.ref 0 rfl
            subst er_
            exact ⟨sm79, hS.zh⟩
          · exact ⟨Z66, known_16, ((.ref p33)), (w_column), (w_sign), rfl, hS.pick [2, 3, 1] (by decide) rfl, Same.refl _, hm⟩
          · skip
            intro q83 r84 x85 sg86 H87 H88 Z89 mem90 dec91 hp92 y93
            obtain ⟨column_81, sign_82⟩ := q83
            obtain ⟨known_77, v78, w_column, w_sign, rfl, hS, sm79, hm⟩ := hp92
            obtain ⟨p94, er_⟩ := hS.ref 0 rfl
            subst er_
            obtain ⟨W95, hm, hn96, hb97, hr98⟩ := Good.forL hm
            have hm : Good (m_are_picks_b1 known_77 column_81 sign_82) _ _ := hm; unfold m_are_picks_b1 at hm
            have sm18 := sm18.trans sm79
            refine (tgt2 hS.zh y93 (fun v99 v101 h100 h102 st103 => ?_))
            have sm18 := sm18.trans st103.zz
            have sm79 := sm79.trans st103.zz
            have hS := hS.step st103
            obtain rfl : v99 = (.int column_81) := h100
            obtain rfl : v101 = (.str sign_82) := h102
            obtain ⟨g106, hm⟩ := Good.chk hm
            refine ⟨trivial, ⟨_, rfl, ⟨_, rfl, tyD (hS.D 0 rfl), ⟨_, rfl, ⟨_, rfl, (k_dset (k0 := column_81) (b := sign_82) (hS.D 0 rfl) rfl g106 (fun y107 u109 h108 o110 => ?_))⟩⟩⟩⟩⟩
            have hS := hS.mutD 0 rfl o110; dsimp only [List.set] at hS
            obtain ⟨got_104, en111⟩ : ∃ z, z = ((dGet (known_77).kv column_81).getD sign_82) := ⟨_, rfl⟩
            obtain ⟨known_105, en112⟩ : ∃ z, z = (⟨dSet (known_77).kv column_81 sign_82⟩ : (Dct Int Str)) := ⟨_, rfl⟩
            rw [← en111] at h108
            rw [← en112] at hS
            have hm := Good.vl en111 hm
            have hm := Good.vl en112 hm
            cases h108
            refine ⟨_, rfl, (k_neS ⟨_, rfl, (ite2 (fun e113 => ?_) (fun e114 => ?_))⟩)⟩
            · skip
              have hm := Good.ifT e113 hm
              refine ⟨trivial, ?_⟩
              have hm := hr98 _ hm
              have hm := hWW80 _ hm
              have hm := hr37 _ hm
              have hm := hWW19 _ hm
              exact hW _ hm _ _ hS.st
            · skip
              have hm := Good.ifF e114 hm
              have hm := hn96 _ hm
              exact ⟨_, known_105, ((.ref p94)), (some (.int column_81)), (some (.str sign_82)), rfl, hS.pick [0, 1, 2] (by decide) rfl, sm79, hm⟩
          · intro sg116 H117 Z118 hp119
            obtain ⟨known_77, v78, w_column, w_sign, rfl, hS, sm79, hm⟩ := hp119
            obtain ⟨p120, er_⟩ := hS.ref 0 rfl
            subst er_
            have sm18 := sm18.trans sm79
            have hm := hWW80 _ hm
            have hm := hn35 _ hm
            exact ⟨_, known_77, ((.ref p120)), (some v38), (some (.str text_21)), (w_column), (w_sign), rfl, hS.pick [0, 1] (by decide) rfl, sm18, hm⟩
      · intro sg122 H123 Z124 hp125
        obtain ⟨known_16, v17, w_field, w_text, w_column, w_sign, rfl, hS, sm18, hm⟩ := hp125
        obtain ⟨p126, er_⟩ := hS.ref 0 rfl
        subst er_
        have hm := hWW19 _ hm
        refine ⟨trivial, ?_⟩
        exact hW _ hm _ _ hS.st
theorem ok_are_picks {f : Addr} {fd : FuncData} (F : Fun K "are_picks" "are_picks" (topS 22) f fd) (gm : mg "are_picks" = some (.ref f)) (T : Txt K mg ca cb) (C_columns_of : Cal P w K mg base CX0 "columns_of" 1 ["field"] (sp_columns_of K ca)) (C_is_field : Cal P w K mg base CX0 "is_field" 1 ["pair"] (sp_is_field K ca)) (C_is_wide : Cal P w K mg base CX0 "is_wide" 3 ["text", "field"] (sp_is_wide K ca)) : Cal P w K mg base CX0 "are_picks" 4 ["picks"] (sp_are_picks K ca) :=
  ⟨⟨f, fd, okf_are_picks F T C_columns_of C_is_field C_is_wide, gm, F.kp, F.binds (ps := ["picks"]) fun _ _ _ _ _ _ us hl => match us, hl with | [_], _ => rfl⟩⟩
theorem sc_is_middle : FnScope ["middle", "deck", "one", "other"] ["middle", "deck"] (defScope (topS 23)) := ⟨rfl, rfl, rfl, by decide +kernel, rfl, by decide +kernel, by decide +kernel⟩
theorem okf_is_middle {f : Addr} {fd : FuncData} (F : Fun K "is_middle" "is_middle" (topS 23) f fd) (T : Txt K mg ca cb) (C_is_name : Cal P w K mg base CX0 "is_name" 1 ["text"] (sp_is_name K ca)) (C_is_field : Cal P w K mg base CX0 "is_field" 1 ["pair"] (sp_is_field K ca)) : FnOk P w K mg base CX0 2 f fd ["middle", "deck"] (sp_is_middle K ca) := by
  refine F.ok sc_is_middle (fun vs H0 Q E h => ?_) (fun cdv A outer s H0 vs Q E hr h => ?_)
  · obtain ⟨Z0, a_middle, v_middle, a_deck, rfl, _⟩ := h
    rfl
  · obtain ⟨Z0, a_middle, v_middle, a_deck, rfl, zh, h_middle, hm⟩ := h
    have nd := sc_is_middle.nd
    have hm_ := hm.opn; clear hm; obtain ⟨W, WE, hm, hW, hWE⟩ := hm_
    have hS := Sep.start (K := K) zh
    have hS := hS.tel h_middle
    unfold m_is_middle at hm
    refine ⟨_, (pss_cons (ps_if (pt_cmpR op_isNQ (pv 0) (pcK pe_non) (nomark _)) (pss_one (ps_ret (pcK pe_bl))) pss_nil) (pss_cons (ps_if (pt_cmpR (op_eqDK (K := K) rfl hr.units) (pe_ix (ix_dyK (K := K) rfl) (pv 0) (pcK pe_int) (fun _ _ => rfl)) (pcK pe_str) (nomark _)) (pss_one (ps_ret (pe_cal C_is_field (hr.mono (by decide)) pass0 (pa_cons (pe_ix (ix_dyK (K := K) rfl) (pv 0) (pcK pe_int) (fun _ _ => rfl)) pnK)))) pss_nil) (pss_cons (ps_if (ptK (PW.pt (pw_or (ptK (PW.pt (pw_and (pt_cmpR (op_neDK (K := K) rfl hr.units) (pe_ix (ix_dyK (K := K) rfl) (pv 0) (pcK pe_int) (fun _ _ => rfl)) (pcK pe_str) (nomark _)) (pw_and1 (pt_cmpR (op_neDK (K := K) rfl hr.units) (pe_ix (ix_dyK (K := K) rfl) (pv 0) (pcK pe_int) (fun _ _ => rfl)) (pcK pe_str) (nomark _)))))) (pw_or (pt_not (pt_val (pe_cal C_is_name (hr.mono (by decide)) pass0 (pa_cons (pe_ix (ix_dyK (K := K) rfl) (pv 0) (pcK pe_int) (fun _ _ => rfl)) pnK)))) (pw_or1 (pt_cmpR (op_eqDK (K := K) rfl hr.units) (pe_ix (ix_dyK (K := K) rfl) (pv 0) (pcK pe_int) (fun _ _ => rfl)) (pv 1) (nomark _))))))) (pss_one (ps_ret (pcK pe_bl))) pss_nil) (pss_cons (ps_set (i := 2) nd rfl (Or.inl rfl) (pe_ix (ix_dyK (K := K) rfl) (pv 0) (pcK pe_int) (fun _ _ => rfl))) (pss_cons (ps_set (i := 3) nd rfl (Or.inl rfl) (pe_ix (ix_dyK (K := K) rfl) (pv 0) (pcK pe_int) (fun _ _ => rfl))) (pss_one (ps_ret (puK (pe_and (pe_cal C_is_field (hr.mono (by decide)) pass0 (pa_cons (pv 2) pnK)) (pe_and (pe_cal C_is_field (hr.mono (by decide)) pass0 (pa_cons (pv 3) pnK)) (pe_one (pe_cmpR op_eq (pe_op op_sub (pe_ix (ix_tupK (K := K) rfl) (pv 2) (pcK pe_int) (fun _ _ => rfl)) (pe_ix (ix_tupK (K := K) rfl) (pv 2) (pcK pe_int) (fun _ _ => rfl))) (pe_op op_sub (pe_ix (ix_tupK (K := K) rfl) (pv 3) (pcK pe_int) (fun _ _ => rfl)) (pe_ix (ix_tupK (K := K) rfl) (pv 3) (pcK pe_int) (fun _ _ => rfl))) (nomark _))))))))))))), ?_⟩
    refine ⟨_, rfl, ⟨trivial, (k_isNd (hS.fact 0 rfl) ⟨_, rfl, (ite2 (fun e1 => ?_) (fun e2 => ?_))⟩)⟩⟩
    · skip
      have hm := Good.ifT e1 hm
      refine ⟨trivial, ?_⟩
      exact hW _ hm _ _ hS.st
    · skip
      have hm := Good.ifF e2 hm
      obtain ⟨g3, hm⟩ := Good.chk hm
      obtain ⟨g5, hm⟩ := Good.chk hm
      refine ⟨_, rfl, ⟨trivial, (k_ixD hS.zh (hS.fact 0 rfl) g3.1 g3.2 (fun y4 hy4 => ⟨trivial, (k_eqN (Rn.tel hS.zh hy4) (Rn.dy (α := Str) (Rn.sc (a := ("first" : Str)))) g5 ⟨_, rfl, (ite2 (fun e6 => ?_) (fun e7 => ?_))⟩)⟩))⟩⟩
      · skip
        have hm := Good.ifT e6 hm
        obtain ⟨g10, hm⟩ := Good.chk hm
        obtain ⟨g11, hm⟩ := Good.chk hm
        refine ⟨_, rfl, ⟨trivial, (k_ixDT (α := (Int × Int)) hS.zh (hS.fact 0 rfl) g10.1 g10.2 g11 (fun y12 hy12 => ⟨trivial, ⟨_, _, _, rfl, hS.zh, hy12, (Good.bnd hm).imp (fun r13 hm => fun Z14 H15 st16 => ?_) hWE⟩⟩))⟩⟩
        have hS := hS.tel (a := ((FromD.fd (α := (Int × Int)) (dyAt a_middle (1 : Int))).getD default)) hy12
        have hS := hS.step st16
        exact hW _ hm _ _ hS.st
      · skip
        have hm := Good.ifF e7 hm
        obtain ⟨W32, hmb, hWW32⟩ := Good.bndW hm
        refine ⟨trivial, testK2 (Z := Z0) (fun z_ => W32 z_) (fun Q_ q33 => ?_) (fun t31 Z34 H35 w37 st36 => ?_)⟩
        · skip
          have hm := hmb
          have sx_ := Step.refl hS.zh
          obtain ⟨g17, hm⟩ := Good.chk hm
          obtain ⟨g19, hm⟩ := Good.chk hm
          obtain ⟨g20, hm⟩ := Good.chk hm
          obtain ⟨g22, hm⟩ := Good.chk hm
          refine ⟨trivial, (ansAnd (fun _ q => ⟨_, rfl, ⟨trivial, (k_ixD hS.zh (hS.fact 0 rfl) g17.1 g17.2 (fun y18 hy18 => ⟨trivial, (k_neN (Rn.tel hS.zh hy18) (Rn.dy (α := Str) (Rn.sc (a := ("mates" : Str)))) g19 ⟨_, rfl, q⟩)⟩))⟩⟩) (fun b40 _ q => ⟨_, rfl, ⟨trivial, (k_ixD hS.zh (hS.fact 0 rfl) (g20 b40).1 (g20 b40).2 (fun y21 hy21 => ⟨trivial, (k_neN (Rn.tel hS.zh hy21) (Rn.dy (α := Str) (Rn.sc (a := ("without" : Str)))) (g22 b40) ⟨_, rfl, q⟩)⟩))⟩⟩) (ite2 (fun e38 => ?_) (fun e39 => ?_)))⟩
          · have hm := Good.ifT e38 hm
            exact q33 _ _ _ hm sx_
          · skip
            have hm := Good.ifF e39 hm
            obtain ⟨g25, hm⟩ := Good.chk hm
            obtain ⟨g26, hm⟩ := Good.chk hm
            refine ⟨_, rfl, ⟨trivial, (k_ixDS (α := Str) hS.zh (hS.fact 0 rfl) g25.1 g25.2 g26 ⟨trivial, ⟨_, _, rfl, hS.zh, (Good.bnd hm).imp (fun r27 hm => fun Z41 H42 st43 => ?_) hWE⟩⟩)⟩⟩
            have sx_ := sx_.trans st43
            have hS := hS.step st43
            refine ⟨_, rfl, (ite2 (fun e44 => ?_) (fun e45 => ?_))⟩
            · have hm := Good.ifT e44 hm
              exact q33 _ _ _ hm sx_
            · skip
              have hm := Good.ifF e45 hm
              obtain ⟨g28, hm⟩ := Good.chk hm
              obtain ⟨g30, hm⟩ := Good.chk hm
              refine ⟨_, rfl, ⟨trivial, (k_ixD hS.zh (hS.fact 0 rfl) g28.1 g28.2 (fun y29 hy29 => ⟨_, rfl, (k_eqN (Rn.tel hS.zh hy29) (Rn.dy (α := Str) (Rn.sc (a := a_deck))) g30 ⟨_, rfl, (q33 _ _ _ hm sx_)⟩)⟩))⟩⟩
        have hm := hWW32 _ w37
        have hS := hS.step st36
        refine (ite2 (fun e46 => ?_) (fun e47 => ?_))
        · skip
          have hm := Good.ifT e46 hm
          refine ⟨trivial, ?_⟩
          exact hW _ hm _ _ hS.st
        · skip
          have hm := Good.ifF e47 hm
          obtain ⟨g50, hm⟩ := Good.chk hm
          obtain ⟨g51, hm⟩ := Good.chk hm
          refine ⟨_, rfl, ⟨trivial, (k_ixDT (α := (Int × Int)) hS.zh (hS.fact 0 rfl) g50.1 g50.2 g51 (fun y52 hy52 => (tgt1 ?_)))⟩⟩
          obtain ⟨one_53, en54⟩ : ∃ z, z = ((FromD.fd (α := (Int × Int)) (dyAt a_middle (2 : Int))).getD default) := ⟨_, rfl⟩
          have h55 := hy52; rw [← en54] at h55
          have hS := hS.tel (a := one_53) h55
          have hm := Good.vl en54 hm
          obtain ⟨g58, hm⟩ := Good.chk hm
          obtain ⟨g59, hm⟩ := Good.chk hm
          refine ⟨_, rfl, ⟨trivial, (k_ixDT (α := (Int × Int)) hS.zh (hS.fact 1 rfl) g58.1 g58.2 g59 (fun y60 hy60 => (tgt1 ?_)))⟩⟩
          obtain ⟨other_61, en62⟩ : ∃ z, z = ((FromD.fd (α := (Int × Int)) (dyAt a_middle (3 : Int))).getD default) := ⟨_, rfl⟩
          have h63 := hy60; rw [← en62] at h63
          have hS := hS.tel (a := other_61) h63
          have hm := Good.vl en62 hm
          obtain ⟨W67, hmb, hWW67⟩ := Good.bndW hm
          refine ⟨trivial, valK2 (Z := Z34) (fun z_ => W67 z_) (fun Q_ q68 => ?_) (fun t66 Z69 H70 w72 st71 => ?_)⟩
          · skip
            have hm := hmb
            have sx_ := Step.refl hS.zh
            refine ⟨_, rfl, ⟨trivial, ⟨_, _, _, rfl, hS.zh, (hS.fact 1 rfl), (Good.bnd hm).imp (fun r64 hm => fun Z73 H74 st75 => ?_) hWE⟩⟩⟩
            have sx_ := sx_.trans st75
            have hS := hS.step st75
            refine ⟨_, rfl, (ite2 (fun e76 => ?_) (fun e77 => ?_))⟩
            · skip
              have hm := Good.ifT e76 hm
              refine ⟨_, rfl, ⟨trivial, ⟨_, _, _, rfl, hS.zh, (hS.fact 0 rfl), (Good.bnd hm).imp (fun r65 hm => fun Z78 H79 st80 => ?_) hWE⟩⟩⟩
              have sx_ := sx_.trans st80
              have hS := hS.step st80
              refine ⟨_, rfl, (ite2 (fun e81 => ?_) (fun e82 => ?_))⟩
              · skip
                have hm := Good.ifT e81 hm
                refine ⟨_, rfl, ⟨trivial, (k_sndS hS.zh (hS.fact 1 rfl) ⟨_, rfl, ⟨trivial, (k_fstS hS.zh (hS.fact 1 rfl) ⟨_, _, rfl, rfl, ⟨_, rfl, ⟨trivial, (k_sndS hS.zh (hS.fact 0 rfl) ⟨_, rfl, ⟨trivial, (k_fstS hS.zh (hS.fact 0 rfl) ⟨_, _, rfl, rfl, (k_eqI (q68 _ _ _ hm sx_))⟩)⟩⟩)⟩⟩⟩)⟩⟩)⟩⟩
              · have hm := Good.ifF e82 hm
                exact q68 _ _ _ hm sx_
            · have hm := Good.ifF e77 hm
              exact q68 _ _ _ hm sx_
          have hm := hWW67 _ w72
          have hS := hS.step st71
          exact hW _ hm _ _ hS.st
theorem ok_is_middle {f : Addr} {fd : FuncData} (F : Fun K "is_middle" "is_middle" (topS 23) f fd) (gm : mg "is_middle" = some (.ref f)) (T : Txt K mg ca cb) (C_is_name : Cal P w K mg base CX0 "is_name" 1 ["text"] (sp_is_name K ca)) (C_is_field : Cal P w K mg base CX0 "is_field" 1 ["pair"] (sp_is_field K ca)) : Cal P w K mg base CX0 "is_middle" 2 ["middle", "deck"] (sp_is_middle K ca) :=
  ⟨⟨f, fd, okf_is_middle F T C_is_name C_is_field, gm, F.kp, F.binds (ps := ["middle", "deck"]) fun _ _ _ _ _ _ us hl => match us, hl with | [_, _], _ => rfl⟩⟩
theorem sc_main_field : FnScope ["middle"] ["middle"] (defScope (topS 24)) := ⟨rfl, rfl, rfl, by decide +kernel, rfl, by decide +kernel, by decide +kernel⟩
theorem okf_main_field {f : Addr} {fd : FuncData} (F : Fun K "main_field" "main_field" (topS 24) f fd) (T : Txt K mg ca cb) : FnOk P w K mg base CX0 1 f fd ["middle"] (sp_main_field K ca) := by
  refine F.ok sc_main_field (fun vs H0 Q E h => ?_) (fun cdv A outer s H0 vs Q E hr h => ?_)
  · obtain ⟨Z0, a_middle, v_middle, rfl, _⟩ := h
    rfl
  · obtain ⟨Z0, a_middle, v_middle, rfl, zh, h_middle, hm⟩ := h
    have nd := sc_main_field.nd
    have hm_ := hm.opn; clear hm; obtain ⟨W, WE, hm, hW, hWE⟩ := hm_
    have hS := Sep.start (K := K) zh
    have hS := hS.tel h_middle
    unfold m_main_field at hm
    refine ⟨_, (pss_cons (ps_if (pt_cmpR op_isNQ (pv 0) (pcK pe_non) (nomark _)) (pss_one (ps_ret (pe_lstQ pnK))) pss_nil) (pss_cons (ps_if (pt_cmpR (op_eqDK (K := K) rfl hr.units) (pe_ix (ix_dyK (K := K) rfl) (pv 0) (pcK pe_int) (fun _ _ => rfl)) (pcK pe_str) (nomark _)) (pss_one (ps_ret (pe_lstQ (pa_cons (pe_ix (ix_dyK (K := K) rfl) (pv 0) (pcK pe_int) (fun _ _ => rfl)) pnK)))) pss_nil) (pss_one (ps_ret (pe_lstQ (pa_cons (pe_ix (ix_dyK (K := K) rfl) (pv 0) (pcK pe_int) (fun _ _ => rfl)) pnK)))))), ?_⟩
    refine ⟨_, rfl, ⟨trivial, (k_isNd (hS.fact 0 rfl) ⟨_, rfl, (ite2 (fun e1 => ?_) (fun e2 => ?_))⟩)⟩⟩
    · skip
      have hm := Good.ifT e1 hm
      refine ⟨trivial, (k_lst (K := K) (m := ([] : (List (Int × Int)))) hS.zh .nil (Nat.le_of_ble_eq_true rfl) (New.ownS fun p6 ps7 Z3 H4 st5 o8 => ?_))⟩
      have hS := hS.own st5 o8
      obtain ⟨ps_, o_⟩ := hS.nth 0 rfl
      exact hW _ hm _ _ _ _ hS.st o_
    · skip
      have hm := Good.ifF e2 hm
      obtain ⟨g9, hm⟩ := Good.chk hm
      obtain ⟨g11, hm⟩ := Good.chk hm
      refine ⟨_, rfl, ⟨trivial, (k_ixD hS.zh (hS.fact 0 rfl) g9.1 g9.2 (fun y10 hy10 => ⟨trivial, (k_eqN (Rn.tel hS.zh hy10) (Rn.dy (α := Str) (Rn.sc (a := ("first" : Str)))) g11 ⟨_, rfl, (ite2 (fun e12 => ?_) (fun e13 => ?_))⟩)⟩))⟩⟩
      · skip
        have hm := Good.ifT e12 hm
        obtain ⟨g16, hm⟩ := Good.chk hm
        obtain ⟨g17, hm⟩ := Good.chk hm
        refine ⟨_, rfl, ⟨trivial, (k_ixDT (α := (Int × Int)) hS.zh (hS.fact 0 rfl) g16.1 g16.2 g17 (fun y18 hy18 => ⟨trivial, (k_lst (K := K) (m := [((FromD.fd (α := (Int × Int)) (dyAt a_middle (1 : Int))).getD default)]) hS.zh (.cons hy18 .nil) (Nat.le_of_ble_eq_true rfl) (New.ownS fun p22 ps23 Z19 H20 st21 o24 => ?_))⟩))⟩⟩
        have hS := hS.tel (a := ((FromD.fd (α := (Int × Int)) (dyAt a_middle (1 : Int))).getD default)) hy18
        have hS := hS.own st21 o24
        obtain ⟨ps_, o_⟩ := hS.nth 0 rfl
        exact hW _ hm _ _ _ _ hS.st o_
      · skip
        have hm := Good.ifF e13 hm
        obtain ⟨g27, hm⟩ := Good.chk hm
        obtain ⟨g28, hm⟩ := Good.chk hm
        refine ⟨_, rfl, ⟨trivial, (k_ixDT (α := (Int × Int)) hS.zh (hS.fact 0 rfl) g27.1 g27.2 g28 (fun y29 hy29 => ⟨trivial, (k_lst (K := K) (m := [((FromD.fd (α := (Int × Int)) (dyAt a_middle (2 : Int))).getD default)]) hS.zh (.cons hy29 .nil) (Nat.le_of_ble_eq_true rfl) (New.ownS fun p33 ps34 Z30 H31 st32 o35 => ?_))⟩))⟩⟩
        have hS := hS.tel (a := ((FromD.fd (α := (Int × Int)) (dyAt a_middle (2 : Int))).getD default)) hy29
        have hS := hS.own st32 o35
        obtain ⟨ps_, o_⟩ := hS.nth 0 rfl
        exact hW _ hm _ _ _ _ hS.st o_
theorem ok_main_field {f : Addr} {fd : FuncData} (F : Fun K "main_field" "main_field" (topS 24) f fd) (gm : mg "main_field" = some (.ref f)) (T : Txt K mg ca cb) : Cal P w K mg base CX0 "main_field" 1 ["middle"] (sp_main_field K ca) :=
  ⟨⟨f, fd, okf_main_field F T, gm, F.kp, F.binds (ps := ["middle"]) fun _ _ _ _ _ _ us hl => match us, hl with | [_], _ => rfl⟩⟩
theorem sc_are_works : FnScope ["works", "guarded", "k", "work", "to", "one", "word", "other", "kept", "ahead", "field"] ["works", "guarded"] (defScope (topS 25)) := ⟨rfl, rfl, rfl, by decide +kernel, rfl, by decide +kernel, by decide +kernel⟩
theorem okf_are_works {f : Addr} {fd : FuncData} (F : Fun K "are_works" "are_works" (topS 25) f fd) (T : Txt K mg ca cb) (C_are_apart : Cal P w K mg base CX0 "are_apart" 1 ["one", "other"] (sp_are_apart K ca)) (C_is_field : Cal P w K mg base CX0 "is_field" 1 ["pair"] (sp_is_field K ca)) : FnOk P w K mg base CX0 2 f fd ["works", "guarded"] (sp_are_works K ca) := by
  refine F.ok sc_are_works (fun vs H0 Q E h => ?_) (fun cdv A outer s H0 vs Q E hr h => ?_)
  · obtain ⟨Z0, a_works, v_works, a_guarded, v_guarded, rfl, _⟩ := h
    rfl
  · obtain ⟨Z0, a_works, v_works, a_guarded, v_guarded, rfl, zh, h_works, h_guarded, hm⟩ := h
    have nd := sc_are_works.nd
    have hm_ := hm.opn; clear hm; obtain ⟨W, WE, hm, hW, hWE⟩ := hm_
    have hS := Sep.start (K := K) zh
    have hS := hS.tel h_works
    have hS := hS.tel h_guarded
    unfold m_are_works at hm
    refine ⟨_, (pss_cons (ps_if (pt_cmpR op_gt (pe_callB (call_lenK (K := K) rfl) (by rfl) T.b_len PySem.boot_len (pa_cons (pv 0) pnK)) (pcK pe_int) (nomark _)) (pss_one (ps_ret (pcK pe_bl))) pss_nil) (pss_cons (ps_for PassesOwn.never rfl (pi_enum rfl T.b_enumerate (pa_cons (pv 0) pnK)) (pg_tup rfl (pgs_cons (pg_name (i := 2) nd rfl (Or.inl rfl)) (pgs_cons (pg_name (i := 3) nd rfl (Or.inl rfl)) pgs_nil))) (pss_cons (ps_asg (pv 3) (pg_tup rfl (pgs_cons (pg_name (i := 4) nd rfl (Or.inl rfl)) (pgs_cons (pg_name (i := 5) nd rfl (Or.inl rfl)) (pgs_cons (pg_name (i := 6) nd rfl (Or.inl rfl)) (pgs_cons (pg_name (i := 7) nd rfl (Or.inl rfl)) pgs_nil)))))) (pss_cons (ps_if (ptK (pt_cmpR (op_ninK (K := K) rfl) (pv 6) (pe_tupQ (pa_cons (pcK pe_str) (pa_cons (pcK pe_str) (pa_cons (pcK pe_str) pnK)))) (by rfl))) (pss_one (ps_ret (pcK pe_bl))) pss_nil) (pss_cons (ps_if (ptK (PW.pt (pw_or (pt_not (pt_val (pe_cal C_is_field (hr.mono (by decide)) pass0 (pa_cons (pv 4) pnK)))) (pw_or (pt_not (pt_val (pe_cal C_is_field (hr.mono (by decide)) pass0 (pa_cons (pv 5) pnK)))) (pw_or1 (pt_not (pt_val (pe_cal C_is_field (hr.mono (by decide)) pass0 (pa_cons (pv 7) pnK))))))))) (pss_one (ps_ret (pcK pe_bl))) pss_nil) (pss_cons (ps_set (i := 8) nd rfl (Or.inl rfl) (pe_op op_cat (pv 1) (pe_lcQ (own := [("ahead", 9)]) (g := (gName 9)) rfl nd (pi_list (pe_slice (sl_listK (K := K) rfl) (pv 0) po_noK (po_some (pv 2)))) (blkOk_by (N := ["works", "guarded", "k", "work", "to", "one", "word", "other", "kept", "ahead", "field"]) (sc := defScope (topS 25)) (own := [("ahead", 9)]) (by decide +kernel)) (by intro _ _ _ _ _; exact pg_name (i := 9) nd rfl (Or.inl rfl)) (by intro _ _ _ _ _; exact pts_nil) (by intro _ _ _ _ _; exact (pe_ix (ix_tupK (K := K) rfl) (pv 9) (pcK pe_int) (fun _ _ => rfl)))))) (pss_cons (ps_for PassesOwn.never rfl (pi_list (pe_slice (sl_listK (K := K) rfl) (pv 0) po_noK (po_some (pe_op op_add (pv 2) (pcK pe_int))))) (pg_name (i := 9) nd rfl (Or.inl rfl)) (pss_one (ps_set (i := 8) nd rfl (Or.inl rfl) (pe_op op_cat (pv 8) (pe_lstQ (pa_cons (pe_ix (ix_tupK (K := K) rfl) (pv 9) (pcK pe_int) (fun _ _ => rfl)) (pa_cons (pe_ix (ix_tupK (K := K) rfl) (pv 9) (pcK pe_int) (fun _ _ => rfl)) pnK))))))) (pss_one (ps_for PassesOwn.never rfl (pi_list (pv 8)) (pg_name (i := 10) nd rfl (Or.inl rfl)) (pss_one (ps_if (ptK (pt_not (pt_val (pe_cal C_are_apart (hr.mono (by decide)) pass0 (pa_cons (pv 4) (pa_cons (pv 10) pnK)))))) (pss_one (ps_ret (pcK pe_bl))) pss_nil)))))))))) (pss_one (ps_ret (pcK pe_bl))))), ?_⟩
    refine ⟨_, rfl, ⟨trivial, (k_lenQ hS.zh (hS.fact 1 rfl) ⟨trivial, ⟨_, _, rfl, rfl, ⟨_, rfl, (ite2 (fun e1 => ?_) (fun e2 => ?_))⟩⟩⟩)⟩⟩
    · skip
      have hm := Good.ifT e1 hm
      refine ⟨trivial, ?_⟩
      exact hW _ hm _ _ hS.st
    · skip
      have hm := Good.ifF e2 hm
      obtain ⟨a3, xs4, ev5, hz6, pr7⟩ := pyL (hS.fact 1 rfl)
      obtain ⟨W9, hm, hWW9⟩ := Good.bndW hm
      refine ⟨_, rfl, ⟨trivial, ⟨_, _, by rw [ev5], SqL.of (hS.zh _ _ hz6), (forK (Z := Z0) (L := (enumL 0 a_works)) (src_enum hz6 pr7) (fun rr σr Hr Zr => (∃ (w_k : Option V) (w_work : Option V) (w_to : Option V) (w_one : Option V) (w_word : Option V) (w_other : Option V) (w_kept : Option V) (w_ahead : Option V) (w_field : Option V), σr = [some v_works, some v_guarded, w_k, w_work, w_to, w_one, w_word, w_other, w_kept, w_ahead, w_field] ∧ Sep K Z0 H0 Zr Hr [⟨(Sh.told (α := (List (T4 (Int × Int) (Int × Int) Str (Int × Int))))), v_works, a_works⟩, ⟨(Sh.told (α := (List (Int × Int)))), v_guarded, a_guarded⟩] ∧ Same Z0 Zr ∧ (Good (forL (fun (s_ : Unit) (q_ : (Int × (T4 (Int × Int) (Int × Int) Str (Int × Int)))) => m_are_works_b0 a_works a_guarded q_.1 q_.2) () rr) W9 WE))) ?_ ?_ ?_ ?_)⟩⟩⟩
      · rintro rr σr Hr Zr hk
        obtain ⟨w_k, w_work, w_to, w_one, w_word, w_other, w_kept, w_ahead, w_field, rfl, hS, sm8, hm⟩ := hk
        exact ⟨sm8, hS.zh⟩
      · exact ⟨Z0, (none), (none), (none), (none), (none), (none), (none), (none), (none), rfl, hS.pick [1, 0] (by decide) rfl, Same.refl _, hm⟩
      · skip
        intro q12 r13 x14 sg15 H16 H17 Z18 mem19 dec20 hp21 y22
        obtain ⟨k_10, work_11⟩ := q12
        obtain ⟨w_k, w_work, w_to, w_one, w_word, w_other, w_kept, w_ahead, w_field, rfl, hS, sm8, hm⟩ := hp21
        obtain ⟨W23, hm, hn24, hb25, hr26⟩ := Good.forL hm
        have hm : Good (m_are_works_b0 a_works a_guarded k_10 work_11) _ _ := hm; unfold m_are_works_b0 at hm
        refine (tgt2 hS.zh y22 (fun v27 v29 h28 h30 st31 => ?_))
        have sm8 := sm8.trans st31.zz
        have hS := hS.step st31
        obtain rfl : v27 = (.int k_10) := h28
        have h30 := Py.mono st31.zz (Py.mono sm8 h30)
        have hS := hS.tel (a := work_11) h30
        refine ⟨_, rfl, (tgt4 hS.zh (hS.fact 0 rfl) fun to_32 en36 one_33 en37 word_34 en38 other_35 en39 v40 v41 v42 v43 h44 h45 h46 h47 => ?_)⟩
        have hm := Good.vl en36 hm
        have hS := hS.tel (a := to_32) h44
        have hm := Good.vl en37 hm
        have hS := hS.tel (a := one_33) h45
        have hm := Good.vl en38 hm
        obtain rfl : v42 = (.str word_34) := h46
        have hm := Good.vl en39 hm
        have hS := hS.tel (a := other_35) h47
        refine ⟨trivial, ⟨_, rfl, ⟨trivial, ⟨trivial, ⟨trivial, ⟨trivial, (k_tupTL (K := K) (m := [("plus" : Str), ("less" : Str), ("times" : Str)]) hS.zh (.cons rfl (.cons rfl (.cons rfl .nil))) (Nat.le_of_ble_eq_true rfl) (fun v51 Z48 H49 st50 hv51 => ?_))⟩⟩⟩⟩⟩⟩
        have sm8 := sm8.trans st50.zz
        have hS := (hS.step st50).tel (a := (⟨[("plus" : Str), ("less" : Str), ("times" : Str)]⟩ : (TL Str))) hv51
        refine (k_ninT hS.zh (hS.fact 0 rfl) ⟨_, rfl, (ite2 (fun e52 => ?_) (fun e53 => ?_))⟩)
        · skip
          have hm := Good.ifT e52 hm
          have hS := hS.drop
          refine ⟨trivial, ?_⟩
          have hm := hr26 _ hm
          have hm := hWW9 _ hm
          exact hW _ hm _ _ hS.st
        · skip
          have hm := Good.ifF e53 hm
          have hS := hS.drop
          obtain ⟨W58, hmb, hWW58⟩ := Good.bndW hm
          refine ⟨trivial, testK2 (Z := Z48) (fun z_ => W58 z_) (fun Q_ q59 => ?_) (fun t57 Z60 H61 w63 st62 => ?_)⟩
          · skip
            have hm := hmb
            have sx_ := Step.refl hS.zh
            refine ⟨_, rfl, ⟨trivial, ⟨_, _, _, rfl, hS.zh, (hS.fact 2 rfl), (Good.bnd hm).imp (fun r54 hm => fun Z64 H65 st66 => ?_) hWE⟩⟩⟩
            have sx_ := sx_.trans st66
            have hS := hS.step st66
            refine ⟨_, rfl, (ite2 (fun e67 => ?_) (fun e68 => ?_))⟩
            · have hm := Good.ifT e67 hm
              exact q59 _ _ _ hm sx_
            · skip
              have hm := Good.ifF e68 hm
              refine ⟨_, rfl, ⟨trivial, ⟨_, _, _, rfl, hS.zh, (hS.fact 1 rfl), (Good.bnd hm).imp (fun r55 hm => fun Z69 H70 st71 => ?_) hWE⟩⟩⟩
              have sx_ := sx_.trans st71
              have hS := hS.step st71
              refine ⟨_, rfl, (ite2 (fun e72 => ?_) (fun e73 => ?_))⟩
              · have hm := Good.ifT e72 hm
                exact q59 _ _ _ hm sx_
              · skip
                have hm := Good.ifF e73 hm
                refine ⟨_, rfl, ⟨trivial, ⟨_, _, _, rfl, hS.zh, (hS.fact 0 rfl), (Good.bnd hm).imp (fun r56 hm => fun Z74 H75 st76 => ?_) hWE⟩⟩⟩
                have sx_ := sx_.trans st76
                have hS := hS.step st76
                refine ⟨_, rfl, (q59 _ _ _ hm sx_)⟩
          have hm := hWW58 _ w63
          have sm8 := sm8.trans st62.zz
          have hS := hS.step st62
          refine (ite2 (fun e77 => ?_) (fun e78 => ?_))
          · skip
            have hm := Good.ifT e77 hm
            refine ⟨trivial, ?_⟩
            have hm := hr26 _ hm
            have hm := hWW9 _ hm
            exact hW _ hm _ _ hS.st
          · skip
            have hm := Good.ifF e78 hm
            refine ⟨_, rfl, ⟨_, rfl, ⟨trivial, ⟨_, rfl, ⟨_, rfl, (k_slL hS.zh (hS.fact 4 rfl) (New.tel fun v90 Z87 H88 st89 hv90 => ?_))⟩⟩⟩⟩⟩
            have sm8 := sm8.trans st89.zz
            have hS := (hS.step st89).tel (a := (cutL a_works none (some k_10))) hv90
            obtain ⟨g83, hm⟩ := Good.chk hm
            obtain ⟨a91, xs92, ev93, hz94, pr95⟩ := pyL (hS.fact 0 rfl)
            refine ⟨_, ev93, ⟨_, SqL.of (hS.zh _ _ hz94)⟩, (lcKQ (K := K) (src_list hz94 pr95) hS.zh (fun (ahead_79 : (T4 (Int × Int) (Int × Int) Str (Int × Int))) => ahead_79.x1) (fun _ => true) g83 (fun ahead_79 x96 Z97 H98 H99 C100 N101 mem102 st103 y104 kC105 kN106 => ?_) (New.all (New.tel fun v112 Z109 H110 st111 hv112 => ?_)))⟩
            · skip
              have hS := hS.step st103
              have sx_ := Step.refl hS.zh
              obtain ⟨rfl, h81⟩ := y104
              have h81 := Py.mono st103.zz h81
              have hS := hS.tel h81
              refine (tgt1 ?_)
              refine ⟨rfl, (yesK ⟨_, rfl, ⟨trivial, (k_t41 hS.zh h81 (fun y82 hy82 => (kC105 _ _ _ sx_ rfl hy82)))⟩⟩)⟩
            have sm8 := sm8.trans st111.zz
            have hS := (hS.step st111).tel (a := ((cutL a_works none (some k_10)).map (fun (ahead_79 : (T4 (Int × Int) (Int × Int) Str (Int × Int))) => ahead_79.x1))) hv112
            obtain ⟨g84, hm⟩ := Good.chk hm
            refine (k_catL hS.zh (RO.tell hS.zh (hS.fact 7 rfl)) (RO.tell hS.zh (hS.fact 0 rfl)) g84 (New.gen fun kept_85 en86 => New.tel fun v116 Z113 H114 st115 hv116 => ?_))
            have sm8 := sm8.trans st115.zz
            have hS := (hS.step st115).tel (a := kept_85) hv116
            refine (tgt1 ?_)
            have hm := Good.vl en86 hm
            have hS := hS.drop1
            have hS := hS.drop1
            refine ⟨_, rfl, ⟨trivial, ⟨_, rfl, ⟨trivial, ⟨_, _, rfl, rfl, ⟨_, rfl, (k_slL hS.zh (hS.fact 5 rfl) (New.tel fun v120 Z117 H118 st119 hv120 => ?_))⟩⟩⟩⟩⟩⟩
            have sm8 := sm8.trans st119.zz
            have hS := (hS.step st119).tel (a := (cutL a_works none (some (k_10 + (1 : Int))))) hv120
            obtain ⟨a121, xs122, ev123, hz124, pr125⟩ := pyL (hS.fact 0 rfl)
            obtain ⟨W129, hm, hWW129⟩ := Good.bndW hm
            refine ⟨_, ev123, ⟨_, SqL.of (hS.zh _ _ hz124)⟩, (forK (Z := Z117) (L := (cutL a_works none (some (k_10 + (1 : Int))))) (src_list hz124 pr125) (fun rr σr Hr Zr => (∃ (kept_126 : (List (Int × Int))) (v127 : V) (w_ahead : Option V), σr = [some v_works, some v_guarded, some (.int k_10), some v29, some v40, some v41, some (.str word_34), some v43, some v127, w_ahead, w_field] ∧ Sep K Z0 H0 Zr Hr [⟨(Sh.told (α := (List (Int × Int)))), v127, kept_126⟩, ⟨(Sh.told (α := (List (T4 (Int × Int) (Int × Int) Str (Int × Int))))), v_works, a_works⟩, ⟨(Sh.told (α := (List (Int × Int)))), v_guarded, a_guarded⟩, ⟨(Sh.told (α := (T4 (Int × Int) (Int × Int) Str (Int × Int)))), v29, work_11⟩, ⟨(Sh.told (α := (Int × Int))), v40, to_32⟩, ⟨(Sh.told (α := (Int × Int))), v41, one_33⟩, ⟨(Sh.told (α := (Int × Int))), v43, other_35⟩] ∧ Same Z117 Zr ∧ (Good (forR (fun (s_ : (List (Int × Int))) (q_ : (T4 (Int × Int) (Int × Int) Str (Int × Int))) => m_are_works_b1 s_ q_) kept_126 rr) W129 WE))) ?_ ?_ ?_ ?_)⟩
            · rintro rr σr Hr Zr hk
              obtain ⟨kept_126, v127, w_ahead, rfl, hS, sm128, hm⟩ := hk
              exact ⟨sm128, hS.zh⟩
            · exact ⟨Z117, kept_85, (v116), (w_ahead), rfl, hS.pick [1, 6, 7, 5, 4, 3, 2] (by decide) rfl, Same.refl _, hm⟩
            · skip
              intro ahead_130 r131 x132 sg133 H134 H135 Z136 mem137 dec138 hp139 y140
              obtain ⟨kept_126, v127, w_ahead, rfl, hS, sm128, hm⟩ := hp139
              obtain ⟨W141, hm, hn142⟩ := Good.forR hm
              have hm : Good (m_are_works_b1 kept_126 ahead_130) _ _ := hm; unfold m_are_works_b1 at hm
              have sm8 := sm8.trans sm128
              obtain ⟨rfl, h146⟩ := y140
              have h146 := Py.mono sm128 h146
              have hS := hS.tel h146
              refine (tgt1 ?_)
              refine ⟨_, rfl, ⟨_, rfl, ⟨trivial, (k_t42 hS.zh (hS.fact 0 rfl) (fun y147 hy147 => ⟨_, rfl, ⟨trivial, (k_t44 hS.zh (hS.fact 0 rfl) (fun y148 hy148 => ⟨trivial, (k_lst (K := K) (m := [ahead_130.x2, ahead_130.x4]) hS.zh (.cons hy147 (.cons hy148 .nil)) (Nat.le_of_ble_eq_true rfl) (New.tel fun v155 Z152 H153 st154 hv155 => ?_))⟩))⟩⟩))⟩⟩⟩
              have hS := hS.tel (a := ahead_130.x2) hy147
              have hS := hS.tel (a := ahead_130.x4) hy148
              have sm8 := sm8.trans st154.zz
              have sm128 := sm128.trans st154.zz
              have hS := (hS.step st154).tel (a := [ahead_130.x2, ahead_130.x4]) hv155
              obtain ⟨g149, hm⟩ := Good.chk hm
              refine (k_catL hS.zh (RO.tell hS.zh (hS.fact 4 rfl)) (RO.tell hS.zh (hS.fact 0 rfl)) g149 (New.gen fun kept_150 en151 => New.tel fun v159 Z156 H157 st158 hv159 => ?_))
              have sm8 := sm8.trans st158.zz
              have sm128 := sm128.trans st158.zz
              have hS := (hS.step st158).tel (a := kept_150) hv159
              refine (tgt1 ?_)
              have hm := Good.vl en151 hm
              have hm := hn142 _ hm
              exact ⟨_, kept_150, (v159), (some x132), rfl, hS.pick [0, 6, 7, 8, 9, 10, 11] (by decide) rfl, sm128, hm⟩
            · intro sg160 H161 Z162 hp163
              obtain ⟨kept_126, v127, w_ahead, rfl, hS, sm128, hm⟩ := hp163
              have sm8 := sm8.trans sm128
              have hm := hWW129 _ hm
              obtain ⟨a164, xs165, ev166, hz167, pr168⟩ := pyL (hS.fact 0 rfl)
              obtain ⟨W170, hm, hWW170⟩ := Good.bndW hm
              refine ⟨_, rfl, ⟨_, ev166, ⟨_, SqL.of (hS.zh _ _ hz167)⟩, (forK (Z := Z162) (L := kept_126) (src_list hz167 pr168) (fun rr σr Hr Zr => (∃ (w_field : Option V), σr = [some v_works, some v_guarded, some (.int k_10), some v29, some v40, some v41, some (.str word_34), some v43, some v127, w_ahead, w_field] ∧ Sep K Z0 H0 Zr Hr [⟨(Sh.told (α := (List (Int × Int)))), v127, kept_126⟩, ⟨(Sh.told (α := (List (T4 (Int × Int) (Int × Int) Str (Int × Int))))), v_works, a_works⟩, ⟨(Sh.told (α := (List (Int × Int)))), v_guarded, a_guarded⟩, ⟨(Sh.told (α := (T4 (Int × Int) (Int × Int) Str (Int × Int)))), v29, work_11⟩, ⟨(Sh.told (α := (Int × Int))), v40, to_32⟩, ⟨(Sh.told (α := (Int × Int))), v41, one_33⟩, ⟨(Sh.told (α := (Int × Int))), v43, other_35⟩] ∧ Same Z162 Zr ∧ (Good (forL (fun (s_ : Unit) (q_ : (Int × Int)) => m_are_works_b2 to_32 q_) () rr) W170 WE))) ?_ ?_ ?_ ?_)⟩⟩
              · rintro rr σr Hr Zr hk
                obtain ⟨w_field, rfl, hS, sm169, hm⟩ := hk
                exact ⟨sm169, hS.zh⟩
              · exact ⟨Z162, (w_field), rfl, hS.pick [0, 1, 2, 3, 4, 5, 6] (by decide) rfl, Same.refl _, hm⟩
              · skip
                intro field_171 r172 x173 sg174 H175 H176 Z177 mem178 dec179 hp180 y181
                obtain ⟨w_field, rfl, hS, sm169, hm⟩ := hp180
                obtain ⟨W182, hm, hn183, hb184, hr185⟩ := Good.forL hm
                have hm : Good (m_are_works_b2 to_32 field_171) _ _ := hm; unfold m_are_works_b2 at hm
                have sm8 := sm8.trans sm169
                obtain ⟨rfl, h187⟩ := y181
                have h187 := Py.mono sm169 h187
                have hS := hS.tel h187
                refine (tgt1 ?_)
                refine ⟨trivial, ⟨_, rfl, ⟨_, rfl, ⟨trivial, ⟨_, _, _, _, _, rfl, hS.zh, (hS.fact 5 rfl), (hS.fact 0 rfl), (Good.bnd hm).imp (fun r188 hm => fun Z189 H190 st191 => ?_) hWE⟩⟩⟩⟩⟩
                have sm8 := sm8.trans st191.zz
                have sm169 := sm169.trans st191.zz
                have hS := hS.step st191
                refine ⟨_, rfl, (ite2 (fun e192 => ?_) (fun e193 => ?_))⟩
                · skip
                  have hm := Good.ifT e192 hm
                  refine ⟨trivial, ?_⟩
                  have hm := hr185 _ hm
                  have hm := hWW170 _ hm
                  have hm := hr26 _ hm
                  have hm := hWW9 _ hm
                  exact hW _ hm _ _ hS.st
                · skip
                  have hm := Good.ifF e193 hm
                  have hm := hn183 _ hm
                  exact ⟨_, (some x173), rfl, hS.pick [1, 2, 3, 4, 5, 6, 7] (by decide) rfl, sm169, hm⟩
              · intro sg194 H195 Z196 hp197
                obtain ⟨w_field, rfl, hS, sm169, hm⟩ := hp197
                have sm8 := sm8.trans sm169
                have hm := hWW170 _ hm
                have hm := hn24 _ hm
                exact ⟨_, (some (.int k_10)), (some v29), (some v40), (some v41), (some (.str word_34)), (some v43), (some v127), (w_ahead), (w_field), rfl, hS.pick [1, 2] (by decide) rfl, sm8, hm⟩
      · intro sg198 H199 Z200 hp201
        obtain ⟨w_k, w_work, w_to, w_one, w_word, w_other, w_kept, w_ahead, w_field, rfl, hS, sm8, hm⟩ := hp201
        have hm := hWW9 _ hm
        refine ⟨trivial, ?_⟩
        exact hW _ hm _ _ hS.st
theorem ok_are_works {f : Addr} {fd : FuncData} (F : Fun K "are_works" "are_works" (topS 25) f fd) (gm : mg "are_works" = some (.ref f)) (T : Txt K mg ca cb) (C_are_apart : Cal P w K mg base CX0 "are_apart" 1 ["one", "other"] (sp_are_apart K ca)) (C_is_field : Cal P w K mg base CX0 "is_field" 1 ["pair"] (sp_is_field K ca)) : Cal P w K mg base CX0 "are_works" 2 ["works", "guarded"] (sp_are_works K ca) :=
  ⟨⟨f, fd, okf_are_works F T C_are_apart C_is_field, gm, F.kp, F.binds (ps := ["works", "guarded"]) fun _ _ _ _ _ _ us hl => match us, hl with | [_, _], _ => rfl⟩⟩
theorem sc_law_cell_at : FnScope ["_law_script", "_law_k"] ["_law_script", "_law_k"] (defScope (topS 28)) := ⟨rfl, rfl, rfl, by decide +kernel, rfl, by decide +kernel, by decide +kernel⟩
theorem okf_law_cell_at {f : Addr} {fd : FuncData} (F : Fun K "_law_cell_at" "_law_cell_at" (topS 28) f fd) (T : Txt K mg ca cb) : FnOk P w K mg base CX0 1 f fd ["_law_script", "_law_k"] (sp_law_cell_at K ca) := by
  refine F.ok sc_law_cell_at (fun vs H0 Q E h => ?_) (fun cdv A outer s H0 vs Q E hr h => ?_)
  · obtain ⟨Z0, a_law_script, v_law_script, a_law_k, rfl, _⟩ := h
    rfl
  · obtain ⟨Z0, a_law_script, v_law_script, a_law_k, rfl, zh, h_law_script, hm⟩ := h
    have nd := sc_law_cell_at.nd
    have hm_ := hm.opn; clear hm; obtain ⟨W, WE, hm, hW, hWE⟩ := hm_
    have hS := Sep.start (K := K) zh
    have hS := hS.tel h_law_script
    unfold m_law_cell_at at hm
    refine ⟨_, (pss_cons (ps_if (pt_cmpR op_lt (pv 1) (pe_callB (call_lenK (K := K) rfl) (by rfl) T.b_len PySem.boot_len (pa_cons (pv 0) pnK)) (nomark _)) (pss_one (ps_ret (pe_ix (ix_listK (K := K) rfl) (pv 0) (pv 1) (fun _ _ => rfl)))) pss_nil) (pss_one (ps_ret (pcK pe_int)))), ?_⟩
    refine ⟨_, rfl, ⟨_, rfl, ⟨trivial, (k_lenRQ hS.zh (hS.fact 0 rfl) ⟨_, _, rfl, rfl, ⟨_, rfl, (ite2 (fun e1 => ?_) (fun e2 => ?_))⟩⟩)⟩⟩⟩
    · skip
      have hm := Good.ifT e1 hm
      obtain ⟨g3, hm⟩ := Good.chk hm
      refine ⟨_, rfl, ⟨_, rfl, (k_ixR hS.zh (hS.fact 0 rfl) g3 ?_)⟩⟩
      exact hW _ hm _ _ hS.st
    · skip
      have hm := Good.ifF e2 hm
      refine ⟨trivial, ?_⟩
      exact hW _ hm _ _ hS.st
theorem ok_law_cell_at {f : Addr} {fd : FuncData} (F : Fun K "_law_cell_at" "_law_cell_at" (topS 28) f fd) (gm : mg "_law_cell_at" = some (.ref f)) (T : Txt K mg ca cb) : Cal P w K mg base CX0 "_law_cell_at" 1 ["_law_script", "_law_k"] (sp_law_cell_at K ca) :=
  ⟨⟨f, fd, okf_law_cell_at F T, gm, F.kp, F.binds (ps := ["_law_script", "_law_k"]) fun _ _ _ _ _ _ us hl => match us, hl with | [_, _], _ => rfl⟩⟩
theorem sc_law_whole : FnScope ["_law_found"] ["_law_found"] (defScope (topS 29)) := ⟨rfl, rfl, rfl, by decide +kernel, rfl, by decide +kernel, by decide +kernel⟩
theorem okf_law_whole {f : Addr} {fd : FuncData} (F : Fun K "_law_whole" "_law_whole" (topS 29) f fd) (T : Txt K mg ca cb) : FnOk P w K mg base CX0 1 f fd ["_law_found"] (sp_law_whole K ca) := by
  refine F.ok sc_law_whole (fun vs H0 Q E h => ?_) (fun cdv A outer s H0 vs Q E hr h => ?_)
  · obtain ⟨Z0, a_law_found, v_law_found, rfl, _⟩ := h
    rfl
  · obtain ⟨Z0, a_law_found, v_law_found, rfl, zh, h_law_found, hm⟩ := h
    have nd := sc_law_whole.nd
    have hm_ := hm.opn; clear hm; obtain ⟨W, WE, hm, hW, hWE⟩ := hm_
    have hS := Sep.start (K := K) zh
    have hS := hS.tel h_law_found
    unfold m_law_whole at hm
    refine ⟨_, (pss_one (ps_ret (puK (pe_and (pe_callB call_isi (by rfl) T.b_isinstance (by decide +kernel) (pa_cons (pv 0) (pa_cons (pcK (pe_bltn (v := .ty "int") (by rfl) T.b_int (by decide +kernel) rfl)) pnK))) (pe_one (pe_not (pe_callB call_isi (by rfl) T.b_isinstance (by decide +kernel) (pa_cons (pv 0) (pa_cons (pcK (pe_bltn (v := .ty "bool") (by rfl) T.b_bool (by decide +kernel) rfl)) pnK))))))))), ?_⟩
    obtain ⟨g1, hm⟩ := Good.chk hm
    obtain ⟨g2, hm⟩ := Good.chk hm
    refine ⟨trivial, (valAnd (fun _ q => ⟨_, rfl, ⟨trivial, ⟨trivial, (k_isiD hS.zh (hS.fact 0 rfl) g1 q)⟩⟩⟩) (fun b3 _ q => ⟨_, rfl, ⟨trivial, ⟨trivial, (k_isiD hS.zh (hS.fact 0 rfl) (g2 b3) ⟨_, rfl, q⟩)⟩⟩⟩) ?_)⟩
    exact hW _ hm _ _ hS.st
theorem ok_law_whole {f : Addr} {fd : FuncData} (F : Fun K "_law_whole" "_law_whole" (topS 29) f fd) (gm : mg "_law_whole" = some (.ref f)) (T : Txt K mg ca cb) : Cal P w K mg base CX0 "_law_whole" 1 ["_law_found"] (sp_law_whole K ca) :=
  ⟨⟨f, fd, okf_law_whole F T, gm, F.kp, F.binds (ps := ["_law_found"]) fun _ _ _ _ _ _ us hl => match us, hl with | [_], _ => rfl⟩⟩
theorem sc_law_name : FnScope ["_law_cell", "_law_letters", "_law_k"] ["_law_cell"] (defScope (topS 30)) := ⟨rfl, rfl, rfl, by decide +kernel, rfl, by decide +kernel, by decide +kernel⟩
theorem okf_law_name {f : Addr} {fd : FuncData} (F : Fun K "_law_name" "_law_name" (topS 30) f fd) (T : Txt K mg ca cb) : FnOk P w K mg base CX0 1 f fd ["_law_cell"] (sp_law_name K ca) := by
  refine F.ok sc_law_name (fun vs H0 Q E h => ?_) (fun cdv A outer s H0 vs Q E hr h => ?_)
  · obtain ⟨Z0, a_law_cell, rfl, _⟩ := h
    rfl
  · obtain ⟨Z0, a_law_cell, rfl, zh, hm⟩ := h
    have nd := sc_law_name.nd
    have hm_ := hm.opn; clear hm; obtain ⟨W, WE, hm, hW, hWE⟩ := hm_
    have hS := Sep.start (K := K) zh
    unfold m_law_name at hm
    refine ⟨_, (pss_cons (ps_set (i := 1) nd rfl (Or.inr rfl) (pcK pe_str)) (pss_one (ps_ret (pe_bmK (K := K) rfl PySem.F.plainAttrs_str PySem.F.slot_str_join PySem.F.type_str_join (mt_joinK (K := K) rfl) (pcK pe_str) (pa_cons (pe_lcQ (own := [("_law_k", 2)]) (g := (gName 2)) rfl nd (pi_range1 rfl T.b_range (pa_cons (pe_op op_add (pcK pe_int) (pe_op op_mod (pv 0) (pcK pe_int))) pnK)) (blkOk_by (N := ["_law_cell", "_law_letters", "_law_k"]) (sc := defScope (topS 30)) (own := [("_law_k", 2)]) (by decide +kernel)) (by intro _ _ _ _ _; exact pg_name (i := 2) nd rfl (Or.inl rfl)) (by intro _ _ _ _ _; exact pts_nil) (by intro _ _ _ _ _; exact (pe_ix ix_str (pv 1) (pe_op op_mod (pe_op op_add (pe_op op_fdivC (pv 0) (pe_op op_add (pv 2) (pcK pe_int))) (pe_op op_mulC (pv 2) (pv 2))) (pcK pe_int)) (fun _ _ => rfl)))) pnK))))), ?_⟩
    refine ⟨trivial, (storeS fun letters_1 en2 => ?_)⟩
    have hm := Good.vl en2 hm
    obtain ⟨g3, hm⟩ := Good.chk hm
    obtain ⟨g10, hm⟩ := Good.chk hm
    obtain ⟨g7, hm⟩ := Good.chk hm
    obtain ⟨g8, hm⟩ := Good.chk hm
    obtain ⟨g9, hm⟩ := Good.chk hm
    refine ⟨trivial, ⟨rfl, ⟨trivial, ⟨_, rfl, ⟨trivial, ⟨_, _, rfl, rfl, (show (0 : Int) < (8 : Int) from (by decide)), ⟨_, _, rfl, rfl, ⟨trivial, ⟨_, rfl, And.left g3, And.right g3, (lcKQ (K := K) (src_range _ _) hS.zh (fun (k_4 : Int) => (chS letters_1 (((a_law_cell / (k_4 + (1 : Int))) + (k_4 * k_4)) % (26 : Int)))) (fun _ => true) g10 (fun k_4 x12 Z13 H14 H15 C16 N17 mem18 st19 y20 kC21 kN22 => ?_) (New.all (New.tel fun v28 Z25 H26 st27 hv28 => ?_)))⟩⟩⟩⟩⟩⟩⟩⟩⟩
    · skip
      have hS := hS.step st19
      have sx_ := Step.refl hS.zh
      have g7 := g7 k_4 mem18
      have g8 := g8 k_4 mem18
      have g9 := g9 k_4 mem18
      obtain ⟨rfl, rfl⟩ := y20
      refine (tgt1 ?_)
      refine ⟨rfl, (yesK ⟨_, rfl, ⟨_, rfl, ⟨_, rfl, ⟨trivial, ⟨_, _, rfl, rfl, ⟨_, _, rfl, rfl, g7, ⟨_, rfl, ⟨_, rfl, ⟨_, _, rfl, rfl, g8, ⟨_, _, rfl, rfl, ⟨trivial, ⟨_, _, rfl, rfl, (show (0 : Int) < (26 : Int) from (by decide)), (k_ixS g9.1 g9.2 (kC21 _ _ _ sx_ rfl rfl))⟩⟩⟩⟩⟩⟩⟩⟩⟩⟩⟩⟩)⟩
    have hS := (hS.step st27).tel (a := ((rangeL 0 (((1 : Int) + (a_law_cell % (8 : Int)))).toNat).map (fun (k_4 : Int) => (chS letters_1 (((a_law_cell / (k_4 + (1 : Int))) + (k_4 * k_4)) % (26 : Int)))))) hv28
    obtain ⟨g11, hm⟩ := Good.chk hm
    refine ⟨trivial, (k_join hS.zh (hS.fact 0 rfl) g11 ?_)⟩
    exact hW _ hm _ _ hS.st
theorem ok_law_name {f : Addr} {fd : FuncData} (F : Fun K "_law_name" "_law_name" (topS 30) f fd) (gm : mg "_law_name" = some (.ref f)) (T : Txt K mg ca cb) : Cal P w K mg base CX0 "_law_name" 1 ["_law_cell"] (sp_law_name K ca) :=
  ⟨⟨f, fd, okf_law_name F T, gm, F.kp, F.binds (ps := ["_law_cell"]) fun _ _ _ _ _ _ us hl => match us, hl with | [_], _ => rfl⟩⟩
theorem sc_law_other : FnScope ["_law_name_here", "_law_cell", "_law_letters", "_law_at", "_law_letter"] ["_law_name_here", "_law_cell"] (defScope (topS 31)) := ⟨rfl, rfl, rfl, by decide +kernel, rfl, by decide +kernel, by decide +kernel⟩
theorem okf_law_other {f : Addr} {fd : FuncData} (F : Fun K "_law_other" "_law_other" (topS 31) f fd) (T : Txt K mg ca cb) : FnOk P w K mg base CX0 1 f fd ["_law_name_here", "_law_cell"] (sp_law_other K ca) := by
  refine F.ok sc_law_other (fun vs H0 Q E h => ?_) (fun cdv A outer s H0 vs Q E hr h => ?_)
  · obtain ⟨Z0, a_law_name_here, a_law_cell, rfl, _⟩ := h
    rfl
  · obtain ⟨Z0, a_law_name_here, a_law_cell, rfl, zh, hm⟩ := h
    have nd := sc_law_other.nd
    have hm_ := hm.opn; clear hm; obtain ⟨W, WE, hm, hW, hWE⟩ := hm_
    have hS := Sep.start (K := K) zh
    unfold m_law_other at hm
    refine ⟨_, (pss_cons (ps_set (i := 2) nd rfl (Or.inl rfl) (pcK pe_str)) (pss_cons (ps_set (i := 3) nd rfl (Or.inl rfl) (pe_op op_mod (pv 1) (pe_callB call_len_str (by rfl) T.b_len PySem.boot_len (pa_cons (pv 0) pnK)))) (pss_cons (ps_set (i := 4) nd rfl (Or.inl rfl) (pe_ix ix_str (pv 2) (pe_op op_mod (pe_op op_add (pe_op op_add (pe_bmK (K := K) rfl PySem.F.plainAttrs_str PySem.F.slot_str_find PySem.F.type_str_find mt_find (pv 2) (pa_cons (pe_ix ix_str (pv 0) (pv 3) (fun _ _ => rfl)) pnK)) (pcK pe_int)) (pe_op op_mod (pe_op op_fdiv (pv 1) (pcK pe_int)) (pcK pe_int))) (pcK pe_int)) (fun _ _ => rfl))) (pss_one (ps_ret (pe_op op_add_str (pe_op op_add_str (pe_slice sl_str (pv 0) po_noK (po_some (pv 3))) (pv 4)) (pe_slice sl_str (pv 0) (po_some (pe_op op_add (pv 3) (pcK pe_int))) po_noK))))))), ?_⟩
    refine ⟨trivial, (storeS fun letters_1 en2 => ?_)⟩
    have hm := Good.vl en2 hm
    obtain ⟨g3, hm⟩ := Good.chk hm
    obtain ⟨g4, hm⟩ := Good.chk hm
    refine ⟨_, rfl, ⟨_, rfl, ⟨trivial, ⟨_, rfl, g3, ⟨_, _, rfl, rfl, (show (0 : Int) < ((a_law_name_here).length : Int) from g4), (storeI fun at_5 en6 => ?_)⟩⟩⟩⟩⟩
    have hm := Good.vl en6 hm
    obtain ⟨g7, hm⟩ := Good.chk hm
    obtain ⟨g8, hm⟩ := Good.chk hm
    refine ⟨_, rfl, ⟨_, rfl, ⟨rfl, ⟨_, rfl, ⟨_, rfl, (k_ixS g7.1 g7.2 ⟨trivial, ⟨_, _, rfl, rfl, ⟨trivial, ⟨_, _, rfl, rfl, ⟨_, rfl, ⟨trivial, ⟨_, _, rfl, rfl, ⟨by decide, by decide⟩, ⟨trivial, ⟨_, _, rfl, rfl, (show (0 : Int) < (25 : Int) from (by decide)), ⟨_, _, rfl, rfl, ⟨trivial, ⟨_, _, rfl, rfl, (show (0 : Int) < (26 : Int) from (by decide)), (k_ixS g8.1 g8.2 (storeS fun letter_9 en10 => ?_))⟩⟩⟩⟩⟩⟩⟩⟩⟩⟩⟩⟩)⟩⟩⟩⟩⟩
    have hm := Good.vl en10 hm
    obtain ⟨g11, hm⟩ := Good.chk hm
    obtain ⟨g12, hm⟩ := Good.chk hm
    obtain ⟨g13, hm⟩ := Good.chk hm
    obtain ⟨g14, hm⟩ := Good.chk hm
    refine ⟨_, rfl, ⟨trivial, ⟨_, rfl, ⟨_, rfl, ⟨_, rfl, g11, ⟨_, rfl, ⟨_, _, rfl, rfl, g12, ⟨_, rfl, ⟨_, rfl, ⟨trivial, ⟨_, _, rfl, rfl, ⟨_, rfl, ⟨trivial, ⟨_, rfl, g13, ⟨_, _, rfl, rfl, g14, ?_⟩⟩⟩⟩⟩⟩⟩⟩⟩⟩⟩⟩⟩⟩⟩
    exact hW _ hm _ _ hS.st
theorem ok_law_other {f : Addr} {fd : FuncData} (F : Fun K "_law_other" "_law_other" (topS 31) f fd) (gm : mg "_law_other" = some (.ref f)) (T : Txt K mg ca cb) : Cal P w K mg base CX0 "_law_other" 1 ["_law_name_here", "_law_cell"] (sp_law_other K ca) :=
  ⟨⟨f, fd, okf_law_other F T, gm, F.kp, F.binds (ps := ["_law_name_here", "_law_cell"]) fun _ _ _ _ _ _ us hl => match us, hl with | [_, _], _ => rfl⟩⟩
theorem sc_law_span : FnScope ["_law_number", "_law_high", "_law_wide", "_law_first"] ["_law_number", "_law_high", "_law_wide"] (defScope (topS 32)) := ⟨rfl, rfl, rfl, by decide +kernel, rfl, by decide +kernel, by decide +kernel⟩
theorem okf_law_span {f : Addr} {fd : FuncData} (F : Fun K "_law_span" "_law_span" (topS 32) f fd) (T : Txt K mg ca cb) : FnOk P w K mg base CX0 1 f fd ["_law_number", "_law_high", "_law_wide"] (sp_law_span K ca) := by
  refine F.ok sc_law_span (fun vs H0 Q E h => ?_) (fun cdv A outer s H0 vs Q E hr h => ?_)
  · obtain ⟨Z0, a_law_number, a_law_high, a_law_wide, rfl, _⟩ := h
    rfl
  · obtain ⟨Z0, a_law_number, a_law_high, a_law_wide, rfl, zh, hm⟩ := h
    have nd := sc_law_span.nd
    have hm_ := hm.opn; clear hm; obtain ⟨W, WE, hm, hW, hWE⟩ := hm_
    have hS := Sep.start (K := K) zh
    unfold m_law_span at hm
    refine ⟨_, (pss_cons (ps_set (i := 3) nd rfl (Or.inl rfl) (pe_op op_add (pcK pe_int) (pe_op op_mod (pv 0) (pv 1)))) (pss_one (ps_ret (pe_tupQ (pa_cons (pv 3) (pa_cons (pe_callB (call_min2 rfl) (by rfl) T.b_min (by decide +kernel) (pa_cons (pv 1) (pa_cons (pe_op op_add (pv 3) (pe_op op_mod (pe_op op_fdiv (pv 0) (pcK pe_int)) (pv 2))) pnK))) pnK)))))), ?_⟩
    obtain ⟨g1, hm⟩ := Good.chk hm
    refine ⟨trivial, ⟨_, rfl, ⟨_, rfl, ⟨_, _, rfl, rfl, (show (0 : Int) < a_law_high from g1), ⟨_, _, rfl, rfl, (storeI fun first_2 en3 => ?_)⟩⟩⟩⟩⟩
    have hm := Good.vl en3 hm
    obtain ⟨g4, hm⟩ := Good.chk hm
    refine ⟨_, rfl, ⟨_, rfl, ⟨_, rfl, ⟨_, rfl, ⟨trivial, ⟨_, _, rfl, rfl, ⟨by decide, by decide⟩, ⟨_, rfl, ⟨_, _, rfl, rfl, (show (0 : Int) < a_law_wide from g4), ⟨_, _, rfl, rfl, ⟨trivial, ⟨_, _, rfl, ⟨trivial, (k_tup (K := K) (a := first_2) (b := (min2 a_law_high (first_2 + ((a_law_number / (24 : Int)) % a_law_wide)))) hS.zh rfl rfl (fun v8 Z5 H6 st7 hv8 => ?_))⟩⟩⟩⟩⟩⟩⟩⟩⟩⟩⟩⟩
    have hS := (hS.step st7).tel (a := (first_2, (min2 a_law_high (first_2 + ((a_law_number / (24 : Int)) % a_law_wide))))) hv8
    exact hW _ hm _ _ _ hS.st (hS.fact 0 rfl)
theorem ok_law_span {f : Addr} {fd : FuncData} (F : Fun K "_law_span" "_law_span" (topS 32) f fd) (gm : mg "_law_span" = some (.ref f)) (T : Txt K mg ca cb) : Cal P w K mg base CX0 "_law_span" 1 ["_law_number", "_law_high", "_law_wide"] (sp_law_span K ca) :=
  ⟨⟨f, fd, okf_law_span F T, gm, F.kp, F.binds (ps := ["_law_number", "_law_high", "_law_wide"]) fun _ _ _ _ _ _ us hl => match us, hl with | [_, _, _], _ => rfl⟩⟩
theorem sc_law_middle : FnScope ["_law_name_here", "_law_cell", "_law_field", "_law_wide", "_law_first"] ["_law_name_here", "_law_cell"] (defScope (topS 33)) := ⟨rfl, rfl, rfl, by decide +kernel, rfl, by decide +kernel, by decide +kernel⟩
theorem okf_law_middle {f : Addr} {fd : FuncData} (F : Fun K "_law_middle" "_law_middle" (topS 33) f fd) (T : Txt K mg ca cb) (C_law_other : Cal P w K mg base CX0 "_law_other" 1 ["_law_name_here", "_law_cell"] (sp_law_other K ca)) (C_law_span : Cal P w K mg base CX0 "_law_span" 1 ["_law_number", "_law_high", "_law_wide"] (sp_law_span K ca)) : FnOk P w K mg base CX0 2 f fd ["_law_name_here", "_law_cell"] (sp_law_middle K ca) := by
  refine F.ok sc_law_middle (fun vs H0 Q E h => ?_) (fun cdv A outer s H0 vs Q E hr h => ?_)
  · obtain ⟨Z0, a_law_name_here, a_law_cell, rfl, _⟩ := h
    rfl
  · obtain ⟨Z0, a_law_name_here, a_law_cell, rfl, zh, hm⟩ := h
    have nd := sc_law_middle.nd
    have hm_ := hm.opn; clear hm; obtain ⟨W, WE, hm, hW, hWE⟩ := hm_
    have hS := Sep.start (K := K) zh
    unfold m_law_middle at hm
    refine ⟨_, (pss_cons (ps_set (i := 2) nd rfl (Or.inl rfl) (pe_cal C_law_span (hr.mono (by decide)) pass0 (pa_cons (pe_op op_fdiv (pv 1) (pcK pe_int)) (pa_cons (pcK pe_int) (pa_cons (pcK pe_int) pnK))))) (pss_cons (ps_set (i := 3) nd rfl (Or.inl rfl) (pe_op op_sub (pe_ix (ix_tupK (K := K) rfl) (pv 2) (pcK pe_int) (fun _ _ => rfl)) (pe_ix (ix_tupK (K := K) rfl) (pv 2) (pcK pe_int) (fun _ _ => rfl)))) (pss_cons (ps_set (i := 4) nd rfl (Or.inl rfl) (pe_op op_add (pcK pe_int) (pe_op op_mod (pe_op op_fdiv (pv 1) (pcK pe_int)) (pe_op op_sub (pcK pe_int) (pv 3))))) (pss_cons (ps_if (pt_cmpR op_eq (pe_op op_mod (pv 1) (pcK pe_int)) (pcK pe_int) (nomark _)) (pss_one (ps_ret (pe_tupQ (pa_cons (pcK pe_str) (pa_cons (pv 2) pnK))))) pss_nil) (pss_cons (ps_if (pt_cmpR op_gt (pe_op op_mod (pv 1) (pcK pe_int)) (pcK pe_int) (nomark _)) (pss_one (ps_ret (pe_tupQ (pa_cons (pe_ix (ix_listK (K := K) rfl) (pe_lstQ (pa_cons (pcK pe_str) (pa_cons (pcK pe_str) pnK))) (pe_op op_mod (pv 1) (pcK pe_int)) (fun _ _ => rfl)) (pa_cons (pe_cal C_law_other (hr.mono (by decide)) pass0 (pa_cons (pv 0) (pa_cons (pe_op op_fdiv (pv 1) (pcK pe_int)) pnK))) (pa_cons (pv 2) (pa_cons (pe_tupQ (pa_cons (pv 4) (pa_cons (pe_op op_add (pv 4) (pv 3)) pnK))) pnK))))))) pss_nil) (pss_one (ps_ret (pcK pe_non)))))))), ?_⟩
    refine ⟨_, rfl, ⟨trivial, ⟨_, _, rfl, rfl, ⟨by decide, by decide⟩, ⟨trivial, ⟨trivial, ⟨trivial, ⟨_, _, _, _, rfl, hS.zh, (Good.bnd hm).imp (fun r1 hm => fun v5 Z2 H3 st4 hv5 => ?_) hWE⟩⟩⟩⟩⟩⟩⟩
    have hS := (hS.step st4).tel (a := r1) hv5
    refine (tgt1 ?_)
    refine ⟨_, rfl, ⟨trivial, (k_sndS hS.zh (hS.fact 0 rfl) ⟨_, rfl, ⟨trivial, (k_fstS hS.zh (hS.fact 0 rfl) ⟨_, _, rfl, rfl, (storeI fun wide_6 en7 => ?_)⟩)⟩⟩)⟩⟩
    have hm := Good.vl en7 hm
    obtain ⟨g8, hm⟩ := Good.chk hm
    refine ⟨trivial, ⟨_, rfl, ⟨trivial, ⟨_, _, rfl, rfl, ⟨by decide, by decide⟩, ⟨trivial, ⟨_, rfl, ⟨_, _, rfl, rfl, ⟨_, _, rfl, rfl, (show (0 : Int) < ((36 : Int) - wide_6) from g8), ⟨_, _, rfl, rfl, (storeI fun first_9 en10 => ?_)⟩⟩⟩⟩⟩⟩⟩⟩⟩
    have hm := Good.vl en10 hm
    refine ⟨_, rfl, ⟨trivial, ⟨_, _, rfl, rfl, (show (0 : Int) < (4 : Int) from (by decide)), ⟨trivial, (k_eqI ⟨_, rfl, (ite2 (fun e11 => ?_) (fun e12 => ?_))⟩)⟩⟩⟩⟩
    · skip
      have hm := Good.ifT e11 hm
      refine ⟨trivial, ⟨_, rfl, ⟨trivial, (k_tup (K := K) (a := ("first" : Str)) (b := r1) hS.zh rfl (hS.fact 0 rfl) (fun v16 Z13 H14 st15 hv16 => ?_))⟩⟩⟩
      have hS := (hS.step st15).tel (a := (("first" : Str), r1)) hv16
      exact hW _ hm _ _ _ hS.st (ToD.tr (α := (Str × (Int × Int))) (a := (("first" : Str), r1)) (hS.fact 0 rfl))
    · skip
      have hm := Good.ifF e12 hm
      refine ⟨_, rfl, ⟨trivial, ⟨_, _, rfl, rfl, (show (0 : Int) < (4 : Int) from (by decide)), ⟨trivial, ⟨_, _, rfl, rfl, ⟨_, rfl, (ite2 (fun e17 => ?_) (fun e18 => ?_))⟩⟩⟩⟩⟩⟩
      · skip
        have hm := Good.ifT e17 hm
        refine ⟨trivial, ⟨trivial, ⟨trivial, (k_lst (K := K) (m := [("mates" : Str), ("without" : Str)]) hS.zh (.cons rfl (.cons rfl .nil)) (Nat.le_of_ble_eq_true rfl) (New.tel fun v24 Z21 H22 st23 hv24 => ?_))⟩⟩⟩
        have hS := (hS.step st23).tel (a := [("mates" : Str), ("without" : Str)]) hv24
        obtain ⟨g19, hm⟩ := Good.chk hm
        refine ⟨_, rfl, ⟨trivial, ⟨_, _, rfl, rfl, (show (0 : Int) < (2 : Int) from (by decide)), (k_ixLs hS.zh (hS.fact 0 rfl) g19 ⟨_, rfl, ⟨_, rfl, ⟨trivial, ⟨_, _, rfl, rfl, ⟨by decide, by decide⟩, ⟨trivial, ⟨_, _, _, rfl, hS.zh, (Good.bnd hm).imp (fun r20 hm => fun Z25 H26 st27 => ?_) hWE⟩⟩⟩⟩⟩⟩)⟩⟩⟩
        have hS := hS.step st27
        refine ⟨_, rfl, ⟨_, rfl, ⟨_, rfl, ⟨_, rfl, ⟨_, _, rfl, rfl, ⟨trivial, (k_tup (K := K) (a := first_9) (b := (first_9 + wide_6)) hS.zh rfl rfl (fun v31 Z28 H29 st30 hv31 => ?_))⟩⟩⟩⟩⟩⟩
        have hS := (hS.step st30).tel (a := (first_9, (first_9 + wide_6))) hv31
        refine ⟨trivial, (k_tup4 (K := K) (a := (getI [("mates" : Str), ("without" : Str)] (a_law_cell % (2 : Int)))) (b := r20) (c := r1) (d := (first_9, (first_9 + wide_6))) hS.zh rfl rfl (hS.fact 2 rfl) (hS.fact 0 rfl) (fun v35 Z32 H33 st34 hv35 => ?_))⟩
        have hS := (hS.step st34).tel (a := (⟨(getI [("mates" : Str), ("without" : Str)] (a_law_cell % (2 : Int))), r20, r1, (first_9, (first_9 + wide_6))⟩ : (T4 Str Str (Int × Int) (Int × Int)))) hv35
        exact hW _ hm _ _ _ hS.st (ToD.tr (α := (T4 Str Str (Int × Int) (Int × Int))) (a := (⟨(getI [("mates" : Str), ("without" : Str)] (a_law_cell % (2 : Int))), r20, r1, (first_9, (first_9 + wide_6))⟩ : (T4 Str Str (Int × Int) (Int × Int)))) (hS.fact 0 rfl))
      · skip
        have hm := Good.ifF e18 hm
        refine ⟨trivial, ?_⟩
        exact hW _ hm _ _ _ hS.st (ToD.tr (α := Unit) (a := ()) rfl)
theorem ok_law_middle {f : Addr} {fd : FuncData} (F : Fun K "_law_middle" "_law_middle" (topS 33) f fd) (gm : mg "_law_middle" = some (.ref f)) (T : Txt K mg ca cb) (C_law_other : Cal P w K mg base CX0 "_law_other" 1 ["_law_name_here", "_law_cell"] (sp_law_other K ca)) (C_law_span : Cal P w K mg base CX0 "_law_span" 1 ["_law_number", "_law_high", "_law_wide"] (sp_law_span K ca)) : Cal P w K mg base CX0 "_law_middle" 2 ["_law_name_here", "_law_cell"] (sp_law_middle K ca) :=
  ⟨⟨f, fd, okf_law_middle F T C_law_other C_law_span, gm, F.kp, F.binds (ps := ["_law_name_here", "_law_cell"]) fun _ _ _ _ _ _ us hl => match us, hl with | [_, _], _ => rfl⟩⟩
theorem sc_law_work : FnScope ["_law_number", "_law_k", "_law_to", "_law_one", "_law_other_here", "_law_at"] ["_law_number", "_law_k"] (defScope (topS 34)) := ⟨rfl, rfl, rfl, by decide +kernel, rfl, by decide +kernel, by decide +kernel⟩
theorem okf_law_work {f : Addr} {fd : FuncData} (F : Fun K "_law_work" "_law_work" (topS 34) f fd) (T : Txt K mg ca cb) (C_law_span : Cal P w K mg base CX0 "_law_span" 1 ["_law_number", "_law_high", "_law_wide"] (sp_law_span K ca)) : FnOk P w K mg base CX0 2 f fd ["_law_number", "_law_k"] (sp_law_work K ca) := by
  refine F.ok sc_law_work (fun vs H0 Q E h => ?_) (fun cdv A outer s H0 vs Q E hr h => ?_)
  · obtain ⟨Z0, a_law_number, a_law_k, rfl, _⟩ := h
    rfl
  · obtain ⟨Z0, a_law_number, a_law_k, rfl, zh, hm⟩ := h
    have nd := sc_law_work.nd
    have hm_ := hm.opn; clear hm; obtain ⟨W, WE, hm, hW, hWE⟩ := hm_
    have hS := Sep.start (K := K) zh
    unfold m_law_work at hm
    refine ⟨_, (pss_cons (ps_set (i := 2) nd rfl (Or.inl rfl) (pe_tupQ (pa_cons (pe_op op_add (pcK pe_int) (pe_op op_mulC (pcK pe_int) (pv 1))) (pa_cons (pe_op op_add (pe_op op_add (pcK pe_int) (pe_op op_mulC (pcK pe_int) (pv 1))) (pe_op op_mod (pv 0) (pcK pe_int))) pnK)))) (pss_cons (ps_set (i := 3) nd rfl (Or.inl rfl) (pe_cal C_law_span (hr.mono (by decide)) pass0 (pa_cons (pe_op op_fdiv (pv 0) (pcK pe_int)) (pa_cons (pcK pe_int) (pa_cons (pcK pe_int) pnK))))) (pss_cons (ps_set (i := 4) nd rfl (Or.inl rfl) (pe_cal C_law_span (hr.mono (by decide)) pass0 (pa_cons (pe_op op_fdiv (pv 0) (pcK pe_int)) (pa_cons (pcK pe_int) (pa_cons (pcK pe_int) pnK))))) (Evl.pss_cut (ps_if (ptK (PW.pt (pw_and (pt_cmpR op_gt (pv 1) (pcK pe_int) (nomark _)) (pw_and1 (pt_cmpR op_eq (pe_op op_mod (pe_op op_fdiv (pv 0) (pcK pe_int)) (pcK pe_int)) (pcK pe_int) (nomark _)))))) (pss_cons (ps_set (i := 5) nd rfl (Or.inl rfl) (pe_op op_add (pcK pe_int) (pe_op op_mulC (pcK pe_int) (pe_op op_mod (pe_op op_fdiv (pv 0) (pcK pe_int)) (pv 1))))) (pss_one (ps_set (i := 3) nd rfl (Or.inl rfl) (pe_tupQ (pa_cons (pv 5) (pa_cons (pe_op op_add (pv 5) (pe_op op_mod (pe_op op_fdiv (pv 0) (pcK pe_int)) (pcK pe_int))) pnK)))))) pss_nil) (pss_one (ps_ret (pe_tupQ (pa_cons (pv 2) (pa_cons (pv 3) (pa_cons (pe_ix (ix_listK (K := K) rfl) (pe_lstQ (pa_cons (pcK pe_str) (pa_cons (pcK pe_str) (pa_cons (pcK pe_str) pnK)))) (pe_op op_mod (pe_op op_fdiv (pv 0) (pcK pe_int)) (pcK pe_int)) (fun _ _ => rfl)) (pa_cons (pv 4) pnK))))))))))), ?_⟩
    refine ⟨trivial, ⟨trivial, ⟨_, rfl, ⟨_, _, rfl, rfl, (mulL ⟨by decide, by decide⟩), ⟨_, _, rfl, rfl, ⟨trivial, ⟨trivial, ⟨_, rfl, ⟨_, _, rfl, rfl, (mulL ⟨by decide, by decide⟩), ⟨_, _, rfl, rfl, ⟨_, rfl, ⟨trivial, ⟨_, _, rfl, rfl, (show (0 : Int) < (3 : Int) from (by decide)), ⟨_, _, rfl, rfl, ⟨trivial, (k_tup (K := K) (a := ((25 : Int) + ((3 : Int) * a_law_k))) (b := (((25 : Int) + ((3 : Int) * a_law_k)) + (a_law_number % (3 : Int)))) hS.zh rfl rfl (Tel.gen fun to_1 en2 => fun v6 Z3 H4 st5 hv6 => ?_))⟩⟩⟩⟩⟩⟩⟩⟩⟩⟩⟩⟩⟩⟩⟩
    have hS := (hS.step st5).tel (a := to_1) hv6
    refine (tgt1 ?_)
    have hm := Good.vl en2 hm
    refine ⟨_, rfl, ⟨trivial, ⟨_, _, rfl, rfl, ⟨by decide, by decide⟩, ⟨trivial, ⟨trivial, ⟨trivial, ⟨_, _, _, _, rfl, hS.zh, (Good.bnd hm).imp (fun r7 hm => fun v11 Z8 H9 st10 hv11 => ?_) hWE⟩⟩⟩⟩⟩⟩⟩
    have hS := (hS.step st10).tel (a := r7) hv11
    refine (tgt1 ?_)
    refine ⟨_, rfl, ⟨trivial, ⟨_, _, rfl, rfl, ⟨by decide, by decide⟩, ⟨trivial, ⟨trivial, ⟨trivial, ⟨_, _, _, _, rfl, hS.zh, (Good.bnd hm).imp (fun r12 hm => fun v16 Z13 H14 st15 hv16 => ?_) hWE⟩⟩⟩⟩⟩⟩⟩
    have hS := (hS.step st15).tel (a := r12) hv16
    refine (tgt1 ?_)
    refine ⟨fun σj Hj => ∃ Zr_ : Hp, ∃ (one_17 : (Int × Int)) (v18 : V) (w_law_at : Option V), σj = [some (.int a_law_number), some (.int a_law_k), some v6, some v18, some v16, w_law_at] ∧ Sep K Z0 H0 Zr_ Hj [⟨(Sh.told (α := (Int × Int))), v18, one_17⟩, ⟨(Sh.told (α := (Int × Int))), v6, to_1⟩, ⟨(Sh.told (α := (Int × Int))), v16, r12⟩] ∧ (Good (m_law_work_j0 a_law_number to_1 r12 one_17) W WE), ?_, fun σj Hj hj => ?_⟩
    · skip
      obtain ⟨W19, hm, hWW19⟩ := Good.bndW hm
      refine ⟨trivial, (ansAnd (fun _ q => ⟨_, rfl, ⟨trivial, ⟨_, _, rfl, rfl, ⟨_, rfl, q⟩⟩⟩⟩) (fun b22 _ q => ⟨_, rfl, ⟨trivial, ⟨_, _, rfl, rfl, ⟨by decide, by decide⟩, ⟨trivial, ⟨_, _, rfl, rfl, (show (0 : Int) < (3 : Int) from (by decide)), ⟨trivial, (k_eqI ⟨_, rfl, q⟩)⟩⟩⟩⟩⟩⟩) (ite2 (fun e20 => ?_) (fun e21 => ?_)))⟩
      · skip
        have hm := Good.ifT e20 hm
        obtain ⟨g23, hm⟩ := Good.chk hm
        refine ⟨trivial, ⟨trivial, ⟨_, rfl, ⟨trivial, ⟨_, _, rfl, rfl, ⟨by decide, by decide⟩, ⟨_, rfl, ⟨_, _, rfl, rfl, (show (0 : Int) < a_law_k from g23), ⟨_, _, rfl, rfl, (mulL ⟨by decide, by decide⟩), ⟨_, _, rfl, rfl, (storeI fun at_24 en25 => ?_)⟩⟩⟩⟩⟩⟩⟩⟩⟩
        have hm := Good.vl en25 hm
        refine ⟨_, rfl, ⟨_, rfl, ⟨_, rfl, ⟨trivial, ⟨_, _, rfl, rfl, ⟨by decide, by decide⟩, ⟨trivial, ⟨_, _, rfl, rfl, (show (0 : Int) < (3 : Int) from (by decide)), ⟨_, _, rfl, rfl, ⟨trivial, (k_tup (K := K) (a := at_24) (b := (at_24 + ((a_law_number / (11 : Int)) % (3 : Int)))) hS.zh rfl rfl (Tel.gen fun one_26 en27 => fun v31 Z28 H29 st30 hv31 => ?_))⟩⟩⟩⟩⟩⟩⟩⟩⟩
        have hS := (hS.step st30).tel (a := one_26) hv31
        refine (tgt1 ?_)
        have hm := Good.vl en27 hm
        have hm := hWW19 _ hm
        exact ⟨_, one_26, (v31), (some (.int at_24)), rfl, hS.pick [0, 3, 1] (by decide) rfl, hm⟩
      · skip
        have hm := Good.ifF e21 hm
        have hm := hWW19 _ hm
        exact ⟨_, r7, (v11), (none), rfl, hS.pick [1, 2, 0] (by decide) rfl, hm⟩
    · skip
      obtain ⟨Zj_, one_17, v18, w_law_at, rfl, hS, hm⟩ := hj
      unfold m_law_work_j0 at hm
      refine ⟨_, rfl, ⟨_, rfl, ⟨trivial, ⟨trivial, ⟨trivial, ⟨trivial, (k_lst (K := K) (m := [("plus" : Str), ("less" : Str), ("times" : Str)]) hS.zh (.cons rfl (.cons rfl (.cons rfl .nil))) (Nat.le_of_ble_eq_true rfl) (New.tel fun v36 Z33 H34 st35 hv36 => ?_))⟩⟩⟩⟩⟩⟩
      have hS := (hS.step st35).tel (a := [("plus" : Str), ("less" : Str), ("times" : Str)]) hv36
      obtain ⟨g32, hm⟩ := Good.chk hm
      refine ⟨_, rfl, ⟨trivial, ⟨_, _, rfl, rfl, ⟨by decide, by decide⟩, ⟨trivial, ⟨_, _, rfl, rfl, (show (0 : Int) < (3 : Int) from (by decide)), (k_ixLs hS.zh (hS.fact 0 rfl) g32 ⟨_, rfl, ⟨trivial, (k_tup4 (K := K) (a := to_1) (b := one_17) (c := (getI [("plus" : Str), ("less" : Str), ("times" : Str)] ((a_law_number / (4 : Int)) % (3 : Int)))) (d := r12) hS.zh (hS.fact 2 rfl) (hS.fact 1 rfl) rfl (hS.fact 3 rfl) (fun v40 Z37 H38 st39 hv40 => ?_))⟩⟩)⟩⟩⟩⟩⟩
      have hS := (hS.step st39).tel (a := (⟨to_1, one_17, (getI [("plus" : Str), ("less" : Str), ("times" : Str)] ((a_law_number / (4 : Int)) % (3 : Int))), r12⟩ : (T4 (Int × Int) (Int × Int) Str (Int × Int)))) hv40
      exact hW _ hm _ _ _ hS.st (hS.fact 0 rfl)
theorem ok_law_work {f : Addr} {fd : FuncData} (F : Fun K "_law_work" "_law_work" (topS 34) f fd) (gm : mg "_law_work" = some (.ref f)) (T : Txt K mg ca cb) (C_law_span : Cal P w K mg base CX0 "_law_span" 1 ["_law_number", "_law_high", "_law_wide"] (sp_law_span K ca)) : Cal P w K mg base CX0 "_law_work" 2 ["_law_number", "_law_k"] (sp_law_work K ca) :=
  ⟨⟨f, fd, okf_law_work F T C_law_span, gm, F.kp, F.binds (ps := ["_law_number", "_law_k"]) fun _ _ _ _ _ _ us hl => match us, hl with | [_, _], _ => rfl⟩⟩
theorem sc_law_drawn : FnScope ["_law_script", "_law_signs", "_law_seed", "_law_some", "_law_cell", "_law_kind", "_law_number", "_law_field", "_law_text", "_law_at", "_law_wire"] ["_law_script"] (defScope (topS 35)) := ⟨rfl, rfl, rfl, by decide +kernel, rfl, by decide +kernel, by decide +kernel⟩
theorem okf_law_drawn {f : Addr} {fd : FuncData} (F : Fun K "_law_drawn" "_law_drawn" (topS 35) f fd) (T : Txt K mg ca cb) (C_law_cell_at : Cal P w K mg base CX0 "_law_cell_at" 1 ["_law_script", "_law_k"] (sp_law_cell_at K ca)) (C_law_span : Cal P w K mg base CX0 "_law_span" 1 ["_law_number", "_law_high", "_law_wide"] (sp_law_span K ca)) (C_law_work : Cal P w K mg base CX0 "_law_work" 2 ["_law_number", "_law_k"] (sp_law_work K ca)) : FnOk P w K mg base CX0 3 f fd ["_law_script"] (sp_law_drawn K ca) := by
  refine F.ok sc_law_drawn (fun vs H0 Q E h => ?_) (fun cdv A outer s H0 vs Q E hr h => ?_)
  · obtain ⟨Z0, a_law_script, v_law_script, rfl, _⟩ := h
    rfl
  · obtain ⟨Z0, a_law_script, v_law_script, rfl, zh, h_law_script, hm⟩ := h
    have nd := sc_law_drawn.nd
    have hm_ := hm.opn; clear hm; obtain ⟨W, WE, hm, hW, hWE⟩ := hm_
    have hS := Sep.start (K := K) zh
    have hS := hS.tel h_law_script
    unfold m_law_drawn at hm
    refine ⟨_, (pss_cons (ps_set (i := 1) nd rfl (Or.inr rfl) (pcK pe_str)) (pss_cons (ps_set (i := 2) nd rfl (Or.inr rfl) (pe_cal C_law_cell_at (hr.mono (by decide)) pass0 (pa_cons (pv 0) (pa_cons (pcK pe_int) pnK)))) (pss_cons (ps_set (i := 3) nd rfl (Or.inl rfl) (pe_lstQ (pa_cons (pe_lstQ pnK) (pa_cons (pe_lstQ pnK) (pa_cons (pe_lstQ pnK) (pa_cons (pe_lstQ pnK) (pa_cons (pe_lstQ pnK) pnK))))))) (pss_cons (ps_for PassesOwn.never rfl (pi_list (pe_slice (sl_listK (K := K) rfl) (pv 0) (po_some (pcK pe_int)) (po_some (pcK pe_int)))) (pg_name (i := 4) nd rfl (Or.inl rfl)) (pss_cons (ps_set (i := 5) nd rfl (Or.inl rfl) (pe_op op_mod (pv 4) (pcK pe_int))) (pss_cons (ps_set (i := 6) nd rfl (Or.inl rfl) (pe_op op_fdiv (pv 4) (pcK pe_int))) (pss_cons (ps_if (ptK (pt_cmpR op_ge (pe_callB (call_lenK (K := K) rfl) (by rfl) T.b_len PySem.boot_len (pa_cons (pe_ix (ix_listK (K := K) rfl) (pv 3) (pv 5) (fun _ _ => rfl)) pnK)) (pe_ix (ix_listK (K := K) rfl) (pe_lstQ (pa_cons (pcK pe_int) (pa_cons (pcK pe_int) (pa_cons (pcK pe_int) (pa_cons (pcK pe_int) (pa_cons (pcK pe_int) pnK)))))) (pv 5) (fun _ _ => rfl)) (nomark _))) (pss_one ps_continue) pss_nil) (Evl.pss_cut (ps_if (pt_cmpR op_eq (pv 5) (pcK pe_int) (nomark _)) (pss_cons (ps_set (i := 7) nd rfl (Or.inl rfl) (pe_cal C_law_span (hr.mono (by decide)) pass0 (pa_cons (pv 6) (pa_cons (pcK pe_int) (pa_cons (pcK pe_int) pnK))))) (pss_cons (ps_set (i := 8) nd rfl (Or.inl rfl) (pe_bmK (K := K) rfl PySem.F.plainAttrs_str PySem.F.slot_str_join PySem.F.type_str_join (mt_joinK (K := K) rfl) (pcK pe_str) (pa_cons (pe_lcQ (own := [("_law_at", 9)]) (g := (gName 9)) rfl nd (pi_range2 rfl T.b_range (pa_cons (pe_ix (ix_tupK (K := K) rfl) (pv 7) (pcK pe_int) (fun _ _ => rfl)) (pa_cons (pe_op op_add (pe_ix (ix_tupK (K := K) rfl) (pv 7) (pcK pe_int) (fun _ _ => rfl)) (pcK pe_int)) pnK))) (blkOk_by (N := ["_law_script", "_law_signs", "_law_seed", "_law_some", "_law_cell", "_law_kind", "_law_number", "_law_field", "_law_text", "_law_at", "_law_wire"]) (sc := defScope (topS 35)) (own := [("_law_at", 9)]) (by decide +kernel)) (by intro _ _ _ _ _; exact pg_name (i := 9) nd rfl (Or.inl rfl)) (by intro _ _ _ _ _; exact pts_nil) (by intro _ _ _ _ _; exact (pe_ix ix_str (pv 1) (pe_op op_mod (pe_op op_add (pv 2) (pe_op op_mulC (pe_op op_mulC (pv 9) (pv 9)) (pe_op op_add (pcK pe_int) (pe_op op_mod (pv 2) (pcK pe_int))))) (pcK pe_int)) (fun _ _ => rfl)))) pnK))) (pss_one (ps_expr (pe_bm PySem.F.plainAttrs_list PySem.F.slot_list_append PySem.F.type_list_append mt_append (pe_ix (ix_listK (K := K) rfl) (pv 3) (pcK pe_int) (fun _ _ => rfl)) (pa_cons (pe_tupQ (pa_cons (pv 7) (pa_cons (pv 8) pnK))) pnK)))))) pss_nil) (Evl.pss_cut (ps_if (pt_cmpR op_eq (pv 5) (pcK pe_int) (nomark _)) (pss_one (ps_expr (pe_bm PySem.F.plainAttrs_list PySem.F.slot_list_append PySem.F.type_list_append mt_append (pe_ix (ix_listK (K := K) rfl) (pv 3) (pcK pe_int) (fun _ _ => rfl)) (pa_cons (pe_cal C_law_span (hr.mono (by decide)) pass0 (pa_cons (pv 6) (pa_cons (pcK pe_int) (pa_cons (pcK pe_int) pnK)))) pnK)))) pss_nil) (Evl.pss_cut (ps_if (pt_cmpR op_eq (pv 5) (pcK pe_int) (nomark _)) (pss_one (ps_expr (pe_bm PySem.F.plainAttrs_list PySem.F.slot_list_append PySem.F.type_list_append mt_append (pe_ix (ix_listK (K := K) rfl) (pv 3) (pcK pe_int) (fun _ _ => rfl)) (pa_cons (pe_cal C_law_work (hr.mono (by decide)) pass0 (pa_cons (pv 6) (pa_cons (pe_callB (call_lenK (K := K) rfl) (by rfl) T.b_len PySem.boot_len (pa_cons (pe_ix (ix_listK (K := K) rfl) (pv 3) (pcK pe_int) (fun _ _ => rfl)) pnK)) pnK))) pnK)))) pss_nil) (Evl.pss_cut (ps_if (pt_cmpR op_eq (pv 5) (pcK pe_int) (nomark _)) (pss_one (ps_expr (pe_bm PySem.F.plainAttrs_list PySem.F.slot_list_append PySem.F.type_list_append mt_append (pe_ix (ix_listK (K := K) rfl) (pv 3) (pcK pe_int) (fun _ _ => rfl)) (pa_cons (pe_cal C_law_span (hr.mono (by decide)) pass0 (pa_cons (pv 6) (pa_cons (pcK pe_int) (pa_cons (pcK pe_int) pnK)))) pnK)))) pss_nil) (pss_one (ps_if (ptK (PW.pt (pw_and (pt_cmpR op_eq (pv 5) (pcK pe_int) (nomark _)) (pw_and1 (pt_cmpR (op_ninK (K := K) rfl) (pe_op op_add (pcK pe_int) (pe_op op_mod (pe_op op_fdiv (pv 6) (pcK pe_int)) (pcK pe_int))) (pe_lcQ (own := [("_law_wire", 10)]) (g := (gName 10)) rfl nd (pi_list (pe_ix (ix_listK (K := K) rfl) (pv 3) (pcK pe_int) (fun _ _ => rfl))) (blkOk_by (N := ["_law_script", "_law_signs", "_law_seed", "_law_some", "_law_cell", "_law_kind", "_law_number", "_law_field", "_law_text", "_law_at", "_law_wire"]) (sc := defScope (topS 35)) (own := [("_law_wire", 10)]) (by decide +kernel)) (by intro _ _ _ _ _; exact pg_name (i := 10) nd rfl (Or.inl rfl)) (by intro _ _ _ _ _; exact pts_nil) (by intro _ _ _ _ _; exact (pe_ix (ix_dyK (K := K) rfl) (pv 10) (pcK pe_int) (fun _ _ => rfl)))) (by rfl)))))) (pss_one (ps_expr (pe_bm PySem.F.plainAttrs_list PySem.F.slot_list_append PySem.F.type_list_append mt_append (pe_ix (ix_listK (K := K) rfl) (pv 3) (pcK pe_int) (fun _ _ => rfl)) (pa_cons (pe_tupQ (pa_cons (pe_op op_add (pcK pe_int) (pe_op op_mod (pv 6) (pcK pe_int))) (pa_cons (pe_op op_add (pcK pe_int) (pe_op op_mod (pe_op op_fdiv (pv 6) (pcK pe_int)) (pcK pe_int))) pnK))) pnK)))) pss_nil)))))))))) (pss_one (ps_ret (pv 3))))))), ?_⟩
    refine ⟨trivial, (storeS fun signs_1 en2 => ?_)⟩
    have hm := Good.vl en2 hm
    refine ⟨_, rfl, ⟨trivial, ⟨trivial, ⟨_, _, _, _, rfl, hS.zh, (hS.fact 0 rfl), (Good.bnd hm).imp (fun r3 hm => fun Z4 H5 st6 => ?_) hWE⟩⟩⟩⟩
    have hS := hS.step st6
    refine (tgt1 ?_)
    refine ⟨trivial, (k_lst (K := K) (m := ([] : (List PyData))) hS.zh .nil (Nat.le_of_ble_eq_true rfl) (New.ownS fun p10 ps11 Z7 H8 st9 o12 => ?_))⟩
    have hS := hS.own st9 o12
    refine ⟨trivial, (k_lst (K := K) (m := ([] : (List PyData))) hS.zh .nil (Nat.le_of_ble_eq_true rfl) (New.ownS fun p16 ps17 Z13 H14 st15 o18 => ?_))⟩
    have hS := hS.own st15 o18
    refine ⟨trivial, (k_lst (K := K) (m := ([] : (List PyData))) hS.zh .nil (Nat.le_of_ble_eq_true rfl) (New.ownS fun p22 ps23 Z19 H20 st21 o24 => ?_))⟩
    have hS := hS.own st21 o24
    refine ⟨trivial, (k_lst (K := K) (m := ([] : (List PyData))) hS.zh .nil (Nat.le_of_ble_eq_true rfl) (New.ownS fun p28 ps29 Z25 H26 st27 o30 => ?_))⟩
    have hS := hS.own st27 o30
    refine ⟨trivial, (k_lst (K := K) (m := ([] : (List PyData))) hS.zh .nil (Nat.le_of_ble_eq_true rfl) (New.ownS fun p34 ps35 Z31 H32 st33 o36 => ?_))⟩
    have hS := hS.own st33 o36
    obtain ⟨f39, hf_⟩ := hS.opnF
    have rw43 := hf_.consA 4 rfl (hf_.consA 3 rfl (hf_.consA 2 rfl (hf_.consA 1 rfl (hf_.consA 0 rfl hf_.nilA (by decide)) (by decide)) (by decide)) (by decide)) (by decide)
    refine ⟨trivial, (hf_.lst (G' := [⟨(Sh.told (α := Scr)), v_law_script, a_law_script⟩]) rw43 [5] (by decide) (by decide) rfl (Nat.le_of_ble_eq_true rfl) (fun p40 H41 st42 hS => ?_))⟩
    have hS : Sep K Z0 H0 _ _ (⟨(Sh.lst (ShL.all (Sh.lt PyData))), (.ref p40), [([] : (List PyData)), ([] : (List PyData)), ([] : (List PyData)), ([] : (List PyData)), ([] : (List PyData))]⟩ :: _) := hS
    refine (tgt1 ?_)
    obtain ⟨some_37, en38⟩ : ∃ z, z = [([] : (List PyData)), ([] : (List PyData)), ([] : (List PyData)), ([] : (List PyData)), ([] : (List PyData))] := ⟨_, rfl⟩
    have hS := hS.nam 0 rfl en38; dsimp only [List.set] at hS
    have hm := Good.vl en38 hm
    refine ⟨_, rfl, ⟨trivial, ⟨_, rfl, ⟨trivial, ⟨_, rfl, (k_slR hS.zh (hS.fact 1 rfl) (New.tel fun v47 Z44 H45 st46 hv47 => ?_))⟩⟩⟩⟩⟩
    have hS := (hS.step st46).tel (a := (cutL a_law_script.ns (some (4 : Int)) (some (67 : Int)))) hv47
    obtain ⟨a48, xs49, ev50, hz51, pr52⟩ := pyL (hS.fact 0 rfl)
    obtain ⟨W56, hm, hWW56⟩ := Good.bndW hm
    refine ⟨_, ev50, ⟨_, SqL.of (hS.zh _ _ hz51)⟩, (forK (Z := Z44) (L := (cutL a_law_script.ns (some (4 : Int)) (some (67 : Int)))) (src_list hz51 pr52) (fun rr σr Hr Zr => (∃ (some_53 : (List (List PyData))) (v54 : V) (w_law_cell : Option V) (w_law_kind : Option V) (w_law_number : Option V) (w_law_field : Option V) (w_law_text : Option V), σr = [some v_law_script, some (.str signs_1), some (.int r3), some v54, w_law_cell, w_law_kind, w_law_number, w_law_field, w_law_text, none, none] ∧ Sep K Z0 H0 Zr Hr [⟨(Sh.lst (ShL.all (Sh.lt PyData))), v54, some_53⟩, ⟨(Sh.told (α := Scr)), v_law_script, a_law_script⟩] ∧ Same Z44 Zr ∧ (Good (forR (fun (s_ : (List (List PyData))) (q_ : Int) => m_law_drawn_b0 signs_1 r3 s_ q_) some_53 rr) W56 WE))) ?_ ?_ ?_ ?_)⟩
    · rintro rr σr Hr Zr hk
      obtain ⟨some_53, v54, w_law_cell, w_law_kind, w_law_number, w_law_field, w_law_text, rfl, hS, sm55, hm⟩ := hk
      obtain ⟨p307, er_⟩ := hS.ref 0 rfl
      subst er_
      exact ⟨sm55, hS.zh⟩
    · exact ⟨Z44, some_37, ((.ref p40)), (none), (none), (none), (none), (none), rfl, hS.pick [1, 2] (by decide) rfl, Same.refl _, hm⟩
    · skip
      intro cell_57 r58 x59 sg60 H61 H62 Z63 mem64 dec65 hp66 y67
      obtain ⟨some_53, v54, w_law_cell, w_law_kind, w_law_number, w_law_field, w_law_text, rfl, hS, sm55, hm⟩ := hp66
      obtain ⟨p68, er_⟩ := hS.ref 0 rfl
      subst er_
      obtain ⟨W69, hm, hn70⟩ := Good.forR hm
      have hm : Good (m_law_drawn_b0 signs_1 r3 some_53 cell_57) _ _ := hm; unfold m_law_drawn_b0 at hm
      obtain ⟨rfl, rfl⟩ := y67
      refine (tgt1 ?_)
      refine ⟨_, rfl, ⟨trivial, ⟨_, _, rfl, rfl, (show (0 : Int) < (5 : Int) from (by decide)), (storeI fun kind_75 en76 => ?_)⟩⟩⟩
      have hm := Good.vl en76 hm
      refine ⟨_, rfl, ⟨trivial, ⟨_, _, rfl, rfl, ⟨by decide, by decide⟩, (storeI fun number_77 en78 => ?_)⟩⟩⟩
      have hm := Good.vl en78 hm
      have hSB82 := hS; have bB82 := hS.bor0
      obtain ⟨Z83, ps84, bB82, hS⟩ := hS.bor bB82 0 rfl; dsimp only [List.set] at hS
      have sB82 := Step.refl hS.zh
      obtain ⟨g85, hm⟩ := Good.chk hm
      refine ⟨trivial, ⟨_, rfl, ⟨_, rfl, (k_ixL hS.zh (hS.fact 0 rfl) g85 (fun y86 hy86 => ⟨trivial, (k_lenQ hS.zh hy86 ⟨trivial, ⟨trivial, ⟨trivial, ⟨trivial, ⟨trivial, ⟨trivial, (k_lst (K := K) (m := [(8 : Int), (6 : Int), (4 : Int), (4 : Int), (36 : Int)]) hS.zh (.cons rfl (.cons rfl (.cons rfl (.cons rfl (.cons rfl .nil))))) (Nat.le_of_ble_eq_true rfl) (New.tel fun v91 Z88 H89 st90 hv91 => ?_))⟩⟩⟩⟩⟩⟩)⟩))⟩⟩⟩
      have sB82 := sB82.trans st90
      have hS := (hS.step st90).tel (a := [(8 : Int), (6 : Int), (4 : Int), (4 : Int), (36 : Int)]) hv91
      obtain ⟨g87, hm⟩ := Good.chk hm
      refine ⟨_, rfl, (k_ixLs hS.zh (hS.fact 0 rfl) g87 ⟨_, _, rfl, rfl, ⟨_, rfl, (ite2b (fun tb94 => ?_))⟩⟩)⟩
      have stB82 := bB82.back hSB82.zh sB82
      have hS := hSB82.step stB82
      have sm55 := sm55.trans stB82.zz
      refine ite2 (fun e92 => ?_) (fun e93 => ?_)
      · skip
        have hm := Good.ifT e92 hm
        have hm := hn70 _ hm
        exact ⟨_, some_53, ((.ref p68)), (some (.int cell_57)), (some (.int kind_75)), (some (.int number_77)), (w_law_field), (w_law_text), rfl, hS.pick [0, 1] (by decide) rfl, sm55, hm⟩
      · skip
        have hm := Good.ifF e93 hm
        refine ⟨fun σj Hj => ∃ Zr_ : Hp, ∃ (some_95 : (List (List PyData))) (v96 : V) (w_law_field : Option V) (w_law_text : Option V), σj = [some v_law_script, some (.str signs_1), some (.int r3), some v96, some (.int cell_57), some (.int kind_75), some (.int number_77), w_law_field, w_law_text, none, none] ∧ Sep K Z0 H0 Zr_ Hj [⟨(Sh.lst (ShL.all (Sh.lt PyData))), v96, some_95⟩, ⟨(Sh.told (α := Scr)), v_law_script, a_law_script⟩] ∧ Same (delL Z88 ps84) Zr_ ∧ (Good (m_law_drawn_j0 kind_75 number_77 some_95) W69 WE), ?_, fun σj Hj hj => ?_⟩
        · skip
          have sm98 := Same.refl (delL Z88 ps84)
          obtain ⟨W97, hm, hWW97⟩ := Good.bndW hm
          refine ⟨_, rfl, ⟨trivial, (k_eqI ⟨_, rfl, (ite2 (fun e99 => ?_) (fun e100 => ?_))⟩)⟩⟩
          · skip
            have hm := Good.ifT e99 hm
            refine ⟨_, rfl, ⟨trivial, ⟨trivial, ⟨trivial, ⟨_, _, _, _, rfl, hS.zh, (Good.bnd hm).imp (fun r101 hm => fun v105 Z102 H103 st104 hv105 => ?_) hWE⟩⟩⟩⟩⟩
            have sm55 := sm55.trans st104.zz
            have sm98 := sm98.trans st104.zz
            have hS := (hS.step st104).tel (a := r101) hv105
            refine (tgt1 ?_)
            obtain ⟨g106, hm⟩ := Good.chk hm
            obtain ⟨g113, hm⟩ := Good.chk hm
            obtain ⟨g110, hm⟩ := Good.chk hm
            obtain ⟨g111, hm⟩ := Good.chk hm
            obtain ⟨g112, hm⟩ := Good.chk hm
            refine ⟨trivial, ⟨rfl, ⟨_, rfl, ⟨trivial, (k_fstS hS.zh (hS.fact 0 rfl) ⟨_, rfl, ⟨trivial, (k_sndS hS.zh (hS.fact 0 rfl) ⟨trivial, ⟨_, _, rfl, rfl, ⟨trivial, ⟨_, _, rfl, ⟨g106.1, g106.2.1, g106.2.2.1, g106.2.2.2⟩, (lcKQ (K := K) (src_range _ _) hS.zh (fun (at_107 : Int) => (chS signs_1 ((r3 + ((at_107 * at_107) * ((1 : Int) + (r3 % (7 : Int))))) % (37 : Int)))) (fun _ => true) g113 (fun at_107 x115 Z116 H117 H118 C119 N120 mem121 st122 y123 kC124 kN125 => ?_) (New.all (New.tel fun v131 Z128 H129 st130 hv131 => ?_)))⟩⟩⟩⟩)⟩⟩)⟩⟩⟩⟩
            · skip
              have hS := hS.step st122
              have sx_ := Step.refl hS.zh
              have g110 := g110 at_107 mem121
              have g111 := g111 at_107 mem121
              have g112 := g112 at_107 mem121
              obtain ⟨rfl, rfl⟩ := y123
              refine (tgt1 ?_)
              refine ⟨rfl, (yesK ⟨_, rfl, ⟨_, rfl, ⟨_, rfl, ⟨_, rfl, ⟨_, _, rfl, rfl, g110, ⟨trivial, ⟨_, rfl, ⟨trivial, ⟨_, _, rfl, rfl, (show (0 : Int) < (7 : Int) from (by decide)), ⟨_, _, rfl, rfl, ⟨_, _, rfl, rfl, g111, ⟨_, _, rfl, rfl, ⟨trivial, ⟨_, _, rfl, rfl, (show (0 : Int) < (37 : Int) from (by decide)), (k_ixS g112.1 g112.2 (kC124 _ _ _ sx_ rfl rfl))⟩⟩⟩⟩⟩⟩⟩⟩⟩⟩⟩⟩⟩⟩)⟩
            have sm55 := sm55.trans st130.zz
            have sm98 := sm98.trans st130.zz
            have hS := (hS.step st130).tel (a := ((rangeL (r101).1 (((r101).2 + (1 : Int)) - (r101).1).toNat).map (fun (at_107 : Int) => (chS signs_1 ((r3 + ((at_107 * at_107) * ((1 : Int) + (r3 % (7 : Int))))) % (37 : Int)))))) hv131
            obtain ⟨g114, hm⟩ := Good.chk hm
            refine ⟨trivial, (k_join hS.zh (hS.fact 0 rfl) g114 (storeS fun text_132 en133 => ?_))⟩
            have hm := Good.vl en133 hm
            have hS := hS.drop
            obtain ⟨g134, hm⟩ := Good.chk hm
            refine ⟨_, rfl, ⟨trivial, ?_⟩⟩
            have hS : (Sep K Z0 H0 _ _ [⟨(Sh.lst (ShL.all (Sh.lt PyData))), (.ref p68), some_53⟩, ⟨(Sh.told (α := (Int × Int))), v105, r101⟩, ⟨(Sh.told (α := Scr)), v_law_script, a_law_script⟩]) := hS.pick [1, 0, 2] (by decide) rfl
            obtain ⟨xs135, hl136, hS⟩ := hS.vals; obtain ⟨x137, hx138, hS⟩ := hS.takeI g134
            have hS : (Sep K Z0 H0 _ _ [⟨(Sh.lt PyData), x137, (getI some_53 (0 : Int))⟩, ⟨(Sh.lstH xs135 (jx some_53.length (0 : Int)) (Sh.lt PyData)), (.ref p68), some_53⟩, ⟨(Sh.told (α := (Int × Int))), v105, r101⟩, ⟨(Sh.told (α := Scr)), v_law_script, a_law_script⟩]) := hS
            obtain ⟨p139, er_⟩ := hS.ref 0 rfl
            subst er_
            refine k_ixV (hS.atH 1 rfl).1 hx138 ?_
            refine ⟨tyO (hS.L 0 rfl), ⟨_, rfl, ⟨_, rfl, ⟨trivial, (k_tup (K := K) (a := r101) (b := text_132) hS.zh (hS.fact 2 rfl) rfl (fun v143 Z140 H141 st142 hv143 => ?_))⟩⟩⟩⟩
            have sm55 := sm55.trans st142.zz
            have sm98 := sm98.trans st142.zz
            have hS := (hS.step st142).tel (a := (r101, text_132)) hv143
            obtain ⟨g146, hm⟩ := Good.chk hm
            refine ⟨trivial, (k_append (a := (ToD.td ((r101, text_132) : ((Int × Int) × Str)))) (hS.L 1 rfl) (ToD.tr (α := ((Int × Int) × Str)) (a := (r101, text_132)) (hS.fact 0 rfl)) g146 fun u144 o145 => ?_)⟩
            have hS := hS.mutL 1 rfl o145; dsimp only [List.set] at hS
            obtain ⟨part_147, en148⟩ : ∃ z, z = ((getI some_53 (0 : Int)) ++ [(ToD.td ((r101, text_132) : ((Int × Int) × Str)))]) := ⟨_, rfl⟩
            rw [← en148] at hS
            have hm := Good.vl en148 hm
            have hS : (Sep K Z0 H0 _ _ [⟨(Sh.lt PyData), (.ref p139), part_147⟩, ⟨(Sh.lstH xs135 (jx some_53.length (0 : Int)) (Sh.lt PyData)), (.ref p68), some_53⟩, ⟨(Sh.told (α := ((Int × Int) × Str))), v143, (r101, text_132)⟩, ⟨(Sh.told (α := (Int × Int))), v105, r101⟩, ⟨(Sh.told (α := Scr)), v_law_script, a_law_script⟩]) := hS.pick [1, 2, 0, 3, 4] (by decide) rfl
            have hS := (Sep.giveI g134 hx138 hS).unvals
            have hS : (Sep K Z0 H0 _ _ [⟨(Sh.lst (ShL.all (Sh.lt PyData))), (.ref p68), (setI some_53 (0 : Int) part_147)⟩, ⟨(Sh.told (α := ((Int × Int) × Str))), v143, (r101, text_132)⟩, ⟨(Sh.told (α := (Int × Int))), v105, r101⟩, ⟨(Sh.told (α := Scr)), v_law_script, a_law_script⟩]) := hS
            obtain ⟨some_149, en150⟩ : ∃ z, z = (setI some_53 (0 : Int) part_147) := ⟨_, rfl⟩
            have hS := hS.nam 0 rfl en150; dsimp only [List.set] at hS
            have hm := Good.vl en150 hm
            have hm := hWW97 _ hm
            exact ⟨_, some_149, ((.ref p68)), (some v105), (some (.str text_132)), rfl, hS.pick [0, 3] (by decide) rfl, sm98, hm⟩
          · skip
            have hm := Good.ifF e100 hm
            have hm := hWW97 _ hm
            exact ⟨_, some_53, ((.ref p68)), (w_law_field), (w_law_text), rfl, hS.pick [0, 1] (by decide) rfl, sm98, hm⟩
        · skip
          obtain ⟨Zj_, some_95, v96, w_law_field, w_law_text, rfl, hS, sm98, hm⟩ := hj
          obtain ⟨p151, er_⟩ := hS.ref 0 rfl
          subst er_
          have sm55 := sm55.trans sm98
          unfold m_law_drawn_j0 at hm
          refine ⟨fun σj Hj => ∃ Zr_ : Hp, ∃ (some_152 : (List (List PyData))) (v153 : V), σj = [some v_law_script, some (.str signs_1), some (.int r3), some v153, some (.int cell_57), some (.int kind_75), some (.int number_77), w_law_field, w_law_text, none, none] ∧ Sep K Z0 H0 Zr_ Hj [⟨(Sh.lst (ShL.all (Sh.lt PyData))), v153, some_152⟩, ⟨(Sh.told (α := Scr)), v_law_script, a_law_script⟩] ∧ Same Zj_ Zr_ ∧ (Good (m_law_drawn_j1 kind_75 number_77 some_152) W69 WE), ?_, fun σj Hj hj => ?_⟩
          · skip
            have sm155 := Same.refl Zj_
            obtain ⟨W154, hm, hWW154⟩ := Good.bndW hm
            refine ⟨_, rfl, ⟨trivial, (k_eqI ⟨_, rfl, (ite2 (fun e156 => ?_) (fun e157 => ?_))⟩)⟩⟩
            · skip
              have hm := Good.ifT e156 hm
              obtain ⟨g159, hm⟩ := Good.chk hm
              refine ⟨_, rfl, ⟨trivial, ?_⟩⟩
              have hS : (Sep K Z0 H0 _ _ [⟨(Sh.lst (ShL.all (Sh.lt PyData))), (.ref p151), some_95⟩, ⟨(Sh.told (α := Scr)), v_law_script, a_law_script⟩]) := hS.pick [0, 1] (by decide) rfl
              obtain ⟨xs160, hl161, hS⟩ := hS.vals; obtain ⟨x162, hx163, hS⟩ := hS.takeI g159
              have hS : (Sep K Z0 H0 _ _ [⟨(Sh.lt PyData), x162, (getI some_95 (1 : Int))⟩, ⟨(Sh.lstH xs160 (jx some_95.length (1 : Int)) (Sh.lt PyData)), (.ref p151), some_95⟩, ⟨(Sh.told (α := Scr)), v_law_script, a_law_script⟩]) := hS
              obtain ⟨p164, er_⟩ := hS.ref 0 rfl
              subst er_
              refine k_ixV (hS.atH 1 rfl).1 hx163 ?_
              refine ⟨tyO (hS.L 0 rfl), ⟨_, rfl, ⟨trivial, ⟨trivial, ⟨trivial, ⟨_, _, _, _, rfl, hS.zh, (Good.bnd hm).imp (fun r165 hm => fun v169 Z166 H167 st168 hv169 => ?_) hWE⟩⟩⟩⟩⟩⟩
              have sm55 := sm55.trans st168.zz
              have sm155 := sm155.trans st168.zz
              have hS := (hS.step st168).tel (a := r165) hv169
              obtain ⟨g172, hm⟩ := Good.chk hm
              refine ⟨trivial, (k_append (a := (ToD.td (r165 : (Int × Int)))) (hS.L 1 rfl) (ToD.tr (α := (Int × Int)) (a := r165) (hS.fact 0 rfl)) g172 fun u170 o171 => ?_)⟩
              have hS := hS.mutL 1 rfl o171; dsimp only [List.set] at hS
              obtain ⟨part_173, en174⟩ : ∃ z, z = ((getI some_95 (1 : Int)) ++ [(ToD.td (r165 : (Int × Int)))]) := ⟨_, rfl⟩
              rw [← en174] at hS
              have hm := Good.vl en174 hm
              have hS : (Sep K Z0 H0 _ _ [⟨(Sh.lt PyData), (.ref p164), part_173⟩, ⟨(Sh.lstH xs160 (jx some_95.length (1 : Int)) (Sh.lt PyData)), (.ref p151), some_95⟩, ⟨(Sh.told (α := (Int × Int))), v169, r165⟩, ⟨(Sh.told (α := Scr)), v_law_script, a_law_script⟩]) := hS.pick [1, 2, 0, 3] (by decide) rfl
              have hS := (Sep.giveI g159 hx163 hS).unvals
              have hS : (Sep K Z0 H0 _ _ [⟨(Sh.lst (ShL.all (Sh.lt PyData))), (.ref p151), (setI some_95 (1 : Int) part_173)⟩, ⟨(Sh.told (α := (Int × Int))), v169, r165⟩, ⟨(Sh.told (α := Scr)), v_law_script, a_law_script⟩]) := hS
              obtain ⟨some_175, en176⟩ : ∃ z, z = (setI some_95 (1 : Int) part_173) := ⟨_, rfl⟩
              have hS := hS.nam 0 rfl en176; dsimp only [List.set] at hS
              have hm := Good.vl en176 hm
              have hm := hWW154 _ hm
              exact ⟨_, some_175, ((.ref p151)), rfl, hS.pick [0, 2] (by decide) rfl, sm155, hm⟩
            · skip
              have hm := Good.ifF e157 hm
              have hm := hWW154 _ hm
              exact ⟨_, some_95, ((.ref p151)), rfl, hS.pick [0, 1] (by decide) rfl, sm155, hm⟩
          · skip
            obtain ⟨Zj_, some_152, v153, rfl, hS, sm155, hm⟩ := hj
            obtain ⟨p177, er_⟩ := hS.ref 0 rfl
            subst er_
            have sm55 := sm55.trans sm155
            unfold m_law_drawn_j1 at hm
            refine ⟨fun σj Hj => ∃ Zr_ : Hp, ∃ (some_178 : (List (List PyData))) (v179 : V), σj = [some v_law_script, some (.str signs_1), some (.int r3), some v179, some (.int cell_57), some (.int kind_75), some (.int number_77), w_law_field, w_law_text, none, none] ∧ Sep K Z0 H0 Zr_ Hj [⟨(Sh.lst (ShL.all (Sh.lt PyData))), v179, some_178⟩, ⟨(Sh.told (α := Scr)), v_law_script, a_law_script⟩] ∧ Same Zj_ Zr_ ∧ (Good (m_law_drawn_j2 kind_75 number_77 some_178) W69 WE), ?_, fun σj Hj hj => ?_⟩
            · skip
              have sm181 := Same.refl Zj_
              obtain ⟨W180, hm, hWW180⟩ := Good.bndW hm
              refine ⟨_, rfl, ⟨trivial, (k_eqI ⟨_, rfl, (ite2 (fun e182 => ?_) (fun e183 => ?_))⟩)⟩⟩
              · skip
                have hm := Good.ifT e182 hm
                obtain ⟨g187, hm⟩ := Good.chk hm
                refine ⟨_, rfl, ⟨trivial, ?_⟩⟩
                have hS : (Sep K Z0 H0 _ _ [⟨(Sh.lst (ShL.all (Sh.lt PyData))), (.ref p177), some_152⟩, ⟨(Sh.told (α := Scr)), v_law_script, a_law_script⟩]) := hS.pick [0, 1] (by decide) rfl
                obtain ⟨xs188, hl189, hS⟩ := hS.vals; obtain ⟨x190, hx191, hS⟩ := hS.takeI g187
                have hS : (Sep K Z0 H0 _ _ [⟨(Sh.lt PyData), x190, (getI some_152 (2 : Int))⟩, ⟨(Sh.lstH xs188 (jx some_152.length (2 : Int)) (Sh.lt PyData)), (.ref p177), some_152⟩, ⟨(Sh.told (α := Scr)), v_law_script, a_law_script⟩]) := hS
                obtain ⟨p192, er_⟩ := hS.ref 0 rfl
                subst er_
                refine k_ixV (hS.atH 1 rfl).1 hx191 ?_
                refine ⟨tyO (hS.L 0 rfl), ⟨_, rfl, ⟨_, rfl, ⟨trivial, (k_ixV (hS.atH 1 rfl).1 hx191 ⟨trivial, (k_lenOQ (hS.L 0 rfl) ⟨trivial, ⟨_, _, _, rfl, hS.zh, (Good.bnd hm).imp (fun r193 hm => fun v197 Z194 H195 st196 hv197 => ?_) hWE⟩⟩)⟩)⟩⟩⟩⟩
                have sm55 := sm55.trans st196.zz
                have sm181 := sm181.trans st196.zz
                have hS := (hS.step st196).tel (a := r193) hv197
                obtain ⟨g200, hm⟩ := Good.chk hm
                refine ⟨trivial, (k_append (a := (ToD.td (r193 : (T4 (Int × Int) (Int × Int) Str (Int × Int))))) (hS.L 1 rfl) (ToD.tr (α := (T4 (Int × Int) (Int × Int) Str (Int × Int))) (a := r193) (hS.fact 0 rfl)) g200 fun u198 o199 => ?_)⟩
                have hS := hS.mutL 1 rfl o199; dsimp only [List.set] at hS
                obtain ⟨part_201, en202⟩ : ∃ z, z = ((getI some_152 (2 : Int)) ++ [(ToD.td (r193 : (T4 (Int × Int) (Int × Int) Str (Int × Int))))]) := ⟨_, rfl⟩
                rw [← en202] at hS
                have hm := Good.vl en202 hm
                have hS : (Sep K Z0 H0 _ _ [⟨(Sh.lt PyData), (.ref p192), part_201⟩, ⟨(Sh.lstH xs188 (jx some_152.length (2 : Int)) (Sh.lt PyData)), (.ref p177), some_152⟩, ⟨(Sh.told (α := (T4 (Int × Int) (Int × Int) Str (Int × Int)))), v197, r193⟩, ⟨(Sh.told (α := Scr)), v_law_script, a_law_script⟩]) := hS.pick [1, 2, 0, 3] (by decide) rfl
                have hS := (Sep.giveI g187 hx191 hS).unvals
                have hS : (Sep K Z0 H0 _ _ [⟨(Sh.lst (ShL.all (Sh.lt PyData))), (.ref p177), (setI some_152 (2 : Int) part_201)⟩, ⟨(Sh.told (α := (T4 (Int × Int) (Int × Int) Str (Int × Int)))), v197, r193⟩, ⟨(Sh.told (α := Scr)), v_law_script, a_law_script⟩]) := hS
                obtain ⟨some_203, en204⟩ : ∃ z, z = (setI some_152 (2 : Int) part_201) := ⟨_, rfl⟩
                have hS := hS.nam 0 rfl en204; dsimp only [List.set] at hS
                have hm := Good.vl en204 hm
                have hm := hWW180 _ hm
                exact ⟨_, some_203, ((.ref p177)), rfl, hS.pick [0, 2] (by decide) rfl, sm181, hm⟩
              · skip
                have hm := Good.ifF e183 hm
                have hm := hWW180 _ hm
                exact ⟨_, some_152, ((.ref p177)), rfl, hS.pick [0, 1] (by decide) rfl, sm181, hm⟩
            · skip
              obtain ⟨Zj_, some_178, v179, rfl, hS, sm181, hm⟩ := hj
              obtain ⟨p205, er_⟩ := hS.ref 0 rfl
              subst er_
              have sm55 := sm55.trans sm181
              unfold m_law_drawn_j2 at hm
              refine ⟨fun σj Hj => ∃ Zr_ : Hp, ∃ (some_206 : (List (List PyData))) (v207 : V), σj = [some v_law_script, some (.str signs_1), some (.int r3), some v207, some (.int cell_57), some (.int kind_75), some (.int number_77), w_law_field, w_law_text, none, none] ∧ Sep K Z0 H0 Zr_ Hj [⟨(Sh.lst (ShL.all (Sh.lt PyData))), v207, some_206⟩, ⟨(Sh.told (α := Scr)), v_law_script, a_law_script⟩] ∧ Same Zj_ Zr_ ∧ (Good (m_law_drawn_j3 kind_75 number_77 some_206) W69 WE), ?_, fun σj Hj hj => ?_⟩
              · skip
                have sm209 := Same.refl Zj_
                obtain ⟨W208, hm, hWW208⟩ := Good.bndW hm
                refine ⟨_, rfl, ⟨trivial, (k_eqI ⟨_, rfl, (ite2 (fun e210 => ?_) (fun e211 => ?_))⟩)⟩⟩
                · skip
                  have hm := Good.ifT e210 hm
                  obtain ⟨g213, hm⟩ := Good.chk hm
                  refine ⟨_, rfl, ⟨trivial, ?_⟩⟩
                  have hS : (Sep K Z0 H0 _ _ [⟨(Sh.lst (ShL.all (Sh.lt PyData))), (.ref p205), some_178⟩, ⟨(Sh.told (α := Scr)), v_law_script, a_law_script⟩]) := hS.pick [0, 1] (by decide) rfl
                  obtain ⟨xs214, hl215, hS⟩ := hS.vals; obtain ⟨x216, hx217, hS⟩ := hS.takeI g213
                  have hS : (Sep K Z0 H0 _ _ [⟨(Sh.lt PyData), x216, (getI some_178 (3 : Int))⟩, ⟨(Sh.lstH xs214 (jx some_178.length (3 : Int)) (Sh.lt PyData)), (.ref p205), some_178⟩, ⟨(Sh.told (α := Scr)), v_law_script, a_law_script⟩]) := hS
                  obtain ⟨p218, er_⟩ := hS.ref 0 rfl
                  subst er_
                  refine k_ixV (hS.atH 1 rfl).1 hx217 ?_
                  refine ⟨tyO (hS.L 0 rfl), ⟨_, rfl, ⟨trivial, ⟨trivial, ⟨trivial, ⟨_, _, _, _, rfl, hS.zh, (Good.bnd hm).imp (fun r219 hm => fun v223 Z220 H221 st222 hv223 => ?_) hWE⟩⟩⟩⟩⟩⟩
                  have sm55 := sm55.trans st222.zz
                  have sm209 := sm209.trans st222.zz
                  have hS := (hS.step st222).tel (a := r219) hv223
                  obtain ⟨g226, hm⟩ := Good.chk hm
                  refine ⟨trivial, (k_append (a := (ToD.td (r219 : (Int × Int)))) (hS.L 1 rfl) (ToD.tr (α := (Int × Int)) (a := r219) (hS.fact 0 rfl)) g226 fun u224 o225 => ?_)⟩
                  have hS := hS.mutL 1 rfl o225; dsimp only [List.set] at hS
                  obtain ⟨part_227, en228⟩ : ∃ z, z = ((getI some_178 (3 : Int)) ++ [(ToD.td (r219 : (Int × Int)))]) := ⟨_, rfl⟩
                  rw [← en228] at hS
                  have hm := Good.vl en228 hm
                  have hS : (Sep K Z0 H0 _ _ [⟨(Sh.lt PyData), (.ref p218), part_227⟩, ⟨(Sh.lstH xs214 (jx some_178.length (3 : Int)) (Sh.lt PyData)), (.ref p205), some_178⟩, ⟨(Sh.told (α := (Int × Int))), v223, r219⟩, ⟨(Sh.told (α := Scr)), v_law_script, a_law_script⟩]) := hS.pick [1, 2, 0, 3] (by decide) rfl
                  have hS := (Sep.giveI g213 hx217 hS).unvals
                  have hS : (Sep K Z0 H0 _ _ [⟨(Sh.lst (ShL.all (Sh.lt PyData))), (.ref p205), (setI some_178 (3 : Int) part_227)⟩, ⟨(Sh.told (α := (Int × Int))), v223, r219⟩, ⟨(Sh.told (α := Scr)), v_law_script, a_law_script⟩]) := hS
                  obtain ⟨some_229, en230⟩ : ∃ z, z = (setI some_178 (3 : Int) part_227) := ⟨_, rfl⟩
                  have hS := hS.nam 0 rfl en230; dsimp only [List.set] at hS
                  have hm := Good.vl en230 hm
                  have hm := hWW208 _ hm
                  exact ⟨_, some_229, ((.ref p205)), rfl, hS.pick [0, 2] (by decide) rfl, sm209, hm⟩
                · skip
                  have hm := Good.ifF e211 hm
                  have hm := hWW208 _ hm
                  exact ⟨_, some_178, ((.ref p205)), rfl, hS.pick [0, 1] (by decide) rfl, sm209, hm⟩
              · skip
                obtain ⟨Zj_, some_206, v207, rfl, hS, sm209, hm⟩ := hj
                obtain ⟨p231, er_⟩ := hS.ref 0 rfl
                subst er_
                have sm55 := sm55.trans sm209
                unfold m_law_drawn_j3 at hm
                have hSB243 := hS; have bB243 := hS.bor0
                obtain ⟨Z244, ps245, bB243, hS⟩ := hS.bor bB243 0 rfl; dsimp only [List.set] at hS
                have sB243 := Step.refl hS.zh
                obtain ⟨W257, hmb, hWW257⟩ := Good.bndW hm
                refine ⟨trivial, testK2 (Z := Z244) (fun z_ => W257 z_) (fun Q_ q258 => ?_) (fun t256 Z259 H260 w262 st261 => ?_)⟩
                · skip
                  have hm := hmb
                  have sx_ := Step.refl hS.zh
                  refine ⟨_, rfl, ⟨trivial, (k_eqI ⟨_, rfl, (ite2 (fun e263 => ?_) (fun e264 => ?_))⟩)⟩⟩
                  · skip
                    have hm := Good.ifT e263 hm
                    obtain ⟨g246, hm⟩ := Good.chk hm
                    obtain ⟨g255, hm⟩ := Good.chk hm
                    obtain ⟨g253, hm⟩ := Good.chk hm
                    obtain ⟨g254, hm⟩ := Good.chk hm
                    refine ⟨trivial, ⟨_, rfl, ⟨trivial, ⟨_, _, rfl, rfl, ⟨by decide, by decide⟩, ⟨trivial, ⟨_, _, rfl, rfl, (show (0 : Int) < (36 : Int) from (by decide)), ⟨_, _, rfl, rfl, ⟨_, rfl, ⟨trivial, (k_ixL hS.zh (hS.fact 0 rfl) g246 (fun y247 hy247 => ?_))⟩⟩⟩⟩⟩⟩⟩⟩⟩
                    obtain ⟨a265, xs266, ev267, hz268, pr269⟩ := pyL hy247
                    refine ⟨_, ev267, ⟨_, SqL.of (hS.zh _ _ hz268)⟩, (lcKQ (K := K) (src_list hz268 pr269) hS.zh (fun (wire_248 : PyData) => ((FromD.fd (α := Int) (dyAt wire_248 (1 : Int))).getD default)) (fun _ => true) g255 (fun wire_248 x270 Z271 H272 H273 C274 N275 mem276 st277 y278 kC279 kN280 => ?_) (New.all (New.tel fun v286 Z283 H284 st285 hv286 => ?_)))⟩
                    · skip
                      have hS := hS.step st277
                      have sx_ := Step.refl hS.zh
                      have g253 := g253 wire_248 mem276
                      have g254 := g254 wire_248 mem276
                      obtain ⟨rfl, h250⟩ := y278
                      have h250 := Py.mono st277.zz h250
                      have hS := hS.tel h250
                      refine (tgt1 ?_)
                      refine ⟨rfl, (yesK ⟨_, rfl, ⟨trivial, (k_ixDS (α := Int) hS.zh h250 g253.1 g253.2 g254 (kC279 _ _ _ sx_ rfl rfl))⟩⟩)⟩
                    have hS := hS.tel (a := (getI some_206 (4 : Int))) hy247
                    have sx_ := sx_.trans st285
                    have hS := (hS.step st285).tel (a := ((getI some_206 (4 : Int)).map (fun (wire_248 : PyData) => ((FromD.fd (α := Int) (dyAt wire_248 (1 : Int))).getD default)))) hv286
                    refine (k_ninL (RO.tell hS.zh (hS.fact 0 rfl)) ⟨_, rfl, (q258 _ _ _ hm sx_)⟩)
                  · have hm := Good.ifF e264 hm
                    exact q258 _ _ _ hm sx_
                have hm := hWW257 _ w262
                have sB243 := sB243.trans st261
                have hS := hS.step st261
                refine (ite2b (fun tb289 => ?_))
                have stB243 := bB243.back hSB243.zh sB243
                have hS := hSB243.step stB243
                have sm55 := sm55.trans stB243.zz
                refine ite2 (fun e287 => ?_) (fun e288 => ?_)
                · skip
                  have hm := Good.ifT e287 hm
                  obtain ⟨g290, hm⟩ := Good.chk hm
                  refine ⟨_, rfl, ⟨trivial, ?_⟩⟩
                  have hS : (Sep K Z0 H0 _ _ [⟨(Sh.lst (ShL.all (Sh.lt PyData))), (.ref p231), some_206⟩, ⟨(Sh.told (α := Scr)), v_law_script, a_law_script⟩]) := hS.pick [0, 1] (by decide) rfl
                  obtain ⟨xs291, hl292, hS⟩ := hS.vals; obtain ⟨x293, hx294, hS⟩ := hS.takeI g290
                  have hS : (Sep K Z0 H0 _ _ [⟨(Sh.lt PyData), x293, (getI some_206 (4 : Int))⟩, ⟨(Sh.lstH xs291 (jx some_206.length (4 : Int)) (Sh.lt PyData)), (.ref p231), some_206⟩, ⟨(Sh.told (α := Scr)), v_law_script, a_law_script⟩]) := hS
                  obtain ⟨p295, er_⟩ := hS.ref 0 rfl
                  subst er_
                  refine k_ixV (hS.atH 1 rfl).1 hx294 ?_
                  refine ⟨tyO (hS.L 0 rfl), ⟨trivial, ⟨_, rfl, ⟨trivial, ⟨_, _, rfl, rfl, (show (0 : Int) < (40 : Int) from (by decide)), ⟨_, _, rfl, rfl, ⟨trivial, ⟨_, rfl, ⟨trivial, ⟨_, _, rfl, rfl, ⟨by decide, by decide⟩, ⟨trivial, ⟨_, _, rfl, rfl, (show (0 : Int) < (36 : Int) from (by decide)), ⟨_, _, rfl, rfl, ⟨trivial, (k_tup (K := K) (a := ((1 : Int) + (number_77 % (40 : Int)))) (b := ((1 : Int) + ((number_77 / (40 : Int)) % (36 : Int)))) hS.zh rfl rfl (fun v299 Z296 H297 st298 hv299 => ?_))⟩⟩⟩⟩⟩⟩⟩⟩⟩⟩⟩⟩⟩⟩
                  have sm55 := sm55.trans st298.zz
                  have hS := (hS.step st298).tel (a := (((1 : Int) + (number_77 % (40 : Int))), ((1 : Int) + ((number_77 / (40 : Int)) % (36 : Int))))) hv299
                  obtain ⟨g302, hm⟩ := Good.chk hm
                  refine ⟨trivial, (k_append (a := (ToD.td ((((1 : Int) + (number_77 % (40 : Int))), ((1 : Int) + ((number_77 / (40 : Int)) % (36 : Int)))) : (Int × Int)))) (hS.L 1 rfl) (ToD.tr (α := (Int × Int)) (a := (((1 : Int) + (number_77 % (40 : Int))), ((1 : Int) + ((number_77 / (40 : Int)) % (36 : Int))))) (hS.fact 0 rfl)) g302 fun u300 o301 => ?_)⟩
                  have hS := hS.mutL 1 rfl o301; dsimp only [List.set] at hS
                  obtain ⟨part_303, en304⟩ : ∃ z, z = ((getI some_206 (4 : Int)) ++ [(ToD.td ((((1 : Int) + (number_77 % (40 : Int))), ((1 : Int) + ((number_77 / (40 : Int)) % (36 : Int)))) : (Int × Int)))]) := ⟨_, rfl⟩
                  rw [← en304] at hS
                  have hm := Good.vl en304 hm
                  have hS : (Sep K Z0 H0 _ _ [⟨(Sh.lt PyData), (.ref p295), part_303⟩, ⟨(Sh.lstH xs291 (jx some_206.length (4 : Int)) (Sh.lt PyData)), (.ref p231), some_206⟩, ⟨(Sh.told (α := (Int × Int))), v299, (((1 : Int) + (number_77 % (40 : Int))), ((1 : Int) + ((number_77 / (40 : Int)) % (36 : Int))))⟩, ⟨(Sh.told (α := Scr)), v_law_script, a_law_script⟩]) := hS.pick [1, 2, 0, 3] (by decide) rfl
                  have hS := (Sep.giveI g290 hx294 hS).unvals
                  have hS : (Sep K Z0 H0 _ _ [⟨(Sh.lst (ShL.all (Sh.lt PyData))), (.ref p231), (setI some_206 (4 : Int) part_303)⟩, ⟨(Sh.told (α := (Int × Int))), v299, (((1 : Int) + (number_77 % (40 : Int))), ((1 : Int) + ((number_77 / (40 : Int)) % (36 : Int))))⟩, ⟨(Sh.told (α := Scr)), v_law_script, a_law_script⟩]) := hS
                  obtain ⟨some_305, en306⟩ : ∃ z, z = (setI some_206 (4 : Int) part_303) := ⟨_, rfl⟩
                  have hS := hS.nam 0 rfl en306; dsimp only [List.set] at hS
                  have hm := Good.vl en306 hm
                  have hm := hn70 _ hm
                  exact ⟨_, some_305, ((.ref p231)), (some (.int cell_57)), (some (.int kind_75)), (some (.int number_77)), (w_law_field), (w_law_text), rfl, hS.pick [0, 2] (by decide) rfl, sm55, hm⟩
                · skip
                  have hm := Good.ifF e288 hm
                  have hm := hn70 _ hm
                  exact ⟨_, some_206, ((.ref p231)), (some (.int cell_57)), (some (.int kind_75)), (some (.int number_77)), (w_law_field), (w_law_text), rfl, hS.pick [0, 1] (by decide) rfl, sm55, hm⟩
    · intro sg308 H309 Z310 hp311
      obtain ⟨some_53, v54, w_law_cell, w_law_kind, w_law_number, w_law_field, w_law_text, rfl, hS, sm55, hm⟩ := hp311
      obtain ⟨p312, er_⟩ := hS.ref 0 rfl
      subst er_
      have hm := hWW56 _ hm
      obtain ⟨Z313, s314, hS⟩ := hS.tell 0 rfl; dsimp only [List.set] at hS
      refine ⟨_, rfl, ?_⟩
      exact hW _ hm _ _ _ hS.st (hS.fact 0 rfl)
theorem ok_law_drawn {f : Addr} {fd : FuncData} (F : Fun K "_law_drawn" "_law_drawn" (topS 35) f fd) (gm : mg "_law_drawn" = some (.ref f)) (T : Txt K mg ca cb) (C_law_cell_at : Cal P w K mg base CX0 "_law_cell_at" 1 ["_law_script", "_law_k"] (sp_law_cell_at K ca)) (C_law_span : Cal P w K mg base CX0 "_law_span" 1 ["_law_number", "_law_high", "_law_wide"] (sp_law_span K ca)) (C_law_work : Cal P w K mg base CX0 "_law_work" 2 ["_law_number", "_law_k"] (sp_law_work K ca)) : Cal P w K mg base CX0 "_law_drawn" 3 ["_law_script"] (sp_law_drawn K ca) :=
  ⟨⟨f, fd, okf_law_drawn F T C_law_cell_at C_law_span C_law_work, gm, F.kp, F.binds (ps := ["_law_script"]) fun _ _ _ _ _ _ us hl => match us, hl with | [_], _ => rfl⟩⟩
theorem sc_law_turned : FnScope ["_law_field"] ["_law_field"] (defScope (topS 36)) := ⟨rfl, rfl, rfl, by decide +kernel, rfl, by decide +kernel, by decide +kernel⟩
theorem okf_law_turned {f : Addr} {fd : FuncData} (F : Fun K "_law_turned" "_law_turned" (topS 36) f fd) (T : Txt K mg ca cb) : FnOk P w K mg base CX0 1 f fd ["_law_field"] (sp_law_turned K ca) := by
  refine F.ok sc_law_turned (fun vs H0 Q E h => ?_) (fun cdv A outer s H0 vs Q E hr h => ?_)
  · obtain ⟨Z0, a_law_field, v_law_field, rfl, _⟩ := h
    rfl
  · obtain ⟨Z0, a_law_field, v_law_field, rfl, zh, h_law_field, hm⟩ := h
    have nd := sc_law_turned.nd
    have hm_ := hm.opn; clear hm; obtain ⟨W, WE, hm, hW, hWE⟩ := hm_
    have hS := Sep.start (K := K) zh
    have hS := hS.tel h_law_field
    unfold m_law_turned at hm
    refine ⟨_, (pss_one (ps_ret (pe_tupQ (pa_cons (pe_op op_sub (pcK pe_int) (pe_ix (ix_tupK (K := K) rfl) (pv 0) (pcK pe_int) (fun _ _ => rfl))) (pa_cons (pe_op op_sub (pcK pe_int) (pe_ix (ix_tupK (K := K) rfl) (pv 0) (pcK pe_int) (fun _ _ => rfl))) pnK))))), ?_⟩
    refine ⟨trivial, ⟨_, rfl, ⟨trivial, (k_sndS hS.zh (hS.fact 0 rfl) ⟨_, _, rfl, rfl, ⟨trivial, ⟨_, rfl, ⟨trivial, (k_fstS hS.zh (hS.fact 0 rfl) ⟨_, _, rfl, rfl, ⟨trivial, (k_tup (K := K) (a := ((37 : Int) - (a_law_field).2)) (b := ((37 : Int) - (a_law_field).1)) hS.zh rfl rfl (fun v4 Z1 H2 st3 hv4 => ?_))⟩⟩)⟩⟩⟩⟩)⟩⟩⟩
    have hS := (hS.step st3).tel (a := (((37 : Int) - (a_law_field).2), ((37 : Int) - (a_law_field).1))) hv4
    exact hW _ hm _ _ _ hS.st (hS.fact 0 rfl)
theorem ok_law_turned {f : Addr} {fd : FuncData} (F : Fun K "_law_turned" "_law_turned" (topS 36) f fd) (gm : mg "_law_turned" = some (.ref f)) (T : Txt K mg ca cb) : Cal P w K mg base CX0 "_law_turned" 1 ["_law_field"] (sp_law_turned K ca) :=
  ⟨⟨f, fd, okf_law_turned F T, gm, F.kp, F.binds (ps := ["_law_field"]) fun _ _ _ _ _ _ us hl => match us, hl with | [_], _ => rfl⟩⟩
theorem sc_law_parts : FnScope ["_law_script", "_law_first", "_law_name_here", "_law_middle_here", "_law_second", "_law_picks", "_law_order", "_law_works", "_law_totals", "_law_wires", "_law_turned_here", "_law_to", "_law_one", "_law_word", "_law_other_here", "_law_at", "_law_wired", "_law_broken", "_law_field", "_law_text", "_law_wire", "_law_there", "_law_here"] ["_law_script"] (defScope (topS 37)) := ⟨rfl, rfl, rfl, by decide +kernel, rfl, by decide +kernel, by decide +kernel⟩
theorem okf_law_parts {f : Addr} {fd : FuncData} (F : Fun K "_law_parts" "_law_parts" (topS 37) f fd) (T : Txt K mg ca cb) (C_law_cell_at : Cal P w K mg base CX0 "_law_cell_at" 1 ["_law_script", "_law_k"] (sp_law_cell_at K ca)) (C_law_name : Cal P w K mg base CX0 "_law_name" 1 ["_law_cell"] (sp_law_name K ca)) (C_law_middle : Cal P w K mg base CX0 "_law_middle" 2 ["_law_name_here", "_law_cell"] (sp_law_middle K ca)) (C_law_drawn : Cal P w K mg base CX0 "_law_drawn" 3 ["_law_script"] (sp_law_drawn K ca)) (C_law_turned : Cal P w K mg base CX0 "_law_turned" 1 ["_law_field"] (sp_law_turned K ca)) : FnOk P w K mg base CX0 4 f fd ["_law_script"] (sp_law_parts K ca) := by
  refine F.ok sc_law_parts (fun vs H0 Q E h => ?_) (fun cdv A outer s H0 vs Q E hr h => ?_)
  · obtain ⟨Z0, a_law_script, v_law_script, rfl, _⟩ := h
    rfl
  · obtain ⟨Z0, a_law_script, v_law_script, rfl, zh, h_law_script, hm⟩ := h
    have nd := sc_law_parts.nd
    have hm_ := hm.opn; clear hm; obtain ⟨W, WE, hm, hW, hWE⟩ := hm_
    have hS := Sep.start (K := K) zh
    have hS := hS.tel h_law_script
    unfold m_law_parts at hm
    refine ⟨_, (pss_cons (ps_set (i := 1) nd rfl (Or.inl rfl) (pe_cal C_law_cell_at (hr.mono (by decide)) pass0 (pa_cons (pv 0) (pa_cons (pcK pe_int) pnK)))) (pss_cons (ps_set (i := 2) nd rfl (Or.inl rfl) (pe_cal C_law_name (hr.mono (by decide)) pass0 (pa_cons (pe_op op_fdiv (pv 1) (pcK pe_int)) pnK))) (pss_cons (ps_set (i := 3) nd rfl (Or.inl rfl) (pe_cal C_law_middle (hr.mono (by decide)) pass0 (pa_cons (pv 2) (pa_cons (pe_cal C_law_cell_at (hr.mono (by decide)) pass0 (pa_cons (pv 0) (pa_cons (pcK pe_int) pnK))) pnK)))) (pss_cons (ps_set (i := 4) nd rfl (Or.inl rfl) (pe_cal C_law_cell_at (hr.mono (by decide)) pass0 (pa_cons (pv 0) (pa_cons (pcK pe_int) pnK)))) (pss_cons (ps_asg (pe_cal C_law_drawn (hr.mono (by decide)) pass0 (pa_cons (pv 0) pnK)) (pg_lst rfl (pgs_cons (pg_name (i := 5) nd rfl (Or.inl rfl)) (pgs_cons (pg_name (i := 6) nd rfl (Or.inl rfl)) (pgs_cons (pg_name (i := 7) nd rfl (Or.inl rfl)) (pgs_cons (pg_name (i := 8) nd rfl (Or.inl rfl)) (pgs_cons (pg_name (i := 9) nd rfl (Or.inl rfl)) pgs_nil))))))) (Evl.pss_cut (ps_if (pt_cmpR op_eq (pe_op op_mod (pv 1) (pcK pe_int)) (pcK pe_int) (nomark _)) (pss_cons (ps_setLcQ (i := 5) (own := [("_law_field", 18), ("_law_text", 19)]) (g := (gTup K 2 (gCons (gName 18) (gCons (gName 19) gNil)))) rfl nd rfl rfl (sw_true rfl rfl rfl (by decide +kernel)) (pi_list (pv 5)) (blkOk_by (N := ["_law_script", "_law_first", "_law_name_here", "_law_middle_here", "_law_second", "_law_picks", "_law_order", "_law_works", "_law_totals", "_law_wires", "_law_turned_here", "_law_to", "_law_one", "_law_word", "_law_other_here", "_law_at", "_law_wired", "_law_broken", "_law_field", "_law_text", "_law_wire", "_law_there", "_law_here"]) (sc := defScope (topS 37)) (own := [("_law_field", 18), ("_law_text", 19)]) (by decide +kernel)) (by intro _ _ _ _ _; exact pg_tup rfl (pgs_cons (pg_name (i := 18) nd rfl (Or.inl rfl)) (pgs_cons (pg_name (i := 19) nd rfl (Or.inl rfl)) pgs_nil))) (by intro _ _ _ _ _; exact pts_nil) (by intro _ _ _ _ _; exact (pe_tupQ (pa_cons (pe_cal C_law_turned (hr.mono (by decide)) pass0 (pa_cons (pv 18) pnK)) (pa_cons (pe_revS (pv 19)) pnK))))) (pss_cons (ps_setLcQ (i := 6) (own := [("_law_field", 18)]) (g := (gName 18)) rfl nd rfl rfl (sw_true rfl rfl rfl (by decide +kernel)) (pi_list (pv 6)) (blkOk_by (N := ["_law_script", "_law_first", "_law_name_here", "_law_middle_here", "_law_second", "_law_picks", "_law_order", "_law_works", "_law_totals", "_law_wires", "_law_turned_here", "_law_to", "_law_one", "_law_word", "_law_other_here", "_law_at", "_law_wired", "_law_broken", "_law_field", "_law_text", "_law_wire", "_law_there", "_law_here"]) (sc := defScope (topS 37)) (own := [("_law_field", 18)]) (by decide +kernel)) (by intro _ _ _ _ _; exact pg_name (i := 18) nd rfl (Or.inl rfl)) (by intro _ _ _ _ _; exact pts_nil) (by intro _ _ _ _ _; exact (pe_cal C_law_turned (hr.mono (by decide)) pass0 (pa_cons (pv 18) pnK)))) (pss_cons (ps_setLcQ (i := 8) (own := [("_law_field", 18)]) (g := (gName 18)) rfl nd rfl rfl (sw_true rfl rfl rfl (by decide +kernel)) (pi_list (pv 8)) (blkOk_by (N := ["_law_script", "_law_first", "_law_name_here", "_law_middle_here", "_law_second", "_law_picks", "_law_order", "_law_works", "_law_totals", "_law_wires", "_law_turned_here", "_law_to", "_law_one", "_law_word", "_law_other_here", "_law_at", "_law_wired", "_law_broken", "_law_field", "_law_text", "_law_wire", "_law_there", "_law_here"]) (sc := defScope (topS 37)) (own := [("_law_field", 18)]) (by decide +kernel)) (by intro _ _ _ _ _; exact pg_name (i := 18) nd rfl (Or.inl rfl)) (by intro _ _ _ _ _; exact pts_nil) (by intro _ _ _ _ _; exact (pe_cal C_law_turned (hr.mono (by decide)) pass0 (pa_cons (pv 18) pnK)))) (pss_cons (ps_set (i := 10) nd rfl (Or.inl rfl) (pe_lstQ pnK)) (pss_cons (ps_for PassesOwn.never rfl (pi_list (pv 7)) (pg_tup rfl (pgs_cons (pg_name (i := 11) nd rfl (Or.inl rfl)) (pgs_cons (pg_name (i := 12) nd rfl (Or.inl rfl)) (pgs_cons (pg_name (i := 13) nd rfl (Or.inl rfl)) (pgs_cons (pg_name (i := 14) nd rfl (Or.inl rfl)) pgs_nil))))) (pss_one (ps_expr (pe_bm PySem.F.plainAttrs_list PySem.F.slot_list_append PySem.F.type_list_append mt_append (pv 10) (pa_cons (pe_tupQ (pa_cons (pe_cal C_law_turned (hr.mono (by decide)) pass0 (pa_cons (pv 11) pnK)) (pa_cons (pe_cal C_law_turned (hr.mono (by decide)) pass0 (pa_cons (pv 12) pnK)) (pa_cons (pv 13) (pa_cons (pe_cal C_law_turned (hr.mono (by decide)) pass0 (pa_cons (pv 14) pnK)) pnK))))) pnK))))) (pss_cons (ps_set (i := 7) nd rfl (Or.inl rfl) (pv 10)) (pss_one (ps_if (pt_cmpR op_notNQ (pv 3) (pcK pe_non) (nomark _)) (pss_cons (ps_set (i := 15) nd rfl (Or.inl rfl) (pe_op op_sub (pe_op op_sub (pe_callB (call_lenK (K := K) rfl) (by rfl) T.b_len PySem.boot_len (pa_cons (pv 3) pnK)) (pcK pe_int)) (pe_callTy call_intB (by rfl) T.b_int PyProof.Rows.boot_int (pa_cons (pe_cmpR op_eq (pe_callB (call_lenK (K := K) rfl) (by rfl) T.b_len PySem.boot_len (pa_cons (pv 3) pnK)) (pcK pe_int) (nomark _)) pnK)))) (pss_one (ps_set (i := 3) nd rfl (Or.inl rfl) (pe_op (op_catAK (K := K) rfl) (pe_op (op_catAK (K := K) rfl) (pe_slice (sl_tupAK (K := K) rfl) (pv 3) po_noK (po_some (pv 15))) (pe_tupQ (pa_cons (pe_cal C_law_turned (hr.mono (by decide)) pass0 (pa_cons (pe_ix (ix_dyK (K := K) rfl) (pv 3) (pv 15) (fun _ _ => rfl)) pnK)) pnK))) (pe_slice (sl_tupAK (K := K) rfl) (pv 3) (po_some (pe_op op_add (pv 15) (pcK pe_int))) po_noK))))) pss_nil)))))))) pss_nil) (pss_cons (ps_setLcQ (i := 16) (own := [("_law_there", 21), ("_law_here", 22)]) (g := (gTup K 2 (gCons (gName 21) (gCons (gName 22) gNil)))) rfl nd rfl rfl (sw_true rfl rfl rfl (by decide +kernel)) (pi_list (pe_callB (call_sortK (K := K) rfl) (by rfl) T.b_sorted (by decide +kernel) (pa_cons (pe_lcQ (own := [("_law_wire", 20)]) (g := (gName 20)) rfl nd (pi_list (pv 9)) (blkOk_by (N := ["_law_script", "_law_first", "_law_name_here", "_law_middle_here", "_law_second", "_law_picks", "_law_order", "_law_works", "_law_totals", "_law_wires", "_law_turned_here", "_law_to", "_law_one", "_law_word", "_law_other_here", "_law_at", "_law_wired", "_law_broken", "_law_field", "_law_text", "_law_wire", "_law_there", "_law_here"]) (sc := defScope (topS 37)) (own := [("_law_wire", 20)]) (by decide +kernel)) (by intro _ _ _ _ _; exact pg_name (i := 20) nd rfl (Or.inl rfl)) (by intro _ _ _ _ _; exact pts_nil) (by intro _ _ _ _ _; exact (pe_tupQ (pa_cons (pe_ix (ix_tupK (K := K) rfl) (pv 20) (pcK pe_int) (fun _ _ => rfl)) (pa_cons (pe_ix (ix_tupK (K := K) rfl) (pv 20) (pcK pe_int) (fun _ _ => rfl)) pnK))))) pnK))) (blkOk_by (N := ["_law_script", "_law_first", "_law_name_here", "_law_middle_here", "_law_second", "_law_picks", "_law_order", "_law_works", "_law_totals", "_law_wires", "_law_turned_here", "_law_to", "_law_one", "_law_word", "_law_other_here", "_law_at", "_law_wired", "_law_broken", "_law_field", "_law_text", "_law_wire", "_law_there", "_law_here"]) (sc := defScope (topS 37)) (own := [("_law_there", 21), ("_law_here", 22)]) (by decide +kernel)) (by intro _ _ _ _ _; exact pg_tup rfl (pgs_cons (pg_name (i := 21) nd rfl (Or.inl rfl)) (pgs_cons (pg_name (i := 22) nd rfl (Or.inl rfl)) pgs_nil))) (by intro _ _ _ _ _; exact pts_nil) (by intro _ _ _ _ _; exact (pe_tupQ (pa_cons (pv 22) (pa_cons (pv 21) pnK))))) (pss_cons (ps_set (i := 17) nd rfl (Or.inl rfl) (pe_op op_mod (pv 4) (pe_op op_add (pe_callB (call_min2 rfl) (by rfl) T.b_min (by decide +kernel) (pa_cons (pcK pe_int) (pa_cons (pe_callB (call_lenK (K := K) rfl) (by rfl) T.b_len PySem.boot_len (pa_cons (pv 6) pnK)) pnK))) (pcK pe_int)))) (pss_one (ps_ret (pe_lstQ (pa_cons (pv 2) (pa_cons (pv 5) (pa_cons (pv 3) (pa_cons (pv 6) (pa_cons (pv 7) (pa_cons (pv 17) (pa_cons (pv 8) (pa_cons (pe_op op_add (pcK pe_int) (pe_op op_mod (pe_op op_fdiv (pv 4) (pcK pe_int)) (pcK pe_int))) (pa_cons (pv 16) pnK)))))))))))))))))))), ?_⟩
    refine ⟨_, rfl, ⟨trivial, ⟨trivial, ⟨_, _, _, _, rfl, hS.zh, (hS.fact 0 rfl), (Good.bnd hm).imp (fun r1 hm => fun Z2 H3 st4 => ?_) hWE⟩⟩⟩⟩
    have hS := hS.step st4
    refine (tgt1 ?_)
    refine ⟨_, rfl, ⟨trivial, ⟨_, _, rfl, rfl, ⟨by decide, by decide⟩, ⟨trivial, ⟨_, _, rfl, hS.zh, (Good.bnd hm).imp (fun r5 hm => fun Z6 H7 st8 => ?_) hWE⟩⟩⟩⟩⟩
    have hS := hS.step st8
    refine (tgt1 ?_)
    refine ⟨_, rfl, ⟨_, rfl, ⟨trivial, ⟨trivial, ⟨_, _, _, _, rfl, hS.zh, (hS.fact 0 rfl), (Good.bnd hm).imp (fun r9 hm => fun Z11 H12 st13 => ?_) hWE⟩⟩⟩⟩⟩
    have hS := hS.step st13
    refine ⟨trivial, ⟨_, _, _, rfl, hS.zh, (Good.bnd hm).imp (fun r10 hm => fun v17 Z14 H15 st16 hv17 => ?_) hWE⟩⟩
    have hS := (hS.step st16).tel (a := r10) hv17
    refine (tgt1 ?_)
    refine ⟨_, rfl, ⟨trivial, ⟨trivial, ⟨_, _, _, _, rfl, hS.zh, (hS.fact 1 rfl), (Good.bnd hm).imp (fun r18 hm => fun Z19 H20 st21 => ?_) hWE⟩⟩⟩⟩
    have hS := hS.step st21
    refine (tgt1 ?_)
    refine ⟨_, rfl, ⟨trivial, ⟨_, _, _, rfl, hS.zh, (hS.fact 1 rfl), (Good.bnd hm).imp (fun r22 hm => fun v26 Z23 H24 st25 hv26 => ?_) hWE⟩⟩⟩
    have hS := (hS.step st25).tel (a := r22) hv26
    obtain ⟨g27, hm⟩ := Good.chk hm
    refine (tgtL5 hS.zh (hS.fact 0 rfl) g27 fun z43 e28 z44 e29 z45 e30 z46 e31 z47 e32 v33 v34 v35 v36 v37 h38 h39 h40 h41 h42 => ?_)
    subst e28
    subst e29
    subst e30
    subst e31
    subst e32
    obtain ⟨g48, hm⟩ := Good.chk hm
    have h38 := fdAllOf (α := ((Int × Int) × Str)) g48 h38
    obtain ⟨picks_49, en50⟩ : ∃ z, z = ((fdAll (α := ((Int × Int) × Str)) (getI r22 0)).getD []) := ⟨_, rfl⟩
    rw [← en50] at h38; have hm := Good.vl en50 hm
    have hS := hS.tel (a := picks_49) h38
    obtain ⟨g51, hm⟩ := Good.chk hm
    have h39 := fdAllOf (α := (Int × Int)) g51 h39
    obtain ⟨order_52, en53⟩ : ∃ z, z = ((fdAll (α := (Int × Int)) (getI r22 1)).getD []) := ⟨_, rfl⟩
    rw [← en53] at h39; have hm := Good.vl en53 hm
    have hS := hS.tel (a := order_52) h39
    obtain ⟨g54, hm⟩ := Good.chk hm
    have h40 := fdAllOf (α := (T4 (Int × Int) (Int × Int) Str (Int × Int))) g54 h40
    obtain ⟨works_55, en56⟩ : ∃ z, z = ((fdAll (α := (T4 (Int × Int) (Int × Int) Str (Int × Int))) (getI r22 2)).getD []) := ⟨_, rfl⟩
    rw [← en56] at h40; have hm := Good.vl en56 hm
    have hS := hS.tel (a := works_55) h40
    obtain ⟨g57, hm⟩ := Good.chk hm
    have h41 := fdAllOf (α := (Int × Int)) g57 h41
    obtain ⟨totals_58, en59⟩ : ∃ z, z = ((fdAll (α := (Int × Int)) (getI r22 3)).getD []) := ⟨_, rfl⟩
    rw [← en59] at h41; have hm := Good.vl en59 hm
    have hS := hS.tel (a := totals_58) h41
    obtain ⟨g60, hm⟩ := Good.chk hm
    have h42 := fdAllOf (α := (Int × Int)) g60 h42
    obtain ⟨wires_61, en62⟩ : ∃ z, z = ((fdAll (α := (Int × Int)) (getI r22 4)).getD []) := ⟨_, rfl⟩
    rw [← en62] at h42; have hm := Good.vl en62 hm
    have hS := hS.tel (a := wires_61) h42
    refine ⟨fun σj Hj => ∃ Zr_ : Hp, ∃ (picks_63 : (List ((Int × Int) × Str))) (order_64 : (List (Int × Int))) (totals_65 : (List (Int × Int))) (works_66 : (List (T4 (Int × Int) (Int × Int) Str (Int × Int)))) (middle_here_67 : PyData) (v68 : V) (v69 : V) (v70 : V) (v71 : V) (v72 : V) (w_law_turned_here : Option V) (w_law_to : Option V) (w_law_one : Option V) (w_law_word : Option V) (w_law_other_here : Option V) (w_law_at : Option V), σj = [some v_law_script, some (.int r1), some (.str r5), some v72, some (.int r18), some v68, some v69, some v71, some v70, some v37, w_law_turned_here, w_law_to, w_law_one, w_law_word, w_law_other_here, w_law_at, none, none, none, none, none, none, none] ∧ Sep K Z0 H0 Zr_ Hj [⟨(Sh.told (α := (List ((Int × Int) × Str)))), v68, picks_63⟩, ⟨(Sh.told (α := (List (Int × Int)))), v69, order_64⟩, ⟨(Sh.told (α := (List (Int × Int)))), v70, totals_65⟩, ⟨(Sh.told (α := (List (T4 (Int × Int) (Int × Int) Str (Int × Int))))), v71, works_66⟩, ⟨(Sh.told (α := PyData)), v72, middle_here_67⟩, ⟨(Sh.told (α := Scr)), v_law_script, a_law_script⟩, ⟨(Sh.told (α := (List (Int × Int)))), v37, wires_61⟩] ∧ (Good (m_law_parts_j0 r5 r18 wires_61 picks_63 order_64 totals_65 works_66 middle_here_67) W WE), ?_, fun σj Hj hj => ?_⟩
    · skip
      obtain ⟨W73, hm, hWW73⟩ := Good.bndW hm
      refine ⟨_, rfl, ⟨trivial, ⟨_, _, rfl, rfl, (show (0 : Int) < (2 : Int) from (by decide)), ⟨trivial, (k_eqI ⟨_, rfl, (ite2 (fun e74 => ?_) (fun e75 => ?_))⟩)⟩⟩⟩⟩
      · skip
        have hm := Good.ifT e74 hm
        obtain ⟨g83, hm⟩ := Good.chk hm
        obtain ⟨a85, xs86, ev87, hz88, pr89⟩ := pyL (hS.fact 4 rfl)
        obtain ⟨W103, hmc, hWW103⟩ := Good.bndW hm
        refine ⟨_, rfl, ⟨_, ev87, ⟨_, SqL.of (hS.zh _ _ hz88)⟩, (lcMK (K := K) (src_list hz88 pr89) hS.zh _ g83 (hmc.imp (fun _ h_ => h_) hWE) (fun q76 x90 Z91 H92 H93 C94 N95 Wo101 mem96 st97 y98 hm102 kC99 kN100 => ?_) (fun r84 wW103 => (New.tel fun v107 Z104 H105 st106 hv107 => ?_)))⟩⟩
        · skip
          have hS := hS.step st97
          have sx_ := Step.refl hS.zh
          have hm := hm102
          have hWE : ∀ e_, NoE e_ → False := fun _ h => h
          obtain ⟨rfl, ht_⟩ := y98
          refine (tgtP hS.zh (Py.mono st97.zz ht_) fun a110 e108 a111 e109 v77 v79 h78 h80 => ?_)
          subst e108
          have hS := hS.tel (a := q76.1) h78
          subst e109
          obtain rfl : v79 = (.str q76.2) := h80
          refine ⟨(by first | exact wipe_e1 (by decide) | exact wipe_e2 (by decide) (by decide) | rfl), ?_⟩
          conv in (List.set _ _ _) => simp only [L2.wipe, L2.start, List.set_cons_succ, List.set_cons_zero, List.map_cons, List.map_nil, List.length_cons, List.length_nil, List.replicate, List.cons_append, List.nil_append, Nat.add_sub_cancel, Nat.reduceAdd, Nat.reduceSub]
          refine (yesK ⟨_, rfl, ⟨trivial, ⟨_, _, _, rfl, hS.zh, h78, (Good.bnd hm).imp (fun r81 hm => fun v115 Z112 H113 st114 hv115 => ?_) hWE⟩⟩⟩)
          have hS := hS.tel (a := q76.1) h78
          have sx_ := sx_.trans st114
          have hS := (hS.step st114).tel (a := r81) hv115
          obtain ⟨g82, hm⟩ := Good.chk hm
          refine ⟨_, rfl, ⟨_, rfl, g82, ⟨trivial, (k_tup (K := K) (a := r81) (b := (revS q76.2)) hS.zh (hS.fact 0 rfl) rfl (fun v119 Z116 H117 st118 hv119 => ?_))⟩⟩⟩
          have sx_ := sx_.trans st118
          have hS := (hS.step st118).tel (a := (r81, (revS q76.2))) hv119
          refine (kC99 _ hm _ _ _ sx_ (hS.fact 0 rfl))
        have hm := hWW103 _ wW103
        have hS := (hS.step st106).tel (a := r84) hv107
        refine (tgt1 ?_)
        obtain ⟨g124, hm⟩ := Good.chk hm
        obtain ⟨a126, xs127, ev128, hz129, pr130⟩ := pyL (hS.fact 4 rfl)
        obtain ⟨W144, hmc, hWW144⟩ := Good.bndW hm
        refine ⟨_, rfl, ⟨_, ev128, ⟨_, SqL.of (hS.zh _ _ hz129)⟩, (lcMK (K := K) (src_list hz129 pr130) hS.zh _ g124 (hmc.imp (fun _ h_ => h_) hWE) (fun field_120 x131 Z132 H133 H134 C135 N136 Wo142 mem137 st138 y139 hm143 kC140 kN141 => ?_) (fun r125 wW144 => (New.tel fun v148 Z145 H146 st147 hv148 => ?_)))⟩⟩
        · skip
          have hS := hS.step st138
          have sx_ := Step.refl hS.zh
          have hm := hm143
          have hWE : ∀ e_, NoE e_ → False := fun _ h => h
          obtain ⟨rfl, h122⟩ := y139
          have h122 := Py.mono st138.zz h122
          have hS := hS.tel h122
          refine (tgt1 ?_)
          refine ⟨(by first | exact wipe_e1 (by decide) | exact wipe_e2 (by decide) (by decide) | rfl), ?_⟩
          conv in (List.set _ _ _) => simp only [L2.wipe, L2.start, List.set_cons_succ, List.set_cons_zero, List.map_cons, List.map_nil, List.length_cons, List.length_nil, List.replicate, List.cons_append, List.nil_append, Nat.add_sub_cancel, Nat.reduceAdd, Nat.reduceSub]
          refine (yesK ⟨_, rfl, ⟨trivial, ⟨_, _, _, rfl, hS.zh, h122, (Good.bnd hm).imp (fun r123 hm => fun v152 Z149 H150 st151 hv152 => ?_) hWE⟩⟩⟩)
          have hS := hS.tel (a := field_120) h122
          have sx_ := sx_.trans st151
          have hS := (hS.step st151).tel (a := r123) hv152
          refine (kC140 _ hm _ _ _ sx_ (hS.fact 0 rfl))
        have hm := hWW144 _ wW144
        have hS := (hS.step st147).tel (a := r125) hv148
        refine (tgt1 ?_)
        obtain ⟨g157, hm⟩ := Good.chk hm
        obtain ⟨a159, xs160, ev161, hz162, pr163⟩ := pyL (hS.fact 3 rfl)
        obtain ⟨W177, hmc, hWW177⟩ := Good.bndW hm
        refine ⟨_, rfl, ⟨_, ev161, ⟨_, SqL.of (hS.zh _ _ hz162)⟩, (lcMK (K := K) (src_list hz162 pr163) hS.zh _ g157 (hmc.imp (fun _ h_ => h_) hWE) (fun field_153 x164 Z165 H166 H167 C168 N169 Wo175 mem170 st171 y172 hm176 kC173 kN174 => ?_) (fun r158 wW177 => (New.tel fun v181 Z178 H179 st180 hv181 => ?_)))⟩⟩
        · skip
          have hS := hS.step st171
          have sx_ := Step.refl hS.zh
          have hm := hm176
          have hWE : ∀ e_, NoE e_ → False := fun _ h => h
          obtain ⟨rfl, h155⟩ := y172
          have h155 := Py.mono st171.zz h155
          have hS := hS.tel h155
          refine (tgt1 ?_)
          refine ⟨(by first | exact wipe_e1 (by decide) | exact wipe_e2 (by decide) (by decide) | rfl), ?_⟩
          conv in (List.set _ _ _) => simp only [L2.wipe, L2.start, List.set_cons_succ, List.set_cons_zero, List.map_cons, List.map_nil, List.length_cons, List.length_nil, List.replicate, List.cons_append, List.nil_append, Nat.add_sub_cancel, Nat.reduceAdd, Nat.reduceSub]
          refine (yesK ⟨_, rfl, ⟨trivial, ⟨_, _, _, rfl, hS.zh, h155, (Good.bnd hm).imp (fun r156 hm => fun v185 Z182 H183 st184 hv185 => ?_) hWE⟩⟩⟩)
          have hS := hS.tel (a := field_153) h155
          have sx_ := sx_.trans st184
          have hS := (hS.step st184).tel (a := r156) hv185
          refine (kC173 _ hm _ _ _ sx_ (hS.fact 0 rfl))
        have hm := hWW177 _ wW177
        have hS := (hS.step st180).tel (a := r158) hv181
        refine (tgt1 ?_)
        refine ⟨trivial, (k_lst (K := K) (m := ([] : (List (T4 (Int × Int) (Int × Int) Str (Int × Int))))) hS.zh .nil (Nat.le_of_ble_eq_true rfl) (New.gen fun turned_here_186 en187 => New.ownS fun p191 ps192 Z188 H189 st190 o193 => ?_))⟩
        have hS := hS.own st190 o193
        refine (tgt1 ?_)
        have hm := Good.vl en187 hm
        obtain ⟨a194, xs195, ev196, hz197, pr198⟩ := pyL (hS.fact 6 rfl)
        obtain ⟨W202, hm, hWW202⟩ := Good.bndW hm
        refine ⟨_, rfl, ⟨_, ev196, ⟨_, SqL.of (hS.zh _ _ hz197)⟩, (forK (Z := Z188) (L := works_55) (src_list hz197 pr198) (fun rr σr Hr Zr => (∃ (turned_here_199 : (List (T4 (Int × Int) (Int × Int) Str (Int × Int)))) (v200 : V) (w_law_to : Option V) (w_law_one : Option V) (w_law_word : Option V) (w_law_other_here : Option V), σr = [some v_law_script, some (.int r1), some (.str r5), some v17, some (.int r18), some v107, some v148, some v35, some v181, some v37, some v200, w_law_to, w_law_one, w_law_word, w_law_other_here, none, none, none, none, none, none, none, none] ∧ Sep K Z0 H0 Zr Hr [⟨(Sh.lt (T4 (Int × Int) (Int × Int) Str (Int × Int))), v200, turned_here_199⟩, ⟨(Sh.told (α := Scr)), v_law_script, a_law_script⟩, ⟨(Sh.told (α := PyData)), v17, r10⟩, ⟨(Sh.told (α := (List ((Int × Int) × Str)))), v107, r84⟩, ⟨(Sh.told (α := (List (Int × Int)))), v148, r125⟩, ⟨(Sh.told (α := (List (T4 (Int × Int) (Int × Int) Str (Int × Int))))), v35, works_55⟩, ⟨(Sh.told (α := (List (Int × Int)))), v181, r158⟩, ⟨(Sh.told (α := (List (Int × Int)))), v37, wires_61⟩] ∧ Same Z188 Zr ∧ (Good (forR (fun (s_ : (List (T4 (Int × Int) (Int × Int) Str (Int × Int)))) (q_ : (T4 (Int × Int) (Int × Int) Str (Int × Int))) => m_law_parts_b0 s_ q_.x1 q_.x2 q_.x3 q_.x4) turned_here_199 rr) W202 WE))) ?_ ?_ ?_ ?_)⟩⟩
        · rintro rr σr Hr Zr hk
          obtain ⟨turned_here_199, v200, w_law_to, w_law_one, w_law_word, w_law_other_here, rfl, hS, sm201, hm⟩ := hk
          obtain ⟨p263, er_⟩ := hS.ref 0 rfl
          subst er_
          exact ⟨sm201, hS.zh⟩
        · exact ⟨Z188, turned_here_186, ((.ref p191)), (none), (none), (none), (none), rfl, hS.pick [0, 11, 10, 3, 2, 6, 1, 4] (by decide) rfl, Same.refl _, hm⟩
        · skip
          intro q207 r208 x209 sg210 H211 H212 Z213 mem214 dec215 hp216 y217
          obtain ⟨to_203, one_204, word_205, other_here_206⟩ := q207
          obtain ⟨turned_here_199, v200, w_law_to, w_law_one, w_law_word, w_law_other_here, rfl, hS, sm201, hm⟩ := hp216
          obtain ⟨p218, er_⟩ := hS.ref 0 rfl
          subst er_
          obtain ⟨W219, hm, hn220⟩ := Good.forR hm
          have hm : Good (m_law_parts_b0 turned_here_199 to_203 one_204 word_205 other_here_206) _ _ := hm; unfold m_law_parts_b0 at hm
          obtain ⟨rfl, ht_⟩ := y217
          refine (tgt4 hS.zh (Py.mono sm201 ht_) fun a235 e231 a236 e232 a237 e233 a238 e234 v223 v225 v227 v229 h224 h226 h228 h230 => ?_)
          obtain rfl : to_203 = a235 := e231.symm
          have hS := hS.tel (a := to_203) h224
          obtain rfl : one_204 = a236 := e232.symm
          have hS := hS.tel (a := one_204) h226
          obtain rfl : word_205 = a237 := e233.symm
          obtain rfl : v227 = (.str word_205) := h228
          obtain rfl : other_here_206 = a238 := e234.symm
          have hS := hS.tel (a := other_here_206) h230
          refine ⟨_, rfl, ⟨tyO (hS.L 3 rfl), ⟨_, rfl, ⟨trivial, ⟨_, _, _, rfl, hS.zh, (hS.fact 2 rfl), (Good.bnd hm).imp (fun r239 hm => fun v245 Z242 H243 st244 hv245 => ?_) hWE⟩⟩⟩⟩⟩
          have sm201 := sm201.trans st244.zz
          have hS := (hS.step st244).tel (a := r239) hv245
          refine ⟨_, rfl, ⟨trivial, ⟨_, _, _, rfl, hS.zh, (hS.fact 2 rfl), (Good.bnd hm).imp (fun r240 hm => fun v249 Z246 H247 st248 hv249 => ?_) hWE⟩⟩⟩
          have sm201 := sm201.trans st248.zz
          have hS := (hS.step st248).tel (a := r240) hv249
          refine ⟨_, rfl, ⟨_, rfl, ⟨trivial, ⟨_, _, _, rfl, hS.zh, (hS.fact 2 rfl), (Good.bnd hm).imp (fun r241 hm => fun v253 Z250 H251 st252 hv253 => ?_) hWE⟩⟩⟩⟩
          have sm201 := sm201.trans st252.zz
          have hS := (hS.step st252).tel (a := r241) hv253
          refine ⟨trivial, (k_tup4 (K := K) (a := r239) (b := r240) (c := word_205) (d := r241) hS.zh (hS.fact 2 rfl) (hS.fact 1 rfl) rfl (hS.fact 0 rfl) (fun v257 Z254 H255 st256 hv257 => ?_))⟩
          have sm201 := sm201.trans st256.zz
          have hS := (hS.step st256).tel (a := (⟨r239, r240, word_205, r241⟩ : (T4 (Int × Int) (Int × Int) Str (Int × Int)))) hv257
          obtain ⟨g260, hm⟩ := Good.chk hm
          refine ⟨trivial, (k_append (a := (⟨r239, r240, word_205, r241⟩ : (T4 (Int × Int) (Int × Int) Str (Int × Int)))) (hS.L 7 rfl) (hS.fact 0 rfl) g260 fun u258 o259 => ?_)⟩
          have hS := hS.mutL 7 rfl o259; dsimp only [List.set] at hS
          obtain ⟨turned_here_261, en262⟩ : ∃ z, z = (turned_here_199 ++ [(⟨r239, r240, word_205, r241⟩ : (T4 (Int × Int) (Int × Int) Str (Int × Int)))]) := ⟨_, rfl⟩
          rw [← en262] at hS
          have hm := Good.vl en262 hm
          have hm := hn220 _ hm
          exact ⟨_, turned_here_261, ((.ref p218)), (some v223), (some v225), (some (.str word_205)), (some v229), rfl, hS.pick [7, 8, 9, 10, 11, 12, 13, 14] (by decide) rfl, sm201, hm⟩
        · intro sg264 H265 Z266 hp267
          obtain ⟨turned_here_199, v200, w_law_to, w_law_one, w_law_word, w_law_other_here, rfl, hS, sm201, hm⟩ := hp267
          obtain ⟨p268, er_⟩ := hS.ref 0 rfl
          subst er_
          have hm := hWW202 _ hm
          refine ⟨_, rfl, (tgt1 ?_)⟩
          obtain ⟨Z269, s270, hS⟩ := hS.tell 0 rfl; dsimp only [List.set] at hS
          refine ⟨_, rfl, ⟨trivial, (k_notNd (hS.fact 2 rfl) ⟨_, rfl, (ite2 (fun e271 => ?_) (fun e272 => ?_))⟩)⟩⟩
          · skip
            have hm := Good.ifT e271 hm
            obtain ⟨g273, hm⟩ := Good.chk hm
            obtain ⟨g274, hm⟩ := Good.chk hm
            refine ⟨_, rfl, ⟨trivial, (k_lenD hS.zh (hS.fact 2 rfl) g273 ⟨trivial, ⟨_, _, rfl, rfl, ⟨_, rfl, ⟨trivial, (k_lenD hS.zh (hS.fact 2 rfl) g274 ⟨trivial, (k_eqI ⟨trivial, ⟨_, rfl, ⟨_, _, rfl, rfl, (storeI fun at_275 en276 => ?_)⟩⟩⟩)⟩)⟩⟩⟩⟩)⟩⟩
            have hm := Good.vl en276 hm
            obtain ⟨g277, hm⟩ := Good.chk hm
            refine ⟨_, rfl, ⟨trivial, ⟨_, rfl, ⟨_, rfl, (k_slTL hS.zh (fdOf (α := (TL PyData)) g277 (hS.fact 2 rfl)) (fun v292 Z289 H290 st291 hv292 => ?_))⟩⟩⟩⟩
            have hS := (hS.step st291).tel (a := (⟨cutL ((FromD.fd (α := (TL PyData)) r10).getD default).l none (some at_275)⟩ : (TL PyData))) hv292
            obtain ⟨g280, hm⟩ := Good.chk hm
            obtain ⟨g281, hm⟩ := Good.chk hm
            refine ⟨_, rfl, ⟨_, rfl, (k_ixDT (α := (Int × Int)) hS.zh (hS.fact 3 rfl) g280.1 g280.2 g281 (fun y282 hy282 => ⟨trivial, ⟨_, _, _, rfl, hS.zh, hy282, (Good.bnd hm).imp (fun r283 hm => fun v296 Z293 H294 st295 hv296 => ?_) hWE⟩⟩))⟩⟩
            have hS := hS.tel (a := ((FromD.fd (α := (Int × Int)) (dyAt r10 at_275)).getD default)) hy282
            have hS := (hS.step st295).tel (a := r283) hv296
            refine ⟨trivial, (k_tupTL (K := K) (m := [(ToD.td (r283 : (Int × Int)))]) hS.zh (.cons (ToD.tr (α := (Int × Int)) (a := r283) (hS.fact 0 rfl)) .nil) (Nat.le_of_ble_eq_true rfl) (fun v300 Z297 H298 st299 hv300 => ?_))⟩
            have hS := (hS.step st299).tel (a := (⟨[(ToD.td (r283 : (Int × Int)))]⟩ : (TL PyData))) hv300
            obtain ⟨g284, hm⟩ := Good.chk hm
            refine (k_catTL hS.zh (hS.fact 3 rfl) (hS.fact 0 rfl) g284 (fun v304 Z301 H302 st303 hv304 => ?_))
            have hS := (hS.step st303).tel (a := (⟨(⟨cutL ((FromD.fd (α := (TL PyData)) r10).getD default).l none (some at_275)⟩ : (TL PyData)).l ++ (⟨[(ToD.td (r283 : (Int × Int)))]⟩ : (TL PyData)).l⟩ : (TL PyData))) hv304
            obtain ⟨g285, hm⟩ := Good.chk hm
            refine ⟨_, rfl, ⟨_, rfl, ⟨trivial, ⟨_, _, rfl, rfl, ⟨_, rfl, ⟨trivial, (k_slTL hS.zh (fdOf (α := (TL PyData)) g285 (hS.fact 7 rfl)) (fun v308 Z305 H306 st307 hv308 => ?_))⟩⟩⟩⟩⟩⟩
            have hS := (hS.step st307).tel (a := (⟨cutL ((FromD.fd (α := (TL PyData)) r10).getD default).l (some (at_275 + (1 : Int))) none⟩ : (TL PyData))) hv308
            obtain ⟨g286, hm⟩ := Good.chk hm
            refine (k_catTL hS.zh (hS.fact 1 rfl) (hS.fact 0 rfl) g286 (fun v312 Z309 H310 st311 hv312 => ?_))
            have hS := (hS.step st311).tel (a := (⟨(⟨(⟨cutL ((FromD.fd (α := (TL PyData)) r10).getD default).l none (some at_275)⟩ : (TL PyData)).l ++ (⟨[(ToD.td (r283 : (Int × Int)))]⟩ : (TL PyData)).l⟩ : (TL PyData)).l ++ (⟨cutL ((FromD.fd (α := (TL PyData)) r10).getD default).l (some (at_275 + (1 : Int))) none⟩ : (TL PyData)).l⟩ : (TL PyData))) hv312
            refine (tgt1 ?_)
            obtain ⟨middle_here_287, en288⟩ : ∃ z, z = (ToD.td ((⟨(⟨(⟨cutL ((FromD.fd (α := (TL PyData)) r10).getD default).l none (some at_275)⟩ : (TL PyData)).l ++ (⟨[(ToD.td (r283 : (Int × Int)))]⟩ : (TL PyData)).l⟩ : (TL PyData)).l ++ (⟨cutL ((FromD.fd (α := (TL PyData)) r10).getD default).l (some (at_275 + (1 : Int))) none⟩ : (TL PyData)).l⟩ : (TL PyData)) : (TL PyData))) := ⟨_, rfl⟩
            have hS := hS.tel (v := v312) (a := middle_here_287) (by rw [en288]; exact (ToD.tr (α := (TL PyData)) (a := (⟨(⟨(⟨cutL ((FromD.fd (α := (TL PyData)) r10).getD default).l none (some at_275)⟩ : (TL PyData)).l ++ (⟨[(ToD.td (r283 : (Int × Int)))]⟩ : (TL PyData)).l⟩ : (TL PyData)).l ++ (⟨cutL ((FromD.fd (α := (TL PyData)) r10).getD default).l (some (at_275 + (1 : Int))) none⟩ : (TL PyData)).l⟩ : (TL PyData))) (hS.fact 0 rfl)))
            have hm := Good.vl en288 hm
            have hm := hWW73 _ hm
            exact ⟨_, r84, r125, r158, turned_here_199, middle_here_287, (v107), (v148), (v181), ((.ref p268)), (v312), (some (.ref p268)), (w_law_to), (w_law_one), (w_law_word), (w_law_other_here), (some (.int at_275)), rfl, hS.pick [11, 12, 14, 8, 0, 9, 15] (by decide) rfl, hm⟩
          · skip
            have hm := Good.ifF e272 hm
            have hm := hWW73 _ hm
            exact ⟨_, r84, r125, r158, turned_here_199, r10, (v107), (v148), (v181), ((.ref p268)), (v17), (some (.ref p268)), (w_law_to), (w_law_one), (w_law_word), (w_law_other_here), (none), rfl, hS.pick [3, 4, 6, 0, 2, 1, 7] (by decide) rfl, hm⟩
      · skip
        have hm := Good.ifF e75 hm
        have hm := hWW73 _ hm
        exact ⟨_, picks_49, order_52, totals_58, works_55, r10, (v33), (v34), (v36), (v35), (v17), (none), (none), (none), (none), (none), (none), rfl, hS.pick [4, 3, 1, 2, 6, 7, 0] (by decide) rfl, hm⟩
    · skip
      obtain ⟨Zj_, picks_63, order_64, totals_65, works_66, middle_here_67, v68, v69, v70, v71, v72, w_law_turned_here, w_law_to, w_law_one, w_law_word, w_law_other_here, w_law_at, rfl, hS, hm⟩ := hj
      unfold m_law_parts_j0 at hm
      obtain ⟨g316, hm⟩ := Good.chk hm
      obtain ⟨a325, xs326, ev327, hz328, pr329⟩ := pyL (hS.fact 6 rfl)
      refine ⟨_, rfl, ⟨_, ev327, ⟨_, SqL.of (hS.zh _ _ hz328)⟩, (lcKQ (K := K) (src_list hz328 pr329) hS.zh (fun (wire_313 : (Int × Int)) => ((wire_313).2, (wire_313).1)) (fun _ => true) g316 (fun wire_313 x330 Z331 H332 H333 C334 N335 mem336 st337 y338 kC339 kN340 => ?_) (New.all (New.tel fun v346 Z343 H344 st345 hv346 => ?_)))⟩⟩
      · skip
        have hS := hS.step st337
        have sx_ := Step.refl hS.zh
        obtain ⟨rfl, h315⟩ := y338
        have h315 := Py.mono st337.zz h315
        have hS := hS.tel h315
        refine (tgt1 ?_)
        refine ⟨(by first | exact wipe_e1 (by decide) | exact wipe_e2 (by decide) (by decide) | rfl), ?_⟩
        conv in (List.set _ _ _) => simp only [L2.wipe, L2.start, List.set_cons_succ, List.set_cons_zero, List.map_cons, List.map_nil, List.length_cons, List.length_nil, List.replicate, List.cons_append, List.nil_append, Nat.add_sub_cancel, Nat.reduceAdd, Nat.reduceSub]
        refine (yesK ⟨_, rfl, ⟨trivial, (k_sndS hS.zh h315 ⟨_, rfl, ⟨trivial, (k_fstS hS.zh h315 ⟨trivial, (k_tup (K := K) (a := (wire_313).2) (b := (wire_313).1) hS.zh rfl rfl (fun v350 Z347 H348 st349 hv350 => ?_))⟩)⟩⟩)⟩⟩)
        have sx_ := sx_.trans st349
        have hS := (hS.step st349).tel (a := ((wire_313).2, (wire_313).1)) hv350
        refine (kC339 _ _ _ sx_ rfl (hS.fact 0 rfl))
      have hS := (hS.step st345).tel (a := (wires_61.map (fun (wire_313 : (Int × Int)) => ((wire_313).2, (wire_313).1)))) hv346
      refine ⟨trivial, (k_sortP hS.zh (RO.tell hS.zh (hS.fact 0 rfl)) (New.tel fun v354 Z351 H352 st353 hv354 => ?_))⟩
      have hS := (hS.step st353).tel (a := (sortP (wires_61.map (fun (wire_313 : (Int × Int)) => ((wire_313).2, (wire_313).1))))) hv354
      obtain ⟨g322, hm⟩ := Good.chk hm
      obtain ⟨a355, xs356, ev357, hz358, pr359⟩ := pyL (hS.fact 0 rfl)
      refine ⟨_, ev357, ⟨_, SqL.of (hS.zh _ _ hz358)⟩, (lcKQ (K := K) (src_list hz358 pr359) hS.zh (fun (q317 : (Int × Int)) => (q317.2, q317.1)) (fun _ => true) g322 (fun q317 x360 Z361 H362 H363 C364 N365 mem366 st367 y368 kC369 kN370 => ?_) (New.all (New.gen fun wired_323 en324 => New.tel fun v376 Z373 H374 st375 hv376 => ?_)))⟩
      · skip
        have hS := hS.step st367
        have sx_ := Step.refl hS.zh
        obtain ⟨rfl, ht_⟩ := y368
        refine (tgtP hS.zh (Py.mono st367.zz ht_) fun a379 e377 a380 e378 v318 v320 h319 h321 => ?_)
        subst e377
        obtain rfl : v318 = (.int q317.1) := h319
        subst e378
        obtain rfl : v320 = (.int q317.2) := h321
        refine ⟨(by first | exact wipe_e1 (by decide) | exact wipe_e2 (by decide) (by decide) | rfl), ?_⟩
        conv in (List.set _ _ _) => simp only [L2.wipe, L2.start, List.set_cons_succ, List.set_cons_zero, List.map_cons, List.map_nil, List.length_cons, List.length_nil, List.replicate, List.cons_append, List.nil_append, Nat.add_sub_cancel, Nat.reduceAdd, Nat.reduceSub]
        refine (yesK ⟨_, rfl, ⟨_, rfl, ⟨trivial, (k_tup (K := K) (a := q317.2) (b := q317.1) hS.zh rfl rfl (fun v384 Z381 H382 st383 hv384 => ?_))⟩⟩⟩)
        have sx_ := sx_.trans st383
        have hS := (hS.step st383).tel (a := (q317.2, q317.1)) hv384
        refine (kC369 _ _ _ sx_ rfl (hS.fact 0 rfl))
      have hS := (hS.step st375).tel (a := wired_323) hv376
      refine (tgt1 ?_)
      have hm := Good.vl en324 hm
      have hS := hS.drop1
      have hS := hS.drop1
      obtain ⟨g385, hm⟩ := Good.chk hm
      refine ⟨_, rfl, ⟨trivial, ⟨_, rfl, ⟨trivial, (k_lenQ hS.zh (hS.fact 2 rfl) ⟨trivial, ⟨_, _, rfl, ⟨trivial, ⟨_, _, rfl, rfl, ⟨_, _, rfl, rfl, (show (0 : Int) < ((min2 (3 : Int) ((order_64).length : Int)) + (1 : Int)) from g385), (storeI fun broken_386 en387 => ?_)⟩⟩⟩⟩⟩)⟩⟩⟩⟩
      have hm := Good.vl en387 hm
      refine ⟨_, rfl, ⟨_, rfl, ⟨_, rfl, ⟨_, rfl, ⟨_, rfl, ⟨_, rfl, ⟨_, rfl, ⟨trivial, ⟨_, rfl, ⟨trivial, ⟨_, _, rfl, rfl, ⟨by decide, by decide⟩, ⟨trivial, ⟨_, _, rfl, rfl, (show (0 : Int) < (12 : Int) from (by decide)), ⟨_, _, rfl, rfl, ⟨_, rfl, ⟨trivial, (k_lst (K := K) (m := [(ToD.td (r5 : Str)), (ToD.td (picks_63 : (List ((Int × Int) × Str)))), middle_here_67, (ToD.td (order_64 : (List (Int × Int)))), (ToD.td (works_66 : (List (T4 (Int × Int) (Int × Int) Str (Int × Int))))), (ToD.td (broken_386 : Int)), (ToD.td (totals_65 : (List (Int × Int)))), (ToD.td (((1 : Int) + ((r18 / (4 : Int)) % (12 : Int))) : Int)), (ToD.td (wired_323 : (List (Int × Int))))]) hS.zh (.cons (ToD.tr (α := Str) (a := r5) rfl) (.cons (ToD.tr (α := (List ((Int × Int) × Str))) (a := picks_63) (hS.fact 1 rfl)) (.cons (hS.fact 5 rfl) (.cons (ToD.tr (α := (List (Int × Int))) (a := order_64) (hS.fact 2 rfl)) (.cons (ToD.tr (α := (List (T4 (Int × Int) (Int × Int) Str (Int × Int)))) (a := works_66) (hS.fact 4 rfl)) (.cons (ToD.tr (α := Int) (a := broken_386) rfl) (.cons (ToD.tr (α := (List (Int × Int))) (a := totals_65) (hS.fact 3 rfl)) (.cons (ToD.tr (α := Int) (a := ((1 : Int) + ((r18 / (4 : Int)) % (12 : Int)))) rfl) (.cons (ToD.tr (α := (List (Int × Int))) (a := wired_323) (hS.fact 0 rfl)) .nil))))))))) (Nat.le_of_ble_eq_true rfl) (New.ownS fun p391 ps392 Z388 H389 st390 o393 => ?_))⟩⟩⟩⟩⟩⟩⟩⟩⟩⟩⟩⟩⟩⟩⟩⟩
      have hS := hS.own st390 o393
      obtain ⟨ps_, o_⟩ := hS.nth 0 rfl
      exact hW _ hm _ _ _ _ hS.st o_
theorem ok_law_parts {f : Addr} {fd : FuncData} (F : Fun K "_law_parts" "_law_parts" (topS 37) f fd) (gm : mg "_law_parts" = some (.ref f)) (T : Txt K mg ca cb) (C_law_cell_at : Cal P w K mg base CX0 "_law_cell_at" 1 ["_law_script", "_law_k"] (sp_law_cell_at K ca)) (C_law_name : Cal P w K mg base CX0 "_law_name" 1 ["_law_cell"] (sp_law_name K ca)) (C_law_middle : Cal P w K mg base CX0 "_law_middle" 2 ["_law_name_here", "_law_cell"] (sp_law_middle K ca)) (C_law_drawn : Cal P w K mg base CX0 "_law_drawn" 3 ["_law_script"] (sp_law_drawn K ca)) (C_law_turned : Cal P w K mg base CX0 "_law_turned" 1 ["_law_field"] (sp_law_turned K ca)) : Cal P w K mg base CX0 "_law_parts" 4 ["_law_script"] (sp_law_parts K ca) :=
  ⟨⟨f, fd, okf_law_parts F T C_law_cell_at C_law_name C_law_middle C_law_drawn C_law_turned, gm, F.kp, F.binds (ps := ["_law_script"]) fun _ _ _ _ _ _ us hl => match us, hl with | [_], _ => rfl⟩⟩
theorem sc_law_told : FnScope ["_law_asking", "_law_told_here"] ["_law_asking"] (defScope (topS 38)) := ⟨rfl, rfl, rfl, by decide +kernel, rfl, by decide +kernel, by decide +kernel⟩
theorem okf_law_told {f : Addr} {fd : FuncData} (F : Fun K "_law_told" "_law_told" (topS 38) f fd) (T : Txt K mg ca cb) : FnOk P w K mg base CX0 1 f fd ["_law_asking"] (sp_law_told K ca) := by
  refine F.ok sc_law_told (fun vs H0 Q E h => ?_) (fun cdv A outer s H0 vs Q E hr h => ?_)
  · obtain ⟨Z0, a_law_asking, v_law_asking, rfl, _⟩ := h
    rfl
  · obtain ⟨Z0, a_law_asking, v_law_asking, rfl, zh, h_law_asking, hm⟩ := h
    have nd := sc_law_told.nd
    have hm_ := hm.opn; clear hm; obtain ⟨W, WE, hm, hW, hWE⟩ := hm_
    have hS := Sep.start (K := K) zh
    have hS := hS.tel h_law_asking
    unfold m_law_told at hm
    refine ⟨_, (pss_cons (ps_set (i := 1) nd rfl (Or.inl rfl) (pe_lstQ (pa_cons (pe_fldK (K := K) rfl (pv 0) rfl) (pa_cons (pe_fldK (K := K) rfl (pv 0) rfl) (pa_cons (pe_fldK (K := K) rfl (pv 0) rfl) (pa_cons (pe_fldK (K := K) rfl (pv 0) rfl) (pa_cons (pe_fldK (K := K) rfl (pv 0) rfl) (pa_cons (pe_fldK (K := K) rfl (pv 0) rfl) pnK)))))))) (pss_one (ps_ret (pe_op op_cat (pv 1) (pe_lstQ (pa_cons (pe_fldK (K := K) rfl (pv 0) rfl) (pa_cons (pe_fldK (K := K) rfl (pv 0) rfl) (pa_cons (pe_fldK (K := K) rfl (pv 0) rfl) pnK)))))))), ?_⟩
    refine ⟨_, rfl, (fld_Asking_deck hS.zh (hS.fact 0 rfl) T.nk_Asking T.cl_Asking T.na_Asking_deck ⟨_, rfl, (fld_Asking_picks hS.zh (hS.fact 0 rfl) T.nk_Asking T.cl_Asking T.na_Asking_picks (fun y1 hy1 => ⟨_, rfl, (fld_Asking_middle hS.zh (hS.fact 0 rfl) T.nk_Asking T.cl_Asking T.na_Asking_middle (fun y2 hy2 => ⟨_, rfl, (fld_Asking_order hS.zh (hS.fact 0 rfl) T.nk_Asking T.cl_Asking T.na_Asking_order (fun y3 hy3 => ⟨_, rfl, (fld_Asking_works hS.zh (hS.fact 0 rfl) T.nk_Asking T.cl_Asking T.na_Asking_works (fun y4 hy4 => ⟨_, rfl, (fld_Asking_breaks hS.zh (hS.fact 0 rfl) T.nk_Asking T.cl_Asking T.na_Asking_breaks ⟨trivial, (k_lst (K := K) (m := [(ToD.td ((a_law_asking).deck : Str)), (ToD.td ((a_law_asking).picks : (List ((Int × Int) × Str)))), (a_law_asking).middle, (ToD.td ((a_law_asking).order : (List (Int × Int)))), (ToD.td ((a_law_asking).works : (List (T4 (Int × Int) (Int × Int) Str (Int × Int))))), (ToD.td ((a_law_asking).breaks : Int))]) hS.zh (.cons (ToD.tr (α := Str) (a := (a_law_asking).deck) rfl) (.cons (ToD.tr (α := (List ((Int × Int) × Str))) (a := (a_law_asking).picks) hy1) (.cons hy2 (.cons (ToD.tr (α := (List (Int × Int))) (a := (a_law_asking).order) hy3) (.cons (ToD.tr (α := (List (T4 (Int × Int) (Int × Int) Str (Int × Int)))) (a := (a_law_asking).works) hy4) (.cons (ToD.tr (α := Int) (a := (a_law_asking).breaks) rfl) .nil)))))) (Nat.le_of_ble_eq_true rfl) (New.gen fun told_here_5 en6 => New.tel fun v10 Z7 H8 st9 hv10 => ?_))⟩)⟩))⟩))⟩))⟩))⟩)⟩
    have hS := hS.tel (a := (a_law_asking).picks) hy1
    have hS := hS.tel (a := (a_law_asking).middle) hy2
    have hS := hS.tel (a := (a_law_asking).order) hy3
    have hS := hS.tel (a := (a_law_asking).works) hy4
    have hS := (hS.step st9).tel (a := told_here_5) hv10
    refine (tgt1 ?_)
    have hm := Good.vl en6 hm
    have hS := hS.drop1
    have hS := hS.drop1
    have hS := hS.drop1
    have hS := hS.drop1
    refine ⟨_, rfl, ⟨_, rfl, (fld_Asking_sums hS.zh (hS.fact 1 rfl) T.nk_Asking T.cl_Asking T.na_Asking_sums (fun y11 hy11 => ⟨_, rfl, (fld_Asking_figures hS.zh (hS.fact 1 rfl) T.nk_Asking T.cl_Asking T.na_Asking_figures ⟨_, rfl, (fld_Asking_board hS.zh (hS.fact 1 rfl) T.nk_Asking T.cl_Asking T.na_Asking_board (fun y12 hy12 => ⟨trivial, (k_lst (K := K) (m := [(ToD.td ((a_law_asking).sums : (List (Int × Int)))), (ToD.td ((a_law_asking).figures : Int)), (ToD.td ((a_law_asking).board : (List (Int × Int))))]) hS.zh (.cons (ToD.tr (α := (List (Int × Int))) (a := (a_law_asking).sums) hy11) (.cons (ToD.tr (α := Int) (a := (a_law_asking).figures) rfl) (.cons (ToD.tr (α := (List (Int × Int))) (a := (a_law_asking).board) hy12) .nil))) (Nat.le_of_ble_eq_true rfl) (New.tel fun v17 Z14 H15 st16 hv17 => ?_))⟩))⟩)⟩))⟩⟩
    have hS := hS.tel (a := (a_law_asking).sums) hy11
    have hS := hS.tel (a := (a_law_asking).board) hy12
    have hS := (hS.step st16).tel (a := [(ToD.td ((a_law_asking).sums : (List (Int × Int)))), (ToD.td ((a_law_asking).figures : Int)), (ToD.td ((a_law_asking).board : (List (Int × Int))))]) hv17
    obtain ⟨g13, hm⟩ := Good.chk hm
    refine (k_catL hS.zh (RO.tell hS.zh (hS.fact 3 rfl)) (RO.tell hS.zh (hS.fact 0 rfl)) g13 (New.ownS fun p21 ps22 Z18 H19 st20 o23 => ?_))
    have hS := hS.own st20 o23
    obtain ⟨ps_, o_⟩ := hS.nth 0 rfl
    exact hW _ hm _ _ _ _ hS.st o_
theorem ok_law_told {f : Addr} {fd : FuncData} (F : Fun K "_law_told" "_law_told" (topS 38) f fd) (gm : mg "_law_told" = some (.ref f)) (T : Txt K mg ca cb) : Cal P w K mg base CX0 "_law_told" 1 ["_law_asking"] (sp_law_told K ca) :=
  ⟨⟨f, fd, okf_law_told F T, gm, F.kp, F.binds (ps := ["_law_asking"]) fun _ _ _ _ _ _ us hl => match us, hl with | [_], _ => rfl⟩⟩
theorem sc_law_are : FnScope ["_law_asking", "_law_parts_here", "_law_told_here", "_law_k"] ["_law_asking", "_law_parts_here"] (defScope (topS 39)) := ⟨rfl, rfl, rfl, by decide +kernel, rfl, by decide +kernel, by decide +kernel⟩
theorem okf_law_are {f : Addr} {fd : FuncData} (F : Fun K "_law_are" "_law_are" (topS 39) f fd) (T : Txt K mg ca cb) (C_law_whole : Cal P w K mg base CX0 "_law_whole" 1 ["_law_found"] (sp_law_whole K ca)) (C_law_told : Cal P w K mg base CX0 "_law_told" 1 ["_law_asking"] (sp_law_told K ca)) : FnOk P w K mg base CX0 2 f fd ["_law_asking", "_law_parts_here"] (sp_law_are K ca) := by
  refine F.ok sc_law_are (fun vs H0 Q E h => ?_) (fun cdv A outer s H0 vs Q E hr h => ?_)
  · obtain ⟨Z0, a_law_asking, v_law_asking, a_law_parts_here, v_law_parts_here, rfl, _⟩ := h
    rfl
  · obtain ⟨Z0, a_law_asking, v_law_asking, a_law_parts_here, v_law_parts_here, rfl, zh, h_law_asking, h_law_parts_here, hm⟩ := h
    have nd := sc_law_are.nd
    have hm_ := hm.opn; clear hm; obtain ⟨W, WE, hm, hW, hWE⟩ := hm_
    have hS := Sep.start (K := K) zh
    have hS := hS.tel h_law_asking
    have hS := hS.tel h_law_parts_here
    unfold m_law_are at hm
    refine ⟨_, (pss_cons (ps_set (i := 2) nd rfl (Or.inl rfl) (pe_cal C_law_told (hr.mono (by decide)) pass0 (pa_cons (pv 0) pnK))) (pss_cons (ps_for PassesOwn.never rfl (pi_list (pe_lstQ (pa_cons (pcK pe_int) (pa_cons (pcK pe_int) (pa_cons (pcK pe_int) (pa_cons (pcK pe_int) (pa_cons (pcK pe_int) pnK))))))) (pg_name (i := 3) nd rfl (Or.inl rfl)) (pss_one (ps_if (pt_not (pt_val (pe_callB call_isi (by rfl) T.b_isinstance (by decide +kernel) (pa_cons (pe_ix (ix_listK (K := K) rfl) (pv 2) (pv 3) (fun _ _ => rfl)) (pa_cons (pcK (pe_bltn (v := .ty "list") (by rfl) T.b_list (by decide +kernel) rfl)) pnK))))) (pss_one (ps_ret (pcK pe_bl))) pss_nil))) (pss_cons (ps_if (ptK (PW.pt (pw_or (pt_not (pt_val (pe_callB call_isi (by rfl) T.b_isinstance (by decide +kernel) (pa_cons (pe_ix (ix_listK (K := K) rfl) (pv 2) (pcK pe_int) (fun _ _ => rfl)) (pa_cons (pcK (pe_bltn (v := .ty "str") (by rfl) T.b_str (by decide +kernel) rfl)) pnK))))) (pw_or (pt_not (pt_val (pe_cal C_law_whole (hr.mono (by decide)) pass0 (pa_cons (pe_ix (ix_listK (K := K) rfl) (pv 2) (pcK pe_int) (fun _ _ => rfl)) pnK)))) (pw_or1 (pt_not (pt_val (pe_cal C_law_whole (hr.mono (by decide)) pass0 (pa_cons (pe_ix (ix_listK (K := K) rfl) (pv 2) (pcK pe_int) (fun _ _ => rfl)) pnK))))))))) (pss_one (ps_ret (pcK pe_bl))) pss_nil) (pss_one (ps_ret (pe_cmpR (op_eqDK (K := K) rfl hr.units) (pv 2) (pv 1) (nomark _))))))), ?_⟩
    refine ⟨_, rfl, ⟨trivial, ⟨_, _, _, rfl, hS.zh, (hS.fact 1 rfl), (Good.bnd hm).imp (fun r1 hm => NewO.tel hS.zh (fun v5 Z2 H3 st4 hv5 => ?_)) hWE⟩⟩⟩
    have hS := (hS.step st4).tel (a := r1) hv5
    refine (tgt1 ?_)
    refine ⟨trivial, ⟨trivial, ⟨trivial, ⟨trivial, ⟨trivial, ⟨trivial, (k_lst (K := K) (m := [(1 : Int), (3 : Int), (4 : Int), (6 : Int), (8 : Int)]) hS.zh (.cons rfl (.cons rfl (.cons rfl (.cons rfl (.cons rfl .nil))))) (Nat.le_of_ble_eq_true rfl) (New.tel fun v11 Z8 H9 st10 hv11 => ?_))⟩⟩⟩⟩⟩⟩
    have hS := (hS.step st10).tel (a := [(1 : Int), (3 : Int), (4 : Int), (6 : Int), (8 : Int)]) hv11
    obtain ⟨a12, xs13, ev14, hz15, pr16⟩ := pyL (hS.fact 0 rfl)
    obtain ⟨W18, hm, hWW18⟩ := Good.bndW hm
    refine ⟨_, ev14, ⟨_, SqL.of (hS.zh _ _ hz15)⟩, (forK (Z := Z8) (L := [(1 : Int), (3 : Int), (4 : Int), (6 : Int), (8 : Int)]) (src_list hz15 pr16) (fun rr σr Hr Zr => (∃ (w_law_k : Option V), σr = [some v_law_asking, some v_law_parts_here, some v5, w_law_k] ∧ Sep K Z0 H0 Zr Hr [⟨(Sh.told (α := Asking)), v_law_asking, a_law_asking⟩, ⟨(Sh.told (α := (List PyData))), v_law_parts_here, a_law_parts_here⟩, ⟨(Sh.told (α := (List PyData))), v5, r1⟩] ∧ Same Z8 Zr ∧ (Good (forL (fun (s_ : Unit) (q_ : Int) => m_law_are_b0 r1 q_) () rr) W18 WE))) ?_ ?_ ?_ ?_)⟩
    · rintro rr σr Hr Zr hk
      obtain ⟨w_law_k, rfl, hS, sm17, hm⟩ := hk
      exact ⟨sm17, hS.zh⟩
    · exact ⟨Z8, (none), rfl, hS.pick [3, 2, 1] (by decide) rfl, Same.refl _, hm⟩
    · skip
      intro k_19 r20 x21 sg22 H23 H24 Z25 mem26 dec27 hp28 y29
      obtain ⟨w_law_k, rfl, hS, sm17, hm⟩ := hp28
      obtain ⟨W30, hm, hn31, hb32, hr33⟩ := Good.forL hm
      have hm : Good (m_law_are_b0 r1 k_19) _ _ := hm; unfold m_law_are_b0 at hm
      obtain ⟨rfl, rfl⟩ := y29
      refine (tgt1 ?_)
      obtain ⟨g36, hm⟩ := Good.chk hm
      obtain ⟨g38, hm⟩ := Good.chk hm
      refine ⟨_, rfl, ⟨_, rfl, (k_ixL hS.zh (hS.fact 2 rfl) g36 (fun y37 hy37 => ⟨trivial, ⟨trivial, (k_isiD hS.zh hy37 g38 ⟨_, rfl, (ite2 (fun e39 => ?_) (fun e40 => ?_))⟩)⟩⟩))⟩⟩
      · skip
        have hm := Good.ifT e39 hm
        refine ⟨trivial, ?_⟩
        have hm := hr33 _ hm
        have hm := hWW18 _ hm
        exact hW _ hm _ _ hS.st
      · skip
        have hm := Good.ifF e40 hm
        have hm := hn31 _ hm
        exact ⟨_, (some (.int k_19)), rfl, hS.pick [0, 1, 2] (by decide) rfl, sm17, hm⟩
    · intro sg41 H42 Z43 hp44
      obtain ⟨w_law_k, rfl, hS, sm17, hm⟩ := hp44
      have hm := hWW18 _ hm
      obtain ⟨W55, hmb, hWW55⟩ := Good.bndW hm
      refine ⟨trivial, testK2 (Z := Z43) (fun z_ => W55 z_) (fun Q_ q56 => ?_) (fun t54 Z57 H58 w60 st59 => ?_)⟩
      · skip
        have hm := hmb
        have sx_ := Step.refl hS.zh
        obtain ⟨g45, hm⟩ := Good.chk hm
        obtain ⟨g47, hm⟩ := Good.chk hm
        refine ⟨_, rfl, ⟨trivial, (k_ixL hS.zh (hS.fact 2 rfl) g45 (fun y46 hy46 => ⟨trivial, ⟨trivial, (k_isiD hS.zh hy46 g47 ⟨_, rfl, (ite2 (fun e61 => ?_) (fun e62 => ?_))⟩)⟩⟩))⟩⟩
        · have hm := Good.ifT e61 hm
          exact q56 _ _ _ hm sx_
        · skip
          have hm := Good.ifF e62 hm
          obtain ⟨g48, hm⟩ := Good.chk hm
          refine ⟨_, rfl, ⟨trivial, (k_ixL hS.zh (hS.fact 2 rfl) g48 (fun y49 hy49 => ⟨trivial, ⟨_, _, _, rfl, hS.zh, hy49, (Good.bnd hm).imp (fun r50 hm => fun Z63 H64 st65 => ?_) hWE⟩⟩))⟩⟩
          have hS := hS.tel (a := (getI r1 (5 : Int))) hy49
          have sx_ := sx_.trans st65
          have hS := hS.step st65
          refine ⟨_, rfl, (ite2 (fun e66 => ?_) (fun e67 => ?_))⟩
          · have hm := Good.ifT e66 hm
            exact q56 _ _ _ hm sx_
          · skip
            have hm := Good.ifF e67 hm
            obtain ⟨g51, hm⟩ := Good.chk hm
            refine ⟨_, rfl, ⟨trivial, (k_ixL hS.zh (hS.fact 3 rfl) g51 (fun y52 hy52 => ⟨trivial, ⟨_, _, _, rfl, hS.zh, hy52, (Good.bnd hm).imp (fun r53 hm => fun Z68 H69 st70 => ?_) hWE⟩⟩))⟩⟩
            have hS := hS.tel (a := (getI r1 (7 : Int))) hy52
            have sx_ := sx_.trans st70
            have hS := hS.step st70
            refine ⟨_, rfl, (q56 _ _ _ hm sx_)⟩
      have hm := hWW55 _ w60
      have hS := hS.step st59
      refine (ite2 (fun e71 => ?_) (fun e72 => ?_))
      · skip
        have hm := Good.ifT e71 hm
        refine ⟨trivial, ?_⟩
        exact hW _ hm _ _ hS.st
      · skip
        have hm := Good.ifF e72 hm
        obtain ⟨g73, hm⟩ := Good.chk hm
        refine ⟨_, rfl, ⟨_, rfl, (k_eqT (α := (List PyData)) (Rn.tel hS.zh (hS.fact 2 rfl)) (Rn.tel hS.zh (hS.fact 1 rfl)) g73 ?_)⟩⟩
        exact hW _ hm _ _ hS.st
theorem ok_law_are {f : Addr} {fd : FuncData} (F : Fun K "_law_are" "_law_are" (topS 39) f fd) (gm : mg "_law_are" = some (.ref f)) (T : Txt K mg ca cb) (C_law_whole : Cal P w K mg base CX0 "_law_whole" 1 ["_law_found"] (sp_law_whole K ca)) (C_law_told : Cal P w K mg base CX0 "_law_told" 1 ["_law_asking"] (sp_law_told K ca)) : Cal P w K mg base CX0 "_law_are" 2 ["_law_asking", "_law_parts_here"] (sp_law_are K ca) :=
  ⟨⟨f, fd, okf_law_are F T C_law_whole C_law_told, gm, F.kp, F.binds (ps := ["_law_asking", "_law_parts_here"]) fun _ _ _ _ _ _ us hl => match us, hl with | [_, _], _ => rfl⟩⟩
theorem sc_Asking_is_fit : FnScope ["self", "field", "guarded", "text"] ["self"] (defScope (inClass (topS 26) 1)) := ⟨rfl, rfl, rfl, by decide +kernel, rfl, by decide +kernel, by decide +kernel⟩
theorem okf_Asking_is_fit {f : Addr} {fd : FuncData} (F : Fun K "is_fit" "Asking.is_fit" (inClass (topS 26) 1) f fd) (T : Txt K mg ca cb) (C_is_name : Cal P w K mg base CX0 "is_name" 1 ["text"] (sp_is_name K ca)) (C_is_field : Cal P w K mg base CX0 "is_field" 1 ["pair"] (sp_is_field K ca)) (C_is_board : Cal P w K mg base CX0 "is_board" 4 ["board"] (sp_is_board K ca)) (C_are_picks : Cal P w K mg base CX0 "are_picks" 4 ["picks"] (sp_are_picks K ca)) (C_is_middle : Cal P w K mg base CX0 "is_middle" 2 ["middle", "deck"] (sp_is_middle K ca)) (C_main_field : Cal P w K mg base CX0 "main_field" 1 ["middle"] (sp_main_field K ca)) (C_are_works : Cal P w K mg base CX0 "are_works" 2 ["works", "guarded"] (sp_are_works K ca)) : FnOk P w K mg base CX0 5 f fd ["self"] (sp_Asking_is_fit K ca) := by
  refine F.ok sc_Asking_is_fit (fun vs H0 Q E h => ?_) (fun cdv A outer s H0 vs Q E hr h => ?_)
  · obtain ⟨Z0, a_self, v_self, rfl, _⟩ := h
    rfl
  · obtain ⟨Z0, a_self, v_self, rfl, zh, h_self, hm⟩ := h
    have nd := sc_Asking_is_fit.nd
    have hm_ := hm.opn; clear hm; obtain ⟨W, WE, hm, hW, hWE⟩ := hm_
    have hS := Sep.start (K := K) zh
    have hS := hS.tel h_self
    unfold m_Asking_is_fit at hm
    refine ⟨_, (pss_cons (ps_if (ptK (PW.pt (pw_or (pt_not (pt_val (pe_cal C_is_name (hr.mono (by decide)) pass0 (pa_cons (pe_fldK (K := K) rfl (pv 0) rfl) pnK)))) (pw_or (pt_not (pt_val (pe_cal C_are_picks (hr.mono (by decide)) pass0 (pa_cons (pe_fldK (K := K) rfl (pv 0) rfl) pnK)))) (pw_or1 (pt_not (pt_val (pe_cal C_is_middle (hr.mono (by decide)) pass0 (pa_cons (pe_fldK (K := K) rfl (pv 0) rfl) (pa_cons (pe_fldK (K := K) rfl (pv 0) rfl) pnK)))))))))) (pss_one (ps_ret (pcK pe_bl))) pss_nil) (pss_cons (ps_if (ptK (PW.pt (pw_or (pt_cmpR op_gt (pe_callB (call_lenK (K := K) rfl) (by rfl) T.b_len PySem.boot_len (pa_cons (pe_fldK (K := K) rfl (pv 0) rfl) pnK)) (pcK pe_int) (nomark _)) (pw_or (pt_cmpR op_gt (pe_callB (call_lenK (K := K) rfl) (by rfl) T.b_len PySem.boot_len (pa_cons (pe_fldK (K := K) rfl (pv 0) rfl) pnK)) (pcK pe_int) (nomark _)) (pw_or1 (pt_not (pt_chain op_le op_le (pcK pe_int) (pe_fldK (K := K) rfl (pv 0) rfl) (pcK pe_int)))))))) (pss_one (ps_ret (pcK pe_bl))) pss_nil) (pss_cons (ps_for PassesOwn.never rfl (pi_list (pe_op op_cat (pe_fldK (K := K) rfl (pv 0) rfl) (pe_fldK (K := K) rfl (pv 0) rfl))) (pg_name (i := 1) nd rfl (Or.inl rfl)) (pss_one (ps_if (ptK (pt_not (pt_val (pe_cal C_is_field (hr.mono (by decide)) pass0 (pa_cons (pv 1) pnK))))) (pss_one (ps_ret (pcK pe_bl))) pss_nil))) (pss_cons (ps_if (ptK (PW.pt (pw_or (pt_not (pt_chain op_le op_le (pcK pe_int) (pe_fldK (K := K) rfl (pv 0) rfl) (pe_callB (call_min2 rfl) (by rfl) T.b_min (by decide +kernel) (pa_cons (pcK pe_int) (pa_cons (pe_callB (call_lenK (K := K) rfl) (by rfl) T.b_len PySem.boot_len (pa_cons (pe_fldK (K := K) rfl (pv 0) rfl) pnK)) pnK))))) (pw_or1 (pt_not (pt_val (pe_cal C_is_board (hr.mono (by decide)) pass0 (pa_cons (pe_fldK (K := K) rfl (pv 0) rfl) pnK)))))))) (pss_one (ps_ret (pcK pe_bl))) pss_nil) (pss_cons (ps_set (i := 2) nd rfl (Or.inl rfl) (pe_op op_cat (pe_op op_cat (pe_lcQ (own := [("field", 1), ("text", 3)]) (g := (gTup K 2 (gCons (gName 1) (gCons (gName 3) gNil)))) rfl nd (pi_list (pe_fldK (K := K) rfl (pv 0) rfl)) (blkOk_by (N := ["self", "field", "guarded", "text"]) (sc := defScope (inClass (topS 26) 1)) (own := [("field", 1), ("text", 3)]) (by decide +kernel)) (by intro _ _ _ _ _; exact pg_tup rfl (pgs_cons (pg_name (i := 1) nd rfl (Or.inl rfl)) (pgs_cons (pg_name (i := 3) nd rfl (Or.inl rfl)) pgs_nil))) (by intro _ _ _ _ _; exact pts_nil) (by intro _ _ _ _ _; exact (pv 1))) (pe_cal C_main_field (hr.mono (by decide)) pass0 (pa_cons (pe_fldK (K := K) rfl (pv 0) rfl) pnK))) (pe_fldK (K := K) rfl (pv 0) rfl))) (pss_one (ps_ret (pe_cal C_are_works (hr.mono (by decide)) pass0 (pa_cons (pe_fldK (K := K) rfl (pv 0) rfl) (pa_cons (pv 2) pnK)))))))))), ?_⟩
    obtain ⟨W7, hmb, hWW7⟩ := Good.bndW hm
    refine ⟨trivial, testK2 (Z := Z0) (fun z_ => W7 z_) (fun Q_ q8 => ?_) (fun t6 Z9 H10 w12 st11 => ?_)⟩
    · skip
      have hm := hmb
      have sx_ := Step.refl hS.zh
      refine ⟨_, rfl, (fld_Asking_deck hS.zh (hS.fact 0 rfl) T.nk_Asking T.cl_Asking T.na_Asking_deck ⟨trivial, ⟨_, _, rfl, hS.zh, (Good.bnd hm).imp (fun r1 hm => fun Z13 H14 st15 => ?_) hWE⟩⟩)⟩
      have sx_ := sx_.trans st15
      have hS := hS.step st15
      refine ⟨_, rfl, (ite2 (fun e16 => ?_) (fun e17 => ?_))⟩
      · have hm := Good.ifT e16 hm
        exact q8 _ _ _ hm sx_
      · skip
        have hm := Good.ifF e17 hm
        refine ⟨_, rfl, (fld_Asking_picks hS.zh (hS.fact 0 rfl) T.nk_Asking T.cl_Asking T.na_Asking_picks (fun y2 hy2 => ⟨trivial, ⟨_, _, _, rfl, hS.zh, hy2, (Good.bnd hm).imp (fun r3 hm => fun Z18 H19 st20 => ?_) hWE⟩⟩))⟩
        have hS := hS.tel (a := (a_self).picks) hy2
        have sx_ := sx_.trans st20
        have hS := hS.step st20
        refine ⟨_, rfl, (ite2 (fun e21 => ?_) (fun e22 => ?_))⟩
        · have hm := Good.ifT e21 hm
          exact q8 _ _ _ hm sx_
        · skip
          have hm := Good.ifF e22 hm
          refine ⟨_, rfl, (fld_Asking_middle hS.zh (hS.fact 1 rfl) T.nk_Asking T.cl_Asking T.na_Asking_middle (fun y4 hy4 => ⟨_, rfl, (fld_Asking_deck hS.zh (hS.fact 1 rfl) T.nk_Asking T.cl_Asking T.na_Asking_deck ⟨trivial, ⟨_, _, _, _, rfl, hS.zh, hy4, (Good.bnd hm).imp (fun r5 hm => fun Z23 H24 st25 => ?_) hWE⟩⟩)⟩))⟩
          have hS := hS.tel (a := (a_self).middle) hy4
          have sx_ := sx_.trans st25
          have hS := hS.step st25
          refine ⟨_, rfl, (q8 _ _ _ hm sx_)⟩
    have hm := hWW7 _ w12
    have hS := hS.step st11
    refine (ite2 (fun e26 => ?_) (fun e27 => ?_))
    · skip
      have hm := Good.ifT e26 hm
      refine ⟨trivial, ?_⟩
      exact hW _ hm _ _ hS.st
    · skip
      have hm := Good.ifF e27 hm
      refine ⟨trivial, (ansOr (fun _ q => ⟨_, rfl, (fld_Asking_order hS.zh (hS.fact 0 rfl) T.nk_Asking T.cl_Asking T.na_Asking_order (fun y28 hy28 => ⟨trivial, (k_lenQ hS.zh hy28 ⟨trivial, ⟨_, _, rfl, rfl, ⟨_, rfl, q⟩⟩⟩)⟩))⟩) (fun b32 _ q => (ansOr (fun _ q => ⟨_, rfl, (fld_Asking_sums hS.zh (hS.fact 0 rfl) T.nk_Asking T.cl_Asking T.na_Asking_sums (fun y29 hy29 => ⟨trivial, (k_lenQ hS.zh hy29 ⟨trivial, ⟨_, _, rfl, rfl, ⟨_, rfl, q⟩⟩⟩)⟩))⟩) (fun b33 _ q => (k_ch2 (fun _ q => ⟨trivial, q⟩) (fun _ q => ⟨_, rfl, (fld_Asking_figures hS.zh (hS.fact 0 rfl) T.nk_Asking T.cl_Asking T.na_Asking_figures q)⟩) (fun _ q => ⟨trivial, q⟩) ⟨_, rfl, q⟩)) q)) (ite2 (fun e30 => ?_) (fun e31 => ?_)))⟩
      · skip
        have hm := Good.ifT e30 hm
        refine ⟨trivial, ?_⟩
        exact hW _ hm _ _ hS.st
      · skip
        have hm := Good.ifF e31 hm
        obtain ⟨g36, hm⟩ := Good.chk hm
        refine ⟨_, rfl, (fld_Asking_order hS.zh (hS.fact 0 rfl) T.nk_Asking T.cl_Asking T.na_Asking_order (fun y34 hy34 => ⟨_, rfl, (fld_Asking_sums hS.zh (hS.fact 0 rfl) T.nk_Asking T.cl_Asking T.na_Asking_sums (fun y35 hy35 => (k_catL hS.zh (RO.tell hS.zh hy34) (RO.tell hS.zh hy35) g36 (New.tel fun v40 Z37 H38 st39 hv40 => ?_))))⟩))⟩
        have hS := hS.tel (a := (a_self).order) hy34
        have hS := hS.tel (a := (a_self).sums) hy35
        have hS := (hS.step st39).tel (a := ((a_self).order ++ (a_self).sums)) hv40
        obtain ⟨a41, xs42, ev43, hz44, pr45⟩ := pyL (hS.fact 0 rfl)
        obtain ⟨W47, hm, hWW47⟩ := Good.bndW hm
        refine ⟨_, ev43, ⟨_, SqL.of (hS.zh _ _ hz44)⟩, (forK (Z := Z37) (L := ((a_self).order ++ (a_self).sums)) (src_list hz44 pr45) (fun rr σr Hr Zr => (∃ (w_field : Option V), σr = [some v_self, w_field, none, none] ∧ Sep K Z0 H0 Zr Hr [⟨(Sh.told (α := Asking)), v_self, a_self⟩] ∧ Same Z37 Zr ∧ (Good (forL (fun (s_ : Unit) (q_ : (Int × Int)) => m_Asking_is_fit_b0 q_) () rr) W47 WE))) ?_ ?_ ?_ ?_)⟩
        · rintro rr σr Hr Zr hk
          obtain ⟨w_field, rfl, hS, sm46, hm⟩ := hk
          exact ⟨sm46, hS.zh⟩
        · exact ⟨Z37, (none), rfl, hS.pick [3] (by decide) rfl, Same.refl _, hm⟩
        · skip
          intro field_48 r49 x50 sg51 H52 H53 Z54 mem55 dec56 hp57 y58
          obtain ⟨w_field, rfl, hS, sm46, hm⟩ := hp57
          obtain ⟨W59, hm, hn60, hb61, hr62⟩ := Good.forL hm
          have hm : Good (m_Asking_is_fit_b0 field_48) _ _ := hm; unfold m_Asking_is_fit_b0 at hm
          obtain ⟨rfl, h64⟩ := y58
          have h64 := Py.mono sm46 h64
          have hS := hS.tel h64
          refine (tgt1 ?_)
          refine ⟨trivial, ⟨_, rfl, ⟨trivial, ⟨_, _, _, rfl, hS.zh, (hS.fact 0 rfl), (Good.bnd hm).imp (fun r65 hm => fun Z66 H67 st68 => ?_) hWE⟩⟩⟩⟩
          have sm46 := sm46.trans st68.zz
          have hS := hS.step st68
          refine ⟨_, rfl, (ite2 (fun e69 => ?_) (fun e70 => ?_))⟩
          · skip
            have hm := Good.ifT e69 hm
            refine ⟨trivial, ?_⟩
            have hm := hr62 _ hm
            have hm := hWW47 _ hm
            exact hW _ hm _ _ hS.st
          · skip
            have hm := Good.ifF e70 hm
            have hm := hn60 _ hm
            exact ⟨_, (some x50), rfl, hS.pick [1] (by decide) rfl, sm46, hm⟩
        · intro sg71 H72 Z73 hp74
          obtain ⟨w_field, rfl, hS, sm46, hm⟩ := hp74
          have hm := hWW47 _ hm
          obtain ⟨W79, hmb, hWW79⟩ := Good.bndW hm
          refine ⟨trivial, testK2 (Z := Z73) (fun z_ => W79 z_) (fun Q_ q80 => ?_) (fun t78 Z81 H82 w84 st83 => ?_)⟩
          · skip
            have hm := hmb
            have sx_ := Step.refl hS.zh
            refine (k_ch2 (fun _ q => ⟨trivial, q⟩) (fun _ q => ⟨_, rfl, (fld_Asking_breaks hS.zh (hS.fact 0 rfl) T.nk_Asking T.cl_Asking T.na_Asking_breaks q)⟩) (fun _ q => ⟨trivial, ⟨_, rfl, (fld_Asking_order hS.zh (hS.fact 0 rfl) T.nk_Asking T.cl_Asking T.na_Asking_order (fun y75 hy75 => ⟨trivial, (k_lenQ hS.zh hy75 ⟨trivial, ⟨_, _, rfl, q⟩⟩)⟩))⟩⟩) ⟨_, rfl, (ite2 (fun e85 => ?_) (fun e86 => ?_))⟩)
            · have hm := Good.ifT e85 hm
              exact q80 _ _ _ hm sx_
            · skip
              have hm := Good.ifF e86 hm
              refine ⟨_, rfl, (fld_Asking_board hS.zh (hS.fact 0 rfl) T.nk_Asking T.cl_Asking T.na_Asking_board (fun y76 hy76 => ⟨trivial, ⟨_, _, _, rfl, hS.zh, hy76, (Good.bnd hm).imp (fun r77 hm => fun Z87 H88 st89 => ?_) hWE⟩⟩))⟩
              have hS := hS.tel (a := (a_self).board) hy76
              have sx_ := sx_.trans st89
              have hS := hS.step st89
              refine ⟨_, rfl, (q80 _ _ _ hm sx_)⟩
          have hm := hWW79 _ w84
          have hS := hS.step st83
          refine (ite2 (fun e90 => ?_) (fun e91 => ?_))
          · skip
            have hm := Good.ifT e90 hm
            refine ⟨trivial, ?_⟩
            exact hW _ hm _ _ hS.st
          · skip
            have hm := Good.ifF e91 hm
            obtain ⟨g98, hm⟩ := Good.chk hm
            refine ⟨_, rfl, (fld_Asking_picks hS.zh (hS.fact 0 rfl) T.nk_Asking T.cl_Asking T.na_Asking_picks (fun y92 hy92 => ?_))⟩
            obtain ⟨a106, xs107, ev108, hz109, pr110⟩ := pyL hy92
            refine ⟨_, ev108, ⟨_, SqL.of (hS.zh _ _ hz109)⟩, (lcKQ (K := K) (src_list hz109 pr110) hS.zh (fun (q93 : ((Int × Int) × Str)) => q93.1) (fun _ => true) g98 (fun q93 x111 Z112 H113 H114 C115 N116 mem117 st118 y119 kC120 kN121 => ?_) (New.all (New.tel fun v127 Z124 H125 st126 hv127 => ?_)))⟩
            · skip
              have hS := hS.step st118
              have sx_ := Step.refl hS.zh
              obtain ⟨rfl, ht_⟩ := y119
              refine (tgtP hS.zh (Py.mono st118.zz ht_) fun a130 e128 a131 e129 v94 v96 h95 h97 => ?_)
              subst e128
              have hS := hS.tel (a := q93.1) h95
              subst e129
              obtain rfl : v96 = (.str q93.2) := h97
              refine ⟨rfl, (yesK ⟨_, rfl, (kC120 _ _ _ sx_ rfl h95)⟩)⟩
            have hS := hS.tel (a := (a_self).picks) hy92
            have hS := (hS.step st126).tel (a := ((a_self).picks.map (fun (q93 : ((Int × Int) × Str)) => q93.1))) hv127
            refine ⟨_, rfl, (fld_Asking_middle hS.zh (hS.fact 2 rfl) T.nk_Asking T.cl_Asking T.na_Asking_middle (fun y99 hy99 => ⟨trivial, ⟨_, _, _, rfl, hS.zh, hy99, (Good.bnd hm).imp (fun r100 hm => NewO.tel hS.zh (fun v135 Z132 H133 st134 hv135 => ?_)) hWE⟩⟩))⟩
            have hS := hS.tel (a := (a_self).middle) hy99
            have hS := (hS.step st134).tel (a := r100) hv135
            obtain ⟨g101, hm⟩ := Good.chk hm
            refine (k_catL hS.zh (RO.tell hS.zh (hS.fact 2 rfl)) (RO.tell hS.zh (hS.fact 0 rfl)) g101 (New.tel fun v141 Z138 H139 st140 hv141 => ?_))
            have hS := (hS.step st140).tel (a := (((a_self).picks.map (fun (q93 : ((Int × Int) × Str)) => q93.1)) ++ r100)) hv141
            obtain ⟨g103, hm⟩ := Good.chk hm
            refine ⟨_, rfl, (fld_Asking_order hS.zh (hS.fact 5 rfl) T.nk_Asking T.cl_Asking T.na_Asking_order (fun y102 hy102 => (k_catL hS.zh (RO.tell hS.zh (hS.fact 0 rfl)) (RO.tell hS.zh hy102) g103 (New.gen fun guarded_104 en105 => New.tel fun v145 Z142 H143 st144 hv145 => ?_))))⟩
            have hS := hS.tel (a := (a_self).order) hy102
            have hS := (hS.step st144).tel (a := guarded_104) hv145
            refine (tgt1 ?_)
            have hm := Good.vl en105 hm
            have hS := hS.drop1
            have hS := hS.drop1
            have hS := hS.drop1
            have hS := hS.drop1
            have hS := hS.drop1
            have hS := hS.drop1
            refine ⟨_, rfl, (fld_Asking_works hS.zh (hS.fact 1 rfl) T.nk_Asking T.cl_Asking T.na_Asking_works (fun y146 hy146 => ⟨_, rfl, ⟨trivial, ⟨_, _, _, _, _, rfl, hS.zh, hy146, (hS.fact 0 rfl), (Good.bnd hm).imp (fun r147 hm => fun Z148 H149 st150 => ?_) hWE⟩⟩⟩))⟩
            have hS := hS.tel (a := (a_self).works) hy146
            have hS := hS.step st150
            exact hW _ hm _ _ hS.st
theorem ok_Asking_is_fit {f : Addr} {fd : FuncData} (F : Fun K "is_fit" "Asking.is_fit" (inClass (topS 26) 1) f fd) (gm : Meth K cb.Asking "is_fit" f) (T : Txt K mg ca cb) (C_is_name : Cal P w K mg base CX0 "is_name" 1 ["text"] (sp_is_name K ca)) (C_is_field : Cal P w K mg base CX0 "is_field" 1 ["pair"] (sp_is_field K ca)) (C_is_board : Cal P w K mg base CX0 "is_board" 4 ["board"] (sp_is_board K ca)) (C_are_picks : Cal P w K mg base CX0 "are_picks" 4 ["picks"] (sp_are_picks K ca)) (C_is_middle : Cal P w K mg base CX0 "is_middle" 2 ["middle", "deck"] (sp_is_middle K ca)) (C_main_field : Cal P w K mg base CX0 "main_field" 1 ["middle"] (sp_main_field K ca)) (C_are_works : Cal P w K mg base CX0 "are_works" 2 ["works", "guarded"] (sp_are_works K ca)) : MetX P w K mg base CX0 5 cb.Asking "is_fit" ["self"] (sp_Asking_is_fit K ca) :=
  ⟨⟨f, fd, T.cl_Asking, gm, okf_Asking_is_fit F T C_is_name C_is_field C_is_board C_are_picks C_is_middle C_main_field C_are_works, F.binds (ps := ["self"]) fun _ _ _ _ _ _ us hl => match us, hl with | [_], _ => rfl⟩⟩
theorem sc_Asking___init__ : FnScope ["self", "deck", "picks", "middle", "order", "works", "breaks", "sums", "figures", "board"] ["self", "deck", "picks", "middle", "order", "works", "breaks", "sums", "figures", "board"] (defScope (inClass (topS 26) 0)) := ⟨rfl, rfl, rfl, by decide +kernel, rfl, by decide +kernel, by decide +kernel⟩
theorem okf_Asking___init__ {f : Addr} {fd : FuncData} (F : FunD K "__init__" "Asking.__init__" (defArgs (inClass (topS 26) 0)) (defBody (inClass (topS 26) 0)) (defScope (inClass (topS 26) 0)) [V.non, V.int 0, V.non, V.int 6, V.non] [] f fd) (T : Txt K mg ca cb) (C_Asking_is_fit : MetX P w K mg base CX0 5 cb.Asking "is_fit" ["self"] (sp_Asking_is_fit K ca)) : FnOk P w K mg base CX0 6 f fd ["self", "deck", "picks", "middle", "order", "works", "breaks", "sums", "figures", "board"] (sp_Asking___init__ K ca) := by
  refine F.ok sc_Asking___init__ (fun vs H0 Q E h => ?_) (fun cdv A outer s H0 vs Q E hr h => ?_)
  · obtain ⟨Z0, p_self, dx_self, a_deck, a_picks, v_picks, a_middle, v_middle, a_order, v_order, a_works, v_works, a_breaks, a_sums, v_sums, a_figures, a_board, v_board, rfl, _⟩ := h
    rfl
  · obtain ⟨Z0, p_self, dx_self, a_deck, a_picks, v_picks, a_middle, v_middle, a_order, v_order, a_works, v_works, a_breaks, a_sums, v_sums, a_figures, a_board, v_board, rfl, zh, hat_self, hdx_self, h_picks, h_middle, h_order, h_works, h_sums, h_board, hm⟩ := h
    have nd := sc_Asking___init__.nd
    have hm_ := hm.opn; clear hm; obtain ⟨W, WE, hm, hW, hWE⟩ := hm_
    obtain ⟨C_, nk_, hat_self⟩ := hat_self
    have hS := Sep.newH zh nk_ hat_self hdx_self
    have hS := hS.tel h_picks
    have hS := hS.tel h_middle
    have hS := hS.tel h_order
    have hS := hS.tel h_works
    have hS := hS.tel h_sums
    have hS := hS.tel h_board
    unfold m_Asking___init__ at hm
    refine ⟨_, (pss_cons (ps_fldK (K := K) rfl (pv 0) (pv 1) rfl) (pss_cons (ps_fldK (K := K) rfl (pv 0) (pe_callTy (call_listK (K := K) rfl) (by rfl) T.b_list (by decide +kernel) (pa_cons (pv 2) pnK)) rfl) (pss_cons (ps_fldK (K := K) rfl (pv 0) (pv 3) rfl) (pss_cons (ps_fldK (K := K) rfl (pv 0) (pe_callTy (call_listK (K := K) rfl) (by rfl) T.b_list (by decide +kernel) (pa_cons (pv 4) pnK)) rfl) (pss_cons (ps_fldK (K := K) rfl (pv 0) (pe_callTy (call_listK (K := K) rfl) (by rfl) T.b_list (by decide +kernel) (pa_cons (pe_orT (pv 5) (pe_one (pe_lstQ pnK))) pnK)) rfl) (pss_cons (ps_fldK (K := K) rfl (pv 0) (pv 6) rfl) (pss_cons (ps_fldK (K := K) rfl (pv 0) (pe_callTy (call_listK (K := K) rfl) (by rfl) T.b_list (by decide +kernel) (pa_cons (pe_orT (pv 7) (pe_one (pe_lstQ pnK))) pnK)) rfl) (pss_cons (ps_fldK (K := K) rfl (pv 0) (pv 8) rfl) (pss_cons (ps_fldK (K := K) rfl (pv 0) (pe_callTy (call_listK (K := K) rfl) (by rfl) T.b_list (by decide +kernel) (pa_cons (pe_orT (pv 9) (pe_one (pe_lstQ pnK))) pnK)) rfl) (pss_one (ps_if (ptK (pt_not (pt_val (pe_mtX0 C_Asking_is_fit (hr.mono (j := 5) (by decide)) pass0 (pv 0))))) (pss_one ps_never) pss_nil))))))))))), ?_⟩
    obtain ⟨self_deck_1, en2⟩ : ∃ z, z = a_deck := ⟨_, rfl⟩
    have hm := Good.vl en2 hm
    refine ⟨_, rfl, ⟨_, rfl, (hS.put (v := (.str a_deck)) (ns' := ["deck"]) (vs' := [(.str self_deck_1)]) 6 rfl T.nk_Asking T.cl_Asking T.na_Asking_deck (Nat.le_of_ble_eq_true rfl) (by subst en2; rfl) rfl fun H_ hS => ?_)⟩⟩
    dsimp only [List.set] at hS
    refine ⟨_, rfl, ⟨trivial, (k_listQ hS.zh (hS.fact 5 rfl) (New.ownS fun p8 ps9 Z5 H6 st7 o10 => ?_))⟩⟩
    have hS := hS.own st7 o10
    obtain ⟨self_picks_3, en4⟩ : ∃ z, z = a_picks := ⟨_, rfl⟩
    have hS := hS.nam 0 rfl en4; dsimp only [List.set] at hS
    have hm := Good.vl en4 hm
    refine ⟨_, rfl, (hS.put (v := (.ref p8)) (ns' := ["deck", "picks"]) (vs' := [(.str self_deck_1), (.ref p8)]) 7 rfl T.nk_Asking T.cl_Asking T.na_Asking_picks (Nat.le_of_ble_eq_true rfl) (rfl) rfl fun H_ hS => ?_)⟩
    dsimp only [List.set] at hS
    obtain ⟨g13, hm⟩ := Good.chk hm
    obtain ⟨self_middle_11, en12⟩ : ∃ z, z = a_middle := ⟨_, rfl⟩
    have hS := Sep.pushDy (v := v_middle) (a := (a_middle : PyData)) hS (hS.fact 5 rfl) g13
    have hS : (Sep K Z0 (delL H0 [p_self, dx_self]) _ _ [⟨Sh.dy, v_middle, a_middle⟩, ⟨(Sh.lt ((Int × Int) × Str)), (.ref p8), self_picks_3⟩, ⟨(Sh.told (α := (Option (List (Int × Int))))), v_board, a_board⟩, ⟨(Sh.told (α := (Option (List (Int × Int))))), v_sums, a_sums⟩, ⟨(Sh.told (α := (Option (List (T4 (Int × Int) (Int × Int) Str (Int × Int)))))), v_works, a_works⟩, ⟨(Sh.told (α := (List (Int × Int)))), v_order, a_order⟩, ⟨(Sh.told (α := PyData)), v_middle, a_middle⟩, ⟨(Sh.told (α := (List ((Int × Int) × Str)))), v_picks, a_picks⟩, ⟨(Sh.husk "Asking" ["deck", "picks"]), (.ref p_self), [(.str self_deck_1), (.ref p8)]⟩]) := hS
    have hS := hS.nam 0 rfl en12; dsimp only [List.set] at hS
    have hm := Good.vl en12 hm
    refine ⟨_, rfl, ⟨_, rfl, (hS.put (v := v_middle) (ns' := ["deck", "picks", "middle"]) (vs' := [(.str self_deck_1), (.ref p8), v_middle]) 8 rfl T.nk_Asking T.cl_Asking T.na_Asking_middle (Nat.le_of_ble_eq_true rfl) (rfl) rfl fun H_ hS => ?_)⟩⟩
    dsimp only [List.set] at hS
    refine ⟨_, rfl, ⟨trivial, (k_listQ hS.zh (hS.fact 5 rfl) (New.ownS fun p19 ps20 Z16 H17 st18 o21 => ?_))⟩⟩
    have hS := hS.own st18 o21
    obtain ⟨self_order_14, en15⟩ : ∃ z, z = a_order := ⟨_, rfl⟩
    have hS := hS.nam 0 rfl en15; dsimp only [List.set] at hS
    have hm := Good.vl en15 hm
    refine ⟨_, rfl, (hS.put (v := (.ref p19)) (ns' := ["deck", "picks", "middle", "order"]) (vs' := [(.str self_deck_1), (.ref p8), v_middle, (.ref p19)]) 9 rfl T.nk_Asking T.cl_Asking T.na_Asking_order (Nat.le_of_ble_eq_true rfl) (rfl) rfl fun H_ hS => ?_)⟩
    dsimp only [List.set] at hS
    refine ⟨_, rfl, (k_orL hS.zh (hS.fact 5 rfl) (fun _ q => ⟨trivial, q⟩) (fun v27 Z24 H25 st26 hv27 => ?_))⟩
    have hS := (hS.step st26).tel (a := (a_works.getD [])) hv27
    refine ⟨trivial, (k_listQ hS.zh (hS.fact 0 rfl) (New.ownS fun p31 ps32 Z28 H29 st30 o33 => ?_))⟩
    have hS := hS.own st30 o33
    obtain ⟨self_works_22, en23⟩ : ∃ z, z = (a_works.getD []) := ⟨_, rfl⟩
    have hS := hS.nam 0 rfl en23; dsimp only [List.set] at hS
    have hm := Good.vl en23 hm
    refine ⟨_, rfl, (hS.put (v := (.ref p31)) (ns' := ["deck", "picks", "middle", "order", "works"]) (vs' := [(.str self_deck_1), (.ref p8), v_middle, (.ref p19), (.ref p31)]) 11 rfl T.nk_Asking T.cl_Asking T.na_Asking_works (Nat.le_of_ble_eq_true rfl) (rfl) rfl fun H_ hS => ?_)⟩
    dsimp only [List.set] at hS
    have hS := hS.drop1
    obtain ⟨self_breaks_34, en35⟩ : ∃ z, z = a_breaks := ⟨_, rfl⟩
    have hm := Good.vl en35 hm
    refine ⟨_, rfl, ⟨_, rfl, (hS.put (v := (.int a_breaks)) (ns' := ["deck", "picks", "middle", "order", "works", "breaks"]) (vs' := [(.str self_deck_1), (.ref p8), v_middle, (.ref p19), (.ref p31), (.int self_breaks_34)]) 10 rfl T.nk_Asking T.cl_Asking T.na_Asking_breaks (Nat.le_of_ble_eq_true rfl) (by subst en35; rfl) rfl fun H_ hS => ?_)⟩⟩
    dsimp only [List.set] at hS
    refine ⟨_, rfl, (k_orL hS.zh (hS.fact 5 rfl) (fun _ q => ⟨trivial, q⟩) (fun v41 Z38 H39 st40 hv41 => ?_))⟩
    have hS := (hS.step st40).tel (a := (a_sums.getD [])) hv41
    refine ⟨trivial, (k_listQ hS.zh (hS.fact 0 rfl) (New.ownS fun p45 ps46 Z42 H43 st44 o47 => ?_))⟩
    have hS := hS.own st44 o47
    obtain ⟨self_sums_36, en37⟩ : ∃ z, z = (a_sums.getD []) := ⟨_, rfl⟩
    have hS := hS.nam 0 rfl en37; dsimp only [List.set] at hS
    have hm := Good.vl en37 hm
    refine ⟨_, rfl, (hS.put (v := (.ref p45)) (ns' := ["deck", "picks", "middle", "order", "works", "breaks", "sums"]) (vs' := [(.str self_deck_1), (.ref p8), v_middle, (.ref p19), (.ref p31), (.int self_breaks_34), (.ref p45)]) 12 rfl T.nk_Asking T.cl_Asking T.na_Asking_sums (Nat.le_of_ble_eq_true rfl) (rfl) rfl fun H_ hS => ?_)⟩
    dsimp only [List.set] at hS
    have hS := hS.drop1
    obtain ⟨self_figures_48, en49⟩ : ∃ z, z = a_figures := ⟨_, rfl⟩
    have hm := Good.vl en49 hm
    refine ⟨_, rfl, ⟨_, rfl, (hS.put (v := (.int a_figures)) (ns' := ["deck", "picks", "middle", "order", "works", "breaks", "sums", "figures"]) (vs' := [(.str self_deck_1), (.ref p8), v_middle, (.ref p19), (.ref p31), (.int self_breaks_34), (.ref p45), (.int self_figures_48)]) 11 rfl T.nk_Asking T.cl_Asking T.na_Asking_figures (Nat.le_of_ble_eq_true rfl) (by subst en49; rfl) rfl fun H_ hS => ?_)⟩⟩
    dsimp only [List.set] at hS
    refine ⟨_, rfl, (k_orL hS.zh (hS.fact 5 rfl) (fun _ q => ⟨trivial, q⟩) (fun v55 Z52 H53 st54 hv55 => ?_))⟩
    have hS := (hS.step st54).tel (a := (a_board.getD [])) hv55
    refine ⟨trivial, (k_listQ hS.zh (hS.fact 0 rfl) (New.ownS fun p59 ps60 Z56 H57 st58 o61 => ?_))⟩
    have hS := hS.own st58 o61
    obtain ⟨self_board_50, en51⟩ : ∃ z, z = (a_board.getD []) := ⟨_, rfl⟩
    have hS := hS.nam 0 rfl en51; dsimp only [List.set] at hS
    have hm := Good.vl en51 hm
    refine ⟨_, rfl, (hS.put (v := (.ref p59)) (ns' := ["deck", "picks", "middle", "order", "works", "breaks", "sums", "figures", "board"]) (vs' := [(.str self_deck_1), (.ref p8), v_middle, (.ref p19), (.ref p31), (.int self_breaks_34), (.ref p45), (.int self_figures_48), (.ref p59)]) 13 rfl T.nk_Asking T.cl_Asking T.na_Asking_board (Nat.le_of_ble_eq_true rfl) (rfl) rfl fun H_ hS => ?_)⟩
    dsimp only [List.set] at hS
    have hS := hS.drop1
    refine ⟨trivial, ⟨_, rfl, (hS.mthH 12 rfl T.nk_Asking (by decide) ?_)⟩⟩
    have hSB63 := hS; have bB63 := hS.bor0S
    have hS : (Sep K Z0 (delL H0 [p_self, dx_self]) _ _ [⟨(Sh.lt (Int × Int)), (.ref p59), self_board_50⟩, ⟨(Sh.lt (Int × Int)), (.ref p45), self_sums_36⟩, ⟨(Sh.lt (T4 (Int × Int) (Int × Int) Str (Int × Int))), (.ref p31), self_works_22⟩, ⟨(Sh.lt (Int × Int)), (.ref p19), self_order_14⟩, ⟨Sh.dy, v_middle, self_middle_11⟩, ⟨(Sh.lt ((Int × Int) × Str)), (.ref p8), self_picks_3⟩, ⟨(Sh.husk "Asking" ["deck", "picks", "middle", "order", "works", "breaks", "sums", "figures", "board"]), (.ref p_self), [(.str self_deck_1), (.ref p8), v_middle, (.ref p19), (.ref p31), (.int self_breaks_34), (.ref p45), (.int self_figures_48), (.ref p59)]⟩, ⟨(Sh.told (α := (Option (List (Int × Int))))), v_board, a_board⟩, ⟨(Sh.told (α := (Option (List (Int × Int))))), v_sums, a_sums⟩, ⟨(Sh.told (α := (Option (List (T4 (Int × Int) (Int × Int) Str (Int × Int)))))), v_works, a_works⟩, ⟨(Sh.told (α := (List (Int × Int)))), v_order, a_order⟩, ⟨(Sh.told (α := PyData)), v_middle, a_middle⟩, ⟨(Sh.told (α := (List ((Int × Int) × Str)))), v_picks, a_picks⟩]) := hS.pick [0, 1, 2, 3, 4, 5, 12, 6, 7, 8, 9, 10, 11] (by decide) rfl
    have hS := hS.mknil
    have hS := hS.mkr
    have hS := Sep.mkrS self_figures_48 hS
    have hS := hS.mkr
    have hS := Sep.mkrS self_breaks_34 hS
    have hS := hS.mkr
    have hS := hS.mkr
    have hS := hS.mkr
    have hS := hS.mkr
    have hS := Sep.mkrS self_deck_1 hS
    have hS : (Sep K Z0 (delL H0 [p_self, dx_self]) _ _ [⟨sh_Asking, (.ref p_self), (⟨self_deck_1, self_picks_3, self_middle_11, self_order_14, self_works_22, self_breaks_34, self_sums_36, self_figures_48, self_board_50⟩ : Asking)⟩, ⟨(Sh.told (α := (Option (List (Int × Int))))), v_board, a_board⟩, ⟨(Sh.told (α := (Option (List (Int × Int))))), v_sums, a_sums⟩, ⟨(Sh.told (α := (Option (List (T4 (Int × Int) (Int × Int) Str (Int × Int)))))), v_works, a_works⟩, ⟨(Sh.told (α := (List (Int × Int)))), v_order, a_order⟩, ⟨(Sh.told (α := PyData)), v_middle, a_middle⟩, ⟨(Sh.told (α := (List ((Int × Int) × Str)))), v_picks, a_picks⟩]) := Sep.clsO (f := Asking.row) rfl hS
    obtain ⟨Z64, ps65, bB63, hS⟩ := hS.borS bB63 0 rfl; dsimp only [List.set] at hS
    have sB63 := Step.refl hS.zh
    refine ⟨_, _, _, rfl, hS.zh, (hS.fact 0 rfl), (Good.bnd hm).imp (fun r62 hm => fun Z66 H67 st68 => ?_) hWE⟩
    have sB63 := sB63.trans st68
    have hS := hS.step st68
    have stB63 := bB63.back hSB63.zh sB63
    have hS := hSB63.step stB63
    refine ⟨_, rfl, (ite2 (fun e69 => ?_) (fun e70 => ?_))⟩
    · skip
      have hm := Good.ifT e69 hm
      exact hm.elim
    · skip
      have hm := Good.ifF e70 hm
      have hS : (Sep K Z0 (delL H0 [p_self, dx_self]) _ _ [⟨(Sh.lt (Int × Int)), (.ref p59), self_board_50⟩, ⟨(Sh.lt (Int × Int)), (.ref p45), self_sums_36⟩, ⟨(Sh.lt (T4 (Int × Int) (Int × Int) Str (Int × Int))), (.ref p31), self_works_22⟩, ⟨(Sh.lt (Int × Int)), (.ref p19), self_order_14⟩, ⟨Sh.dy, v_middle, self_middle_11⟩, ⟨(Sh.lt ((Int × Int) × Str)), (.ref p8), self_picks_3⟩, ⟨(Sh.husk "Asking" ["deck", "picks", "middle", "order", "works", "breaks", "sums", "figures", "board"]), (.ref p_self), [(.str self_deck_1), (.ref p8), v_middle, (.ref p19), (.ref p31), (.int self_breaks_34), (.ref p45), (.int self_figures_48), (.ref p59)]⟩, ⟨(Sh.told (α := (Option (List (Int × Int))))), v_board, a_board⟩, ⟨(Sh.told (α := (Option (List (Int × Int))))), v_sums, a_sums⟩, ⟨(Sh.told (α := (Option (List (T4 (Int × Int) (Int × Int) Str (Int × Int)))))), v_works, a_works⟩, ⟨(Sh.told (α := (List (Int × Int)))), v_order, a_order⟩, ⟨(Sh.told (α := PyData)), v_middle, a_middle⟩, ⟨(Sh.told (α := (List ((Int × Int) × Str)))), v_picks, a_picks⟩]) := hS.pick [0, 1, 2, 3, 4, 5, 12, 6, 7, 8, 9, 10, 11] (by decide) rfl
      have hS := hS.mknil
      have hS := hS.mkr
      have hS := Sep.mkrS self_figures_48 hS
      have hS := hS.mkr
      have hS := Sep.mkrS self_breaks_34 hS
      have hS := hS.mkr
      have hS := hS.mkr
      have hS := hS.mkr
      have hS := hS.mkr
      have hS := Sep.mkrS self_deck_1 hS
      have hS : (Sep K Z0 (delL H0 [p_self, dx_self]) _ _ [⟨sh_Asking, (.ref p_self), (⟨self_deck_1, self_picks_3, self_middle_11, self_order_14, self_works_22, self_breaks_34, self_sums_36, self_figures_48, self_board_50⟩ : Asking)⟩, ⟨(Sh.told (α := (Option (List (Int × Int))))), v_board, a_board⟩, ⟨(Sh.told (α := (Option (List (Int × Int))))), v_sums, a_sums⟩, ⟨(Sh.told (α := (Option (List (T4 (Int × Int) (Int × Int) Str (Int × Int)))))), v_works, a_works⟩, ⟨(Sh.told (α := (List (Int × Int)))), v_order, a_order⟩, ⟨(Sh.told (α := PyData)), v_middle, a_middle⟩, ⟨(Sh.told (α := (List ((Int × Int) × Str)))), v_picks, a_picks⟩]) := Sep.clsO (f := Asking.row) rfl hS
      obtain ⟨ps_, o_⟩ := hS.nth 0 rfl; exact hW _ hm _ _ _ hS.st o_
theorem ok_Asking___init__ {f : Addr} {fd : FuncData} (F : FunD K "__init__" "Asking.__init__" (defArgs (inClass (topS 26) 0)) (defBody (inClass (topS 26) 0)) (defScope (inClass (topS 26) 0)) [V.non, V.int 0, V.non, V.int 6, V.non] [] f fd) (gm : Mk K cb.Asking f) (T : Txt K mg ca cb) (C_Asking_is_fit : MetX P w K mg base CX0 5 cb.Asking "is_fit" ["self"] (sp_Asking_is_fit K ca)) : MakN P w K mg base CX0 6 "Asking" cb.Asking ["self", "deck", "picks", "middle", "order", "works", "breaks", "sums", "figures", "board"] [V.non, V.int 0, V.non, V.int 6, V.non] [0, 5] (sp_Asking___init__ K ca) 4 ["breaks", "sums", "board"] (fun vs zs => kwg_Asking___init__ vs [V.non, V.int 0, V.non, V.int 6, V.non] zs) := by
  have F0 := okf_Asking___init__ F T C_Asking_is_fit
  obtain ⟨_, hb⟩ := FunD.kbindsD (ps := ["self", "deck", "picks", "middle", "order", "works", "breaks", "sums", "figures", "board"]) F 5 ["breaks", "sums", "board"] (fun us ds zs => kwg_Asking___init__ us ds zs) (by decide) kwr_Asking___init__ (fun _ _ _ _ _ _ _ us its ws h1 h2 h3 => match us, its, ws, h1, h2, h3 with | [_, _, _, _, _], [_, _, _, _, _], [_, _, _], _, _, _ => ⟨_, rfl, rfl⟩)
  exact ⟨⟨f, fd, gm, F0, T.gc_Asking, fun j hj => by
    simp only [List.mem_cons, List.mem_nil_iff, or_false] at hj
    rcases hj with rfl | rfl
    · exact FunD.binds1 (ps := ["self", "deck", "picks", "middle", "order", "works", "breaks", "sums", "figures", "board"]) F 5 0 (by decide) rfl (fun _ _ _ _ _ _ _ us its h1 h2 => match us, its, h1, h2 with | [_, _, _, _, _], [_, _, _, _, _], _, _ => ⟨_, rfl, rfl⟩)
    · exact FunD.binds1 (ps := ["self", "deck", "picks", "middle", "order", "works", "breaks", "sums", "figures", "board"]) F 10 5 (by decide) rfl (fun _ _ _ _ _ _ _ us its h1 h2 => match us, its, h1, h2 with | [_, _, _, _, _, _, _, _, _, _], [_, _, _, _, _], _, _ => ⟨_, rfl, rfl⟩)⟩, f, fd, _, gm, F0, T.gc_Asking, hb⟩
theorem sc_law : FnScope ["_law_script", "_law_parts_here", "_law_handed", "_law_k", "_law_some", "_law_asking", "_law_bare", "_law_due", "_law_plain", "_law_named", "_law_more", "_law_part"] ["_law_script"] (defScope (topS 40)) := ⟨rfl, rfl, rfl, by decide +kernel, rfl, by decide +kernel, by decide +kernel⟩
theorem okf_law {f : Addr} {fd : FuncData} (F : Fun K "law" "law" (topS 40) f fd) (T : Txt K mg ca cb) (C_law_parts : Cal P w K mg base CX0 "_law_parts" 4 ["_law_script"] (sp_law_parts K ca)) (C_law_are : Cal P w K mg base CX0 "_law_are" 2 ["_law_asking", "_law_parts_here"] (sp_law_are K ca)) (C_Asking___init__ : MakN P w K mg base CX0 6 "Asking" cb.Asking ["self", "deck", "picks", "middle", "order", "works", "breaks", "sums", "figures", "board"] [V.non, V.int 0, V.non, V.int 6, V.non] [0, 5] (sp_Asking___init__ K ca) 4 ["breaks", "sums", "board"] (fun vs zs => kwg_Asking___init__ vs [V.non, V.int 0, V.non, V.int 6, V.non] zs)) : FnOk P w K mg base CX0 8 f fd ["_law_script"] (sp_law K) := by
  refine F.ok sc_law (fun vs H0 Q E h => ?_) (fun cdv A outer s H0 vs Q E hr h => ?_)
  · obtain ⟨Z0, a_law_script, v_law_script, rfl, _⟩ := h
    rfl
  · obtain ⟨Z0, a_law_script, v_law_script, rfl, zh, h_law_script, hm⟩ := h
    have nd := sc_law.nd
    have hm_ := hm.opn; clear hm; obtain ⟨W, WE, hm, hW, hWE⟩ := hm_
    have hS := Sep.start (K := K) zh
    have hS := hS.tel h_law_script
    unfold m_law at hm
    refine ⟨_, (pss_cons (ps_set (i := 1) nd rfl (Or.inl rfl) (pe_cal C_law_parts (hr.mono (by decide)) pass0 (pa_cons (pv 0) pnK))) (pss_cons (ps_setLcQ (i := 2) (own := [("_law_part", 11)]) (g := (gName 11)) rfl nd rfl rfl (sw_true rfl rfl rfl (by decide +kernel)) (pi_list (pv 1)) (blkOk_by (N := ["_law_script", "_law_parts_here", "_law_handed", "_law_k", "_law_some", "_law_asking", "_law_bare", "_law_due", "_law_plain", "_law_named", "_law_more", "_law_part"]) (sc := defScope (topS 40)) (own := [("_law_part", 11)]) (by decide +kernel)) (by intro _ _ _ _ _; exact pg_name (i := 11) nd rfl (Or.inl rfl)) (by intro _ _ _ _ _; exact pts_nil) (by intro _ _ _ _ _; exact (pv 11))) (pss_cons (ps_for PassesOwn.never rfl (pi_list (pe_lstQ (pa_cons (pcK pe_int) (pa_cons (pcK pe_int) (pa_cons (pcK pe_int) (pa_cons (pcK pe_int) (pa_cons (pcK pe_int) pnK))))))) (pg_name (i := 3) nd rfl (Or.inl rfl)) (pss_one (ps_asg (pe_callTy (call_listK (K := K) rfl) (by rfl) T.b_list (by decide +kernel) (pa_cons (pe_ix (ix_listK (K := K) rfl) (pv 1) (pv 3) (fun _ _ => rfl)) pnK)) (pg_sub (pv 2) (pv 3) set_list)))) (pss_cons (ps_set (i := 4) nd rfl (Or.inl rfl) (pe_slice (sl_listK (K := K) rfl) (pv 2) (po_some (pcK pe_int)) po_noK)) (pss_cons (ps_set (i := 5) nd rfl (Or.inl rfl) (pe_mkD C_Asking___init__.toMakD 5 (by decide) (hr.mono (by decide)) pass0 (pa_cons (pe_ix (ix_listK (K := K) rfl) (pv 2) (pcK pe_int) (fun _ _ => rfl)) (pa_cons (pe_ix (ix_listK (K := K) rfl) (pv 2) (pcK pe_int) (fun _ _ => rfl)) (pa_cons (pe_ix (ix_listK (K := K) rfl) (pv 2) (pcK pe_int) (fun _ _ => rfl)) (pa_cons (pe_ix (ix_listK (K := K) rfl) (pv 2) (pcK pe_int) (fun _ _ => rfl)) (pa_cons (pe_ix (ix_listK (K := K) rfl) (pv 4) (pcK pe_int) (fun _ _ => rfl)) (pa_cons (pe_ix (ix_listK (K := K) rfl) (pv 4) (pcK pe_int) (fun _ _ => rfl)) (pa_cons (pe_ix (ix_listK (K := K) rfl) (pv 4) (pcK pe_int) (fun _ _ => rfl)) (pa_cons (pe_ix (ix_listK (K := K) rfl) (pv 4) (pcK pe_int) (fun _ _ => rfl)) (pa_cons (pe_ix (ix_listK (K := K) rfl) (pv 4) (pcK pe_int) (fun _ _ => rfl)) pnK))))))))))) (pss_cons (ps_if (ptK (PW.pt (pw_or (pt_cmpR (op_neDK (K := K) rfl hr.units) (pv 2) (pv 1) (nomark _)) (pw_or1 (pt_not (pt_val (pe_cal C_law_are (hr.mono (by decide)) pass0 (pa_cons (pv 5) (pa_cons (pv 1) pnK))))))))) (pss_one (ps_ret (pcK pe_bl))) pss_nil) (pss_cons (ps_set (i := 6) nd rfl (Or.inl rfl) (pe_mkD C_Asking___init__.toMakD 0 (by decide) (hr.mono (by decide)) pass0 (pa_cons (pe_ix (ix_listK (K := K) rfl) (pv 2) (pcK pe_int) (fun _ _ => rfl)) (pa_cons (pe_ix (ix_listK (K := K) rfl) (pv 2) (pcK pe_int) (fun _ _ => rfl)) (pa_cons (pe_ix (ix_listK (K := K) rfl) (pv 2) (pcK pe_int) (fun _ _ => rfl)) (pa_cons (pe_ix (ix_listK (K := K) rfl) (pv 2) (pcK pe_int) (fun _ _ => rfl)) pnK)))))) (pss_cons (ps_set (i := 7) nd rfl (Or.inl rfl) (pe_op op_cat (pe_slice (sl_listK (K := K) rfl) (pv 1) po_noK (po_some (pcK pe_int))) (pe_lstQ (pa_cons (pe_lstQ pnK) (pa_cons (pcK pe_int) (pa_cons (pe_lstQ pnK) (pa_cons (pcK pe_int) (pa_cons (pe_lstQ pnK) pnK)))))))) (pss_cons (ps_if (ptK (pt_not (pt_val (pe_cal C_law_are (hr.mono (by decide)) pass0 (pa_cons (pv 6) (pa_cons (pv 7) pnK)))))) (pss_one (ps_ret (pcK pe_bl))) pss_nil) (pss_cons (ps_set (i := 8) nd rfl (Or.inl rfl) (pe_mkD C_Asking___init__.toMakD 5 (by decide) (hr.mono (by decide)) pass0 (pa_cons (pe_ix (ix_listK (K := K) rfl) (pv 2) (pcK pe_int) (fun _ _ => rfl)) (pa_cons (pe_lstQ pnK) (pa_cons (pcK pe_non) (pa_cons (pe_lstQ pnK) (pa_cons (pcK pe_non) (pa_cons (pcK pe_int) (pa_cons (pcK pe_non) (pa_cons (pcK pe_int) (pa_cons (pcK pe_non) pnK))))))))))) (pss_cons (ps_if (ptK (pt_not (pt_val (pe_cal C_law_are (hr.mono (by decide)) pass0 (pa_cons (pv 8) (pa_cons (pe_lstQ (pa_cons (pe_ix (ix_listK (K := K) rfl) (pv 1) (pcK pe_int) (fun _ _ => rfl)) (pa_cons (pe_lstQ pnK) (pa_cons (pcK pe_non) (pa_cons (pe_lstQ pnK) (pa_cons (pe_lstQ pnK) (pa_cons (pcK pe_int) (pa_cons (pe_lstQ pnK) (pa_cons (pcK pe_int) (pa_cons (pe_lstQ pnK) pnK)))))))))) pnK)))))) (pss_one (ps_ret (pcK pe_bl))) pss_nil) (pss_cons (ps_set (i := 9) nd rfl (Or.inl rfl) (pe_mkN C_Asking___init__ (hr.mono (by decide)) pass0 (pa_cons (pe_ix (ix_listK (K := K) rfl) (pv 2) (pcK pe_int) (fun _ _ => rfl)) (pa_cons (pe_ix (ix_listK (K := K) rfl) (pv 2) (pcK pe_int) (fun _ _ => rfl)) (pa_cons (pe_ix (ix_listK (K := K) rfl) (pv 2) (pcK pe_int) (fun _ _ => rfl)) (pa_cons (pe_ix (ix_listK (K := K) rfl) (pv 2) (pcK pe_int) (fun _ _ => rfl)) pnK)))) (pk_cons (pe_ix (ix_listK (K := K) rfl) (pv 4) (pcK pe_int) (fun _ _ => rfl)) (pk_cons (pe_ix (ix_listK (K := K) rfl) (pv 4) (pcK pe_int) (fun _ _ => rfl)) (pk_cons (pe_ix (ix_listK (K := K) rfl) (pv 4) (pcK pe_int) (fun _ _ => rfl)) pk_nil))))) (pss_cons (ps_set (i := 10) nd rfl (Or.inl rfl) (pe_op op_cat (pe_slice (sl_listK (K := K) rfl) (pv 1) po_noK (po_some (pcK pe_int))) (pe_lstQ (pa_cons (pe_lstQ pnK) (pa_cons (pe_ix (ix_listK (K := K) rfl) (pv 1) (pcK pe_int) (fun _ _ => rfl)) (pa_cons (pe_ix (ix_listK (K := K) rfl) (pv 1) (pcK pe_int) (fun _ _ => rfl)) (pa_cons (pcK pe_int) (pa_cons (pe_ix (ix_listK (K := K) rfl) (pv 1) (pcK pe_int) (fun _ _ => rfl)) pnK)))))))) (pss_cons (ps_if (ptK (pt_not (pt_val (pe_cal C_law_are (hr.mono (by decide)) pass0 (pa_cons (pv 9) (pa_cons (pv 10) pnK)))))) (pss_one (ps_ret (pcK pe_bl))) pss_nil) (pss_cons (ps_for PassesOwn.never rfl (pi_list (pe_lstQ (pa_cons (pcK pe_int) (pa_cons (pcK pe_int) (pa_cons (pcK pe_int) (pa_cons (pcK pe_int) (pa_cons (pcK pe_int) pnK))))))) (pg_name (i := 3) nd rfl (Or.inl rfl)) (pss_one (ps_expr (pe_bm PySem.F.plainAttrs_list PySem.F.slot_list_append PySem.F.type_list_append mt_append (pe_ix (ix_listK (K := K) rfl) (pv 2) (pv 3) (fun _ _ => rfl)) (pa_cons (pe_tupQ (pa_cons (pcK pe_int) (pa_cons (pcK pe_int) pnK))) pnK))))) (pss_one (ps_ret (puK (pe_and (pe_cal C_law_are (hr.mono (by decide)) pass0 (pa_cons (pv 5) (pa_cons (pv 1) pnK))) (pe_and (pe_cal C_law_are (hr.mono (by decide)) pass0 (pa_cons (pv 6) (pa_cons (pv 7) pnK))) (pe_one (pe_cal C_law_are (hr.mono (by decide)) pass0 (pa_cons (pv 9) (pa_cons (pv 10) pnK)))))))))))))))))))))))), ?_⟩
    refine ⟨_, rfl, ⟨trivial, ⟨_, _, _, rfl, hS.zh, (hS.fact 0 rfl), (Good.bnd hm).imp (fun r1 hm => NewO.tel hS.zh (fun v5 Z2 H3 st4 hv5 => ?_)) hWE⟩⟩⟩
    have hS := (hS.step st4).tel (a := r1) hv5
    refine (tgt1 ?_)
    obtain ⟨g11, hm⟩ := Good.chk hm
    obtain ⟨a14, xs15, ev16, hz17, pr18⟩ := pyL (hS.fact 0 rfl)
    refine ⟨_, rfl, ⟨_, ev16, ⟨_, SqL.of (hS.zh _ _ hz17)⟩, (lcKQ (K := K) (src_list hz17 pr18) hS.zh (fun (part_8 : PyData) => part_8) (fun _ => true) g11 (fun part_8 x19 Z20 H21 H22 C23 N24 mem25 st26 y27 kC28 kN29 => ?_) (New.all (New.gen fun handed_12 en13 => New.ownS fun p35 ps36 Z32 H33 st34 o37 => ?_)))⟩⟩
    · skip
      have hS := hS.step st26
      have sx_ := Step.refl hS.zh
      obtain ⟨rfl, h10⟩ := y27
      have h10 := Py.mono st26.zz h10
      have hS := hS.tel h10
      refine (tgt1 ?_)
      refine ⟨rfl, (yesK ⟨_, rfl, (kC28 _ _ _ sx_ rfl h10)⟩)⟩
    have hS := hS.own st34 o37
    refine (tgt1 ?_)
    have hm := Good.vl en13 hm
    have hS := hS.toDm 0 rfl; dsimp only [List.set] at hS
    obtain ⟨handed_38, en39⟩ : ∃ z, z = (handed_12.map Dm.told) := ⟨_, rfl⟩
    have hS := hS.nam 0 rfl en39; dsimp only [List.set] at hS
    have hm := Good.vl en39 hm
    refine ⟨trivial, ⟨trivial, ⟨trivial, ⟨trivial, ⟨trivial, ⟨trivial, (k_lst (K := K) (m := [(1 : Int), (3 : Int), (4 : Int), (6 : Int), (8 : Int)]) hS.zh (.cons rfl (.cons rfl (.cons rfl (.cons rfl (.cons rfl .nil))))) (Nat.le_of_ble_eq_true rfl) (New.tel fun v43 Z40 H41 st42 hv43 => ?_))⟩⟩⟩⟩⟩⟩
    have hS := (hS.step st42).tel (a := [(1 : Int), (3 : Int), (4 : Int), (6 : Int), (8 : Int)]) hv43
    obtain ⟨a44, xs45, ev46, hz47, pr48⟩ := pyL (hS.fact 0 rfl)
    obtain ⟨W52, hm, hWW52⟩ := Good.bndW hm
    refine ⟨_, ev46, ⟨_, SqL.of (hS.zh _ _ hz47)⟩, (forK (Z := Z40) (L := [(1 : Int), (3 : Int), (4 : Int), (6 : Int), (8 : Int)]) (src_list hz47 pr48) (fun rr σr Hr Zr => (∃ (handed_49 : (List Dm)) (v50 : V) (w_law_k : Option V), σr = [some v_law_script, some v5, some v50, w_law_k, none, none, none, none, none, none, none, none] ∧ Sep K Z0 H0 Zr Hr [⟨(Sh.lst (ShL.all Sh.dm)), v50, handed_49⟩, ⟨(Sh.told (α := Scr)), v_law_script, a_law_script⟩, ⟨(Sh.told (α := (List PyData))), v5, r1⟩] ∧ Same Z40 Zr ∧ (Good (forR (fun (s_ : (List Dm)) (q_ : Int) => m_law_b0 r1 s_ q_) handed_49 rr) W52 WE))) ?_ ?_ ?_ ?_)⟩
    · rintro rr σr Hr Zr hk
      obtain ⟨handed_49, v50, w_law_k, rfl, hS, sm51, hm⟩ := hk
      obtain ⟨p84, er_⟩ := hS.ref 0 rfl
      subst er_
      exact ⟨sm51, hS.zh⟩
    · exact ⟨Z40, handed_38, ((.ref p35)), (none), rfl, hS.pick [1, 3, 2] (by decide) rfl, Same.refl _, hm⟩
    · skip
      intro k_53 r54 x55 sg56 H57 H58 Z59 mem60 dec61 hp62 y63
      obtain ⟨handed_49, v50, w_law_k, rfl, hS, sm51, hm⟩ := hp62
      obtain ⟨p64, er_⟩ := hS.ref 0 rfl
      subst er_
      obtain ⟨W65, hm, hn66⟩ := Good.forR hm
      have hm : Good (m_law_b0 r1 handed_49 k_53) _ _ := hm; unfold m_law_b0 at hm
      obtain ⟨rfl, rfl⟩ := y63
      refine (tgt1 ?_)
      obtain ⟨g71, hm⟩ := Good.chk hm
      obtain ⟨g73, hm⟩ := Good.chk hm
      refine ⟨_, rfl, ⟨_, rfl, (k_ixL hS.zh (hS.fact 2 rfl) g71 (fun y72 hy72 => ⟨trivial, (k_listQ hS.zh (fdOf (α := (List PyData)) g73 hy72) (New.ownS fun p77 ps78 Z74 H75 st76 o79 => ?_))⟩))⟩⟩
      have hS := hS.tel (a := ((FromD.fd (α := (List PyData)) (getI r1 k_53)).getD default)) (fdOf (α := (List PyData)) g73 hy72)
      have sm51 := sm51.trans st76.zz
      have hS := hS.own st76 o79
      have hS := hS.ownDm 0 rfl; dsimp only [List.set] at hS
      obtain ⟨g80, hm⟩ := Good.chk hm
      have hS : (Sep K Z0 H0 _ _ [⟨(Sh.lst (ShL.all Sh.dm)), (.ref p64), handed_49⟩, ⟨Sh.dm, (.ref p77), (Dm.own ((FromD.fd (α := (List PyData)) (getI r1 k_53)).getD default))⟩, ⟨(Sh.told (α := (List PyData))), y72, ((FromD.fd (α := (List PyData)) (getI r1 k_53)).getD default)⟩, ⟨(Sh.told (α := Scr)), v_law_script, a_law_script⟩, ⟨(Sh.told (α := (List PyData))), v5, r1⟩]) := hS.pick [2, 0, 1, 3, 4] (by decide) rfl
      refine ⟨_, rfl, ⟨_, rfl, (k_setO hS g80 fun u81 hS => ?_)⟩⟩
      obtain ⟨handed_82, en83⟩ : ∃ z, z = (setI handed_49 k_53 (Dm.own ((FromD.fd (α := (List PyData)) (getI r1 k_53)).getD default))) := ⟨_, rfl⟩
      have hS := hS.nam 0 rfl en83; dsimp only [List.set] at hS
      have hm := Good.vl en83 hm
      have hm := hn66 _ hm
      exact ⟨_, handed_82, ((.ref p64)), (some (.int k_53)), rfl, hS.pick [0, 2, 3] (by decide) rfl, sm51, hm⟩
    · intro sg85 H86 Z87 hp88
      obtain ⟨handed_49, v50, w_law_k, rfl, hS, sm51, hm⟩ := hp88
      obtain ⟨p89, er_⟩ := hS.ref 0 rfl
      subst er_
      have hm := hWW52 _ hm
      have hS : (Sep K Z0 H0 _ _ [⟨(Sh.lst (ShL.all Sh.dm)), (.ref p89), handed_49⟩, ⟨(Sh.told (α := Scr)), v_law_script, a_law_script⟩, ⟨(Sh.told (α := (List PyData))), v5, r1⟩]) := hS.pick [0, 1, 2] (by decide) rfl
      obtain ⟨xs90, hl91, hS⟩ := hS.vals
      have hS : (Sep K Z0 H0 _ _ [⟨(Sh.lstV xs90 Sh.dm), (.ref p89), handed_49⟩, ⟨(Sh.told (α := Scr)), v_law_script, a_law_script⟩, ⟨(Sh.told (α := (List PyData))), v5, r1⟩]) := hS
      refine ⟨_, rfl, ⟨trivial, ⟨_, rfl, ⟨trivial, (k_slV hS fun p92 H93 hS => ?_)⟩⟩⟩⟩
      have hS : (Sep K Z0 H0 _ _ [⟨Sh.raw, (.ref p92), (⟨cutV xs90 (some (4 : Int)) none⟩ : Raw)⟩, ⟨(Sh.lstV xs90 Sh.dm), (.ref p89), handed_49⟩, ⟨(Sh.told (α := Scr)), v_law_script, a_law_script⟩, ⟨(Sh.told (α := (List PyData))), v5, r1⟩]) := hS
      refine (tgt1 ?_)
      have hp94 := (hS.atV 1 rfl).1
      have hSB95 := hS; have bB95 := hS.bor0
      obtain ⟨Z96, ps97, bB95, hS⟩ := hS.bor bB95 1 rfl; dsimp only [List.set] at hS
      obtain ⟨Z98, ps99, bB95, hS⟩ := hS.bor bB95 0 rfl; dsimp only [List.set] at hS
      have sB95 := Step.refl hS.zh
      have h100 := raw_told hS.zh hp94 (hS.fact 1 rfl) (hS.fact 0 rfl)
      have hS := hS.tel (a := (cutL (handed_49.map Dm.dat) (some (4 : Int)) none)) h100
      have hS := hS.datDm 2 rfl; dsimp only [List.set] at hS
      obtain ⟨g101, hm⟩ := Good.chk hm
      obtain ⟨g103, hm⟩ := Good.chk hm
      obtain ⟨g104, hm⟩ := Good.chk hm
      obtain ⟨g106, hm⟩ := Good.chk hm
      obtain ⟨g107, hm⟩ := Good.chk hm
      obtain ⟨g109, hm⟩ := Good.chk hm
      obtain ⟨g111, hm⟩ := Good.chk hm
      obtain ⟨g112, hm⟩ := Good.chk hm
      obtain ⟨g114, hm⟩ := Good.chk hm
      obtain ⟨g115, hm⟩ := Good.chk hm
      obtain ⟨g117, hm⟩ := Good.chk hm
      obtain ⟨g118, hm⟩ := Good.chk hm
      obtain ⟨g120, hm⟩ := Good.chk hm
      obtain ⟨g121, hm⟩ := Good.chk hm
      obtain ⟨g123, hm⟩ := Good.chk hm
      obtain ⟨g124, hm⟩ := Good.chk hm
      obtain ⟨g126, hm⟩ := Good.chk hm
      refine ⟨_, rfl, ⟨trivial, (k_ixL hS.zh (hS.fact 2 rfl) g101 (dyK (α := Str) g103 ⟨_, rfl, ⟨trivial, (k_ixL hS.zh (hS.fact 2 rfl) g104 (fun y105 hy105 => ⟨_, rfl, ⟨trivial, (k_ixL hS.zh (hS.fact 2 rfl) g107 (fun y108 hy108 => ⟨_, rfl, ⟨trivial, (k_ixL hS.zh (hS.fact 2 rfl) g109 (fun y110 hy110 => ⟨_, rfl, ⟨trivial, (k_ixL hS.zh (hS.fact 0 rfl) g112 (fun y113 hy113 => ⟨_, rfl, ⟨trivial, (k_ixL hS.zh (hS.fact 0 rfl) g115 (dyK (α := Int) g117 ⟨_, rfl, ⟨trivial, (k_ixL hS.zh (hS.fact 0 rfl) g118 (fun y119 hy119 => ⟨_, rfl, ⟨trivial, (k_ixL hS.zh (hS.fact 0 rfl) g121 (dyK (α := Int) g123 ⟨_, rfl, ⟨trivial, (k_ixL hS.zh (hS.fact 0 rfl) g124 (fun y125 hy125 => ⟨trivial, fun x_r127 dx_ nx_ ndx_ ne_ => ⟨_, x_r127, dx_, _, _, _, _, _, _, _, (some ((FromD.fd (α := (List (T4 (Int × Int) (Int × Int) Str (Int × Int)))) (getI (cutL (handed_49.map Dm.dat) (some (4 : Int)) none) (0 : Int))).getD default)), _, _, (some ((FromD.fd (α := (List (Int × Int))) (getI (cutL (handed_49.map Dm.dat) (some (4 : Int)) none) (2 : Int))).getD default)), _, _, (some ((FromD.fd (α := (List (Int × Int))) (getI (cutL (handed_49.map Dm.dat) (some (4 : Int)) none) (4 : Int))).getD default)), _, rfl, new_zh hS.zh nx_ ndx_ ne_, ⟨_, T.nk_Asking, upd_same⟩, new_dx ne_, (fdOf (α := (List ((Int × Int) × Str))) g106 hy105), hy108, (fdOf (α := (List (Int × Int))) g111 hy110), (r_some (fdOf (α := (List (T4 (Int × Int) (Int × Int) Str (Int × Int)))) g114 hy113)), (r_some (fdOf (α := (List (Int × Int))) g120 hy119)), (r_some (fdOf (α := (List (Int × Int))) g126 hy125)), (Good.bnd hm).imp (fun r127 hm => new_fitP nx_ ndx_ ne_ (fun ps132 Z128 H129 st130 o133 => ?_)) hWE⟩⟩))⟩⟩))⟩⟩))⟩⟩))⟩⟩))⟩⟩))⟩⟩))⟩⟩))⟩⟩))⟩⟩
      have hS := hS.tel (a := ((FromD.fd (α := (List ((Int × Int) × Str))) (getI (handed_49.map Dm.dat) (1 : Int))).getD default)) (fdOf (α := (List ((Int × Int) × Str))) g106 hy105)
      have hS := hS.tel (a := (getI (handed_49.map Dm.dat) (2 : Int))) hy108
      have hS := hS.tel (a := ((FromD.fd (α := (List (Int × Int))) (getI (handed_49.map Dm.dat) (3 : Int))).getD default)) (fdOf (α := (List (Int × Int))) g111 hy110)
      have hS := hS.tel (a := ((FromD.fd (α := (List (T4 (Int × Int) (Int × Int) Str (Int × Int)))) (getI (cutL (handed_49.map Dm.dat) (some (4 : Int)) none) (0 : Int))).getD default)) (fdOf (α := (List (T4 (Int × Int) (Int × Int) Str (Int × Int)))) g114 hy113)
      have hS := hS.tel (a := ((FromD.fd (α := (List (Int × Int))) (getI (cutL (handed_49.map Dm.dat) (some (4 : Int)) none) (2 : Int))).getD default)) (fdOf (α := (List (Int × Int))) g120 hy119)
      have hS := hS.tel (a := ((FromD.fd (α := (List (Int × Int))) (getI (cutL (handed_49.map Dm.dat) (some (4 : Int)) none) (4 : Int))).getD default)) (fdOf (α := (List (Int × Int))) g126 hy125)
      have so134 := sB95.hh
      have sB95 := sB95.trans st130
      have hS := hS.own st130 o133
      refine (tgt1 ?_)
      have hoB95 := bB95.own2 so134 sB95 o133
      have stB95 := bB95.back hSB95.zh sB95
      have hS := hSB95.own stB95 hoB95
      obtain ⟨Z135, s136, hS⟩ := hS.tell 0 rfl; dsimp only [List.set] at hS
      have hSB138 := hS; have bB138 := hS.bor0
      obtain ⟨Z139, ps140, bB138, hS⟩ := hS.bor bB138 2 rfl; dsimp only [List.set] at hS
      have sB138 := Step.refl hS.zh
      have hS := hS.datDm 2 rfl; dsimp only [List.set] at hS
      obtain ⟨W144, hmb, hWW144⟩ := Good.bndW hm
      refine ⟨trivial, testK2 (Z := Z139) (fun z_ => W144 z_) (fun Q_ q145 => ?_) (fun t143 Z146 H147 w149 st148 => ?_)⟩
      · skip
        have hm := hmb
        have sx_ := Step.refl hS.zh
        obtain ⟨g141, hm⟩ := Good.chk hm
        refine ⟨_, rfl, ⟨_, rfl, (k_neT (α := (List PyData)) (Rn.tel hS.zh (hS.fact 2 rfl)) (Rn.tel hS.zh (hS.fact 4 rfl)) g141 ⟨_, rfl, (ite2 (fun e150 => ?_) (fun e151 => ?_))⟩)⟩⟩
        · have hm := Good.ifT e150 hm
          exact q145 _ _ _ hm sx_
        · skip
          have hm := Good.ifF e151 hm
          refine ⟨_, rfl, ⟨_, rfl, ⟨trivial, ⟨_, _, _, _, _, rfl, hS.zh, (hS.fact 0 rfl), (hS.fact 4 rfl), (Good.bnd hm).imp (fun r142 hm => fun Z152 H153 st154 => ?_) hWE⟩⟩⟩⟩
          have sx_ := sx_.trans st154
          have hS := hS.step st154
          refine ⟨_, rfl, (q145 _ _ _ hm sx_)⟩
      have hm := hWW144 _ w149
      have sB138 := sB138.trans st148
      have hS := hS.step st148
      refine (ite2b (fun tb157 => ?_))
      have stB138 := bB138.back hSB138.zh sB138
      have hS := hSB138.step stB138
      refine ite2 (fun e155 => ?_) (fun e156 => ?_)
      · skip
        have hm := Good.ifT e155 hm
        refine ⟨trivial, ?_⟩
        exact hW _ hm _ _ hS.st
      · skip
        have hm := Good.ifF e156 hm
        have hSB159 := hS; have bB159 := hS.bor0
        obtain ⟨Z160, ps161, bB159, hS⟩ := hS.bor bB159 2 rfl; dsimp only [List.set] at hS
        have sB159 := Step.refl hS.zh
        have hS := hS.datDm 2 rfl; dsimp only [List.set] at hS
        obtain ⟨g162, hm⟩ := Good.chk hm
        obtain ⟨g164, hm⟩ := Good.chk hm
        obtain ⟨g165, hm⟩ := Good.chk hm
        obtain ⟨g167, hm⟩ := Good.chk hm
        obtain ⟨g168, hm⟩ := Good.chk hm
        obtain ⟨g170, hm⟩ := Good.chk hm
        obtain ⟨g172, hm⟩ := Good.chk hm
        refine ⟨_, rfl, ⟨trivial, (k_ixL hS.zh (hS.fact 2 rfl) g162 (dyK (α := Str) g164 ⟨_, rfl, ⟨trivial, (k_ixL hS.zh (hS.fact 2 rfl) g165 (fun y166 hy166 => ⟨_, rfl, ⟨trivial, (k_ixL hS.zh (hS.fact 2 rfl) g168 (fun y169 hy169 => ⟨_, rfl, ⟨trivial, (k_ixL hS.zh (hS.fact 2 rfl) g170 (fun y171 hy171 => ⟨trivial, fun x_r173 dx_ nx_ ndx_ ne_ => ⟨_, x_r173, dx_, _, _, _, _, _, _, _, (none : Option (List (T4 (Int × Int) (Int × Int) Str (Int × Int)))), _, _, (none : Option (List (Int × Int))), _, _, (none : Option (List (Int × Int))), _, rfl, new_zh hS.zh nx_ ndx_ ne_, ⟨_, T.nk_Asking, upd_same⟩, new_dx ne_, (fdOf (α := (List ((Int × Int) × Str))) g167 hy166), hy169, (fdOf (α := (List (Int × Int))) g172 hy171), rfl, rfl, rfl, (Good.bnd hm).imp (fun r173 hm => new_fitP nx_ ndx_ ne_ (fun ps178 Z174 H175 st176 o179 => ?_)) hWE⟩⟩))⟩⟩))⟩⟩))⟩⟩))⟩⟩
        have hS := hS.tel (a := ((FromD.fd (α := (List ((Int × Int) × Str))) (getI (handed_49.map Dm.dat) (1 : Int))).getD default)) (fdOf (α := (List ((Int × Int) × Str))) g167 hy166)
        have hS := hS.tel (a := (getI (handed_49.map Dm.dat) (2 : Int))) hy169
        have hS := hS.tel (a := ((FromD.fd (α := (List (Int × Int))) (getI (handed_49.map Dm.dat) (3 : Int))).getD default)) (fdOf (α := (List (Int × Int))) g172 hy171)
        have so180 := sB159.hh
        have sB159 := sB159.trans st176
        have hS := hS.own st176 o179
        refine (tgt1 ?_)
        have hoB159 := bB159.own2 so180 sB159 o179
        have stB159 := bB159.back hSB159.zh sB159
        have hS := hSB159.own stB159 hoB159
        refine ⟨_, rfl, ⟨trivial, ⟨trivial, ⟨_, rfl, (k_slL hS.zh (hS.fact 5 rfl) (New.tel fun v187 Z184 H185 st186 hv187 => ?_))⟩⟩⟩⟩
        have hS := (hS.step st186).tel (a := (cutL r1 none (some (4 : Int)))) hv187
        refine ⟨trivial, (k_lst (K := K) (m := ([] : (List Int))) hS.zh .nil (Nat.le_of_ble_eq_true rfl) (New.tel fun v191 Z188 H189 st190 hv191 => ?_))⟩
        have hS := (hS.step st190).tel (a := ([] : (List Int))) hv191
        refine ⟨trivial, ⟨trivial, (k_lst (K := K) (m := ([] : (List Int))) hS.zh .nil (Nat.le_of_ble_eq_true rfl) (New.tel fun v195 Z192 H193 st194 hv195 => ?_))⟩⟩
        have hS := (hS.step st194).tel (a := ([] : (List Int))) hv195
        refine ⟨trivial, ⟨trivial, (k_lst (K := K) (m := ([] : (List Int))) hS.zh .nil (Nat.le_of_ble_eq_true rfl) (New.tel fun v199 Z196 H197 st198 hv199 => ?_))⟩⟩
        have hS := (hS.step st198).tel (a := ([] : (List Int))) hv199
        refine ⟨trivial, (k_lst (K := K) (m := [(ToD.td (([] : (List Int)) : (List Int))), (ToD.td ((0 : Int) : Int)), (ToD.td (([] : (List Int)) : (List Int))), (ToD.td ((6 : Int) : Int)), (ToD.td (([] : (List Int)) : (List Int)))]) hS.zh (.cons (ToD.tr (α := (List Int)) (a := ([] : (List Int))) (hS.fact 2 rfl)) (.cons (ToD.tr (α := Int) (a := (0 : Int)) rfl) (.cons (ToD.tr (α := (List Int)) (a := ([] : (List Int))) (hS.fact 1 rfl)) (.cons (ToD.tr (α := Int) (a := (6 : Int)) rfl) (.cons (ToD.tr (α := (List Int)) (a := ([] : (List Int))) (hS.fact 0 rfl)) .nil))))) (Nat.le_of_ble_eq_true rfl) (New.tel fun v203 Z200 H201 st202 hv203 => ?_))⟩
        have hS := (hS.step st202).tel (a := [(ToD.td (([] : (List Int)) : (List Int))), (ToD.td ((0 : Int) : Int)), (ToD.td (([] : (List Int)) : (List Int))), (ToD.td ((6 : Int) : Int)), (ToD.td (([] : (List Int)) : (List Int)))]) hv203
        obtain ⟨g181, hm⟩ := Good.chk hm
        refine (k_catL hS.zh (RO.tell hS.zh (hS.fact 4 rfl)) (RO.tell hS.zh (hS.fact 0 rfl)) g181 (New.gen fun due_182 en183 => New.tel fun v207 Z204 H205 st206 hv207 => ?_))
        have hS := (hS.step st206).tel (a := due_182) hv207
        refine (tgt1 ?_)
        have hm := Good.vl en183 hm
        have hS := hS.drop1
        have hS := hS.drop1
        have hS := hS.drop1
        have hS := hS.drop1
        have hS := hS.drop1
        obtain ⟨Z209, s210, hS⟩ := hS.tell 1 rfl; dsimp only [List.set] at hS
        refine ⟨trivial, ⟨_, rfl, ⟨_, rfl, ⟨trivial, ⟨_, _, _, _, _, rfl, hS.zh, (hS.fact 1 rfl), (hS.fact 0 rfl), (Good.bnd hm).imp (fun r211 hm => fun Z212 H213 st214 => ?_) hWE⟩⟩⟩⟩⟩
        have hS := hS.step st214
        refine ⟨_, rfl, (ite2 (fun e215 => ?_) (fun e216 => ?_))⟩
        · skip
          have hm := Good.ifT e215 hm
          refine ⟨trivial, ?_⟩
          exact hW _ hm _ _ hS.st
        · skip
          have hm := Good.ifF e216 hm
          have hSB218 := hS; have bB218 := hS.bor0
          obtain ⟨Z219, ps220, bB218, hS⟩ := hS.bor bB218 4 rfl; dsimp only [List.set] at hS
          have sB218 := Step.refl hS.zh
          have hS := hS.datDm 4 rfl; dsimp only [List.set] at hS
          obtain ⟨g221, hm⟩ := Good.chk hm
          obtain ⟨g223, hm⟩ := Good.chk hm
          refine ⟨_, rfl, ⟨trivial, (k_ixL hS.zh (hS.fact 4 rfl) g221 (dyK (α := Str) g223 ⟨trivial, (k_lst (K := K) (m := ([] : (List ((Int × Int) × Str)))) hS.zh .nil (Nat.le_of_ble_eq_true rfl) (New.tel fun v228 Z225 H226 st227 hv228 => ?_))⟩))⟩⟩
          have sB218 := sB218.trans st227
          have hS := (hS.step st227).tel (a := ([] : (List ((Int × Int) × Str)))) hv228
          refine ⟨trivial, ⟨trivial, (k_lst (K := K) (m := ([] : (List (Int × Int)))) hS.zh .nil (Nat.le_of_ble_eq_true rfl) (New.tel fun v232 Z229 H230 st231 hv232 => ?_))⟩⟩
          have sB218 := sB218.trans st231
          have hS := (hS.step st231).tel (a := ([] : (List (Int × Int)))) hv232
          refine ⟨trivial, ⟨trivial, ⟨trivial, ⟨trivial, ⟨trivial, ⟨trivial, fun x_r224 dx_ nx_ ndx_ ne_ => ⟨_, x_r224, dx_, _, _, _, _, _, _, _, (none : Option (List (T4 (Int × Int) (Int × Int) Str (Int × Int)))), _, _, (none : Option (List (Int × Int))), _, _, (none : Option (List (Int × Int))), _, rfl, new_zh hS.zh nx_ ndx_ ne_, ⟨_, T.nk_Asking, upd_same⟩, new_dx ne_, (hS.fact 1 rfl), (ToD.tr (α := Unit) (a := ()) rfl), (hS.fact 0 rfl), rfl, rfl, rfl, (Good.bnd hm).imp (fun r224 hm => new_fitP nx_ ndx_ ne_ (fun ps237 Z233 H234 st235 o238 => ?_)) hWE⟩⟩⟩⟩⟩⟩⟩
          have so239 := sB218.hh
          have sB218 := sB218.trans st235
          have hS := hS.own st235 o238
          refine (tgt1 ?_)
          have hoB218 := bB218.own2 so239 sB218 o238
          have stB218 := bB218.back hSB218.zh sB218
          have hS := hSB218.own stB218 hoB218
          obtain ⟨Z244, s245, hS⟩ := hS.tell 0 rfl; dsimp only [List.set] at hS
          obtain ⟨g246, hm⟩ := Good.chk hm
          obtain ⟨g248, hm⟩ := Good.chk hm
          refine ⟨trivial, ⟨_, rfl, ⟨_, rfl, ⟨trivial, (k_ixL hS.zh (hS.fact 7 rfl) g246 (dyK (α := Str) g248 ⟨trivial, (k_lst (K := K) (m := ([] : (List Int))) hS.zh .nil (Nat.le_of_ble_eq_true rfl) (New.tel fun v253 Z250 H251 st252 hv253 => ?_))⟩))⟩⟩⟩⟩
          have hS := (hS.step st252).tel (a := ([] : (List Int))) hv253
          refine ⟨trivial, ⟨trivial, (k_lst (K := K) (m := ([] : (List Int))) hS.zh .nil (Nat.le_of_ble_eq_true rfl) (New.tel fun v257 Z254 H255 st256 hv257 => ?_))⟩⟩
          have hS := (hS.step st256).tel (a := ([] : (List Int))) hv257
          refine ⟨trivial, (k_lst (K := K) (m := ([] : (List Int))) hS.zh .nil (Nat.le_of_ble_eq_true rfl) (New.tel fun v261 Z258 H259 st260 hv261 => ?_))⟩
          have hS := (hS.step st260).tel (a := ([] : (List Int))) hv261
          refine ⟨trivial, ⟨trivial, (k_lst (K := K) (m := ([] : (List Int))) hS.zh .nil (Nat.le_of_ble_eq_true rfl) (New.tel fun v265 Z262 H263 st264 hv265 => ?_))⟩⟩
          have hS := (hS.step st264).tel (a := ([] : (List Int))) hv265
          refine ⟨trivial, ⟨trivial, (k_lst (K := K) (m := ([] : (List Int))) hS.zh .nil (Nat.le_of_ble_eq_true rfl) (New.tel fun v269 Z266 H267 st268 hv269 => ?_))⟩⟩
          have hS := (hS.step st268).tel (a := ([] : (List Int))) hv269
          refine ⟨trivial, (k_lst (K := K) (m := [(ToD.td (((FromD.fd (α := Str) (getI r1 (0 : Int))).getD default) : Str)), (ToD.td (([] : (List Int)) : (List Int))), (ToD.td (() : Unit)), (ToD.td (([] : (List Int)) : (List Int))), (ToD.td (([] : (List Int)) : (List Int))), (ToD.td ((0 : Int) : Int)), (ToD.td (([] : (List Int)) : (List Int))), (ToD.td ((12 : Int) : Int)), (ToD.td (([] : (List Int)) : (List Int)))]) hS.zh (.cons (ToD.tr (α := Str) (a := ((FromD.fd (α := Str) (getI r1 (0 : Int))).getD default)) rfl) (.cons (ToD.tr (α := (List Int)) (a := ([] : (List Int))) (hS.fact 4 rfl)) (.cons (ToD.tr (α := Unit) (a := ()) rfl) (.cons (ToD.tr (α := (List Int)) (a := ([] : (List Int))) (hS.fact 3 rfl)) (.cons (ToD.tr (α := (List Int)) (a := ([] : (List Int))) (hS.fact 2 rfl)) (.cons (ToD.tr (α := Int) (a := (0 : Int)) rfl) (.cons (ToD.tr (α := (List Int)) (a := ([] : (List Int))) (hS.fact 1 rfl)) (.cons (ToD.tr (α := Int) (a := (12 : Int)) rfl) (.cons (ToD.tr (α := (List Int)) (a := ([] : (List Int))) (hS.fact 0 rfl)) .nil))))))))) (Nat.le_of_ble_eq_true rfl) (New.tel fun v273 Z270 H271 st272 hv273 => ?_))⟩
          have hS := (hS.step st272).tel (a := [(ToD.td (((FromD.fd (α := Str) (getI r1 (0 : Int))).getD default) : Str)), (ToD.td (([] : (List Int)) : (List Int))), (ToD.td (() : Unit)), (ToD.td (([] : (List Int)) : (List Int))), (ToD.td (([] : (List Int)) : (List Int))), (ToD.td ((0 : Int) : Int)), (ToD.td (([] : (List Int)) : (List Int))), (ToD.td ((12 : Int) : Int)), (ToD.td (([] : (List Int)) : (List Int)))]) hv273
          refine ⟨trivial, ⟨_, _, _, _, _, rfl, hS.zh, (hS.fact 6 rfl), (hS.fact 0 rfl), (Good.bnd hm).imp (fun r249 hm => fun Z274 H275 st276 => ?_) hWE⟩⟩
          have hS := hS.step st276
          refine ⟨_, rfl, (ite2 (fun e277 => ?_) (fun e278 => ?_))⟩
          · skip
            have hm := Good.ifT e277 hm
            have hS := hS.drop
            have hS := hS.drop
            have hS := hS.drop
            have hS := hS.drop
            have hS := hS.drop
            have hS := hS.drop
            refine ⟨trivial, ?_⟩
            exact hW _ hm _ _ hS.st
          · skip
            have hm := Good.ifF e278 hm
            have hS := hS.drop
            have hS := hS.drop
            have hS := hS.drop
            have hS := hS.drop
            have hS := hS.drop
            have hS := hS.drop
            have hp279 := (hS.atV 5 rfl).1
            have hSB280 := hS; have bB280 := hS.bor0
            obtain ⟨Z281, ps282, bB280, hS⟩ := hS.bor bB280 5 rfl; dsimp only [List.set] at hS
            obtain ⟨Z283, ps284, bB280, hS⟩ := hS.bor bB280 4 rfl; dsimp only [List.set] at hS
            have sB280 := Step.refl hS.zh
            have h285 := raw_told hS.zh hp279 (hS.fact 5 rfl) (hS.fact 4 rfl)
            have hS := hS.tel (a := (cutL (handed_49.map Dm.dat) (some (4 : Int)) none)) h285
            have hS := hS.datDm 6 rfl; dsimp only [List.set] at hS
            obtain ⟨g286, hm⟩ := Good.chk hm
            obtain ⟨g288, hm⟩ := Good.chk hm
            obtain ⟨g289, hm⟩ := Good.chk hm
            obtain ⟨g291, hm⟩ := Good.chk hm
            obtain ⟨g292, hm⟩ := Good.chk hm
            obtain ⟨g294, hm⟩ := Good.chk hm
            obtain ⟨g296, hm⟩ := Good.chk hm
            obtain ⟨g297, hm⟩ := Good.chk hm
            obtain ⟨g299, hm⟩ := Good.chk hm
            obtain ⟨g300, hm⟩ := Good.chk hm
            obtain ⟨g302, hm⟩ := Good.chk hm
            obtain ⟨g303, hm⟩ := Good.chk hm
            obtain ⟨g305, hm⟩ := Good.chk hm
            refine ⟨_, rfl, ⟨trivial, (k_ixL hS.zh (hS.fact 6 rfl) g286 (dyK (α := Str) g288 ⟨_, rfl, ⟨trivial, (k_ixL hS.zh (hS.fact 6 rfl) g289 (fun y290 hy290 => ⟨_, rfl, ⟨trivial, (k_ixL hS.zh (hS.fact 6 rfl) g292 (fun y293 hy293 => ⟨_, rfl, ⟨trivial, (k_ixL hS.zh (hS.fact 6 rfl) g294 (fun y295 hy295 => ⟨trivial, ⟨_, rfl, ⟨trivial, (k_ixL hS.zh (hS.fact 0 rfl) g297 (dyK (α := Int) g299 ⟨_, rfl, ⟨trivial, (k_ixL hS.zh (hS.fact 0 rfl) g300 (fun y301 hy301 => ⟨_, rfl, ⟨trivial, (k_ixL hS.zh (hS.fact 0 rfl) g303 (fun y304 hy304 => ⟨rfl, rfl, fun x_r306 dx_ nx_ ndx_ ne_ => ⟨_, x_r306, dx_, _, _, _, _, _, _, _, (none : Option (List (T4 (Int × Int) (Int × Int) Str (Int × Int)))), _, _, (some ((FromD.fd (α := (List (Int × Int))) (getI (cutL (handed_49.map Dm.dat) (some (4 : Int)) none) (2 : Int))).getD default)), _, _, (some ((FromD.fd (α := (List (Int × Int))) (getI (cutL (handed_49.map Dm.dat) (some (4 : Int)) none) (4 : Int))).getD default)), _, rfl, new_zh hS.zh nx_ ndx_ ne_, ⟨_, T.nk_Asking, upd_same⟩, new_dx ne_, (fdOf (α := (List ((Int × Int) × Str))) g291 hy290), hy293, (fdOf (α := (List (Int × Int))) g296 hy295), rfl, (r_some (fdOf (α := (List (Int × Int))) g302 hy301)), (r_some (fdOf (α := (List (Int × Int))) g305 hy304)), (Good.bnd hm).imp (fun r306 hm => new_fitP nx_ ndx_ ne_ (fun ps311 Z307 H308 st309 o312 => ?_)) hWE⟩⟩))⟩⟩))⟩⟩))⟩⟩⟩))⟩⟩))⟩⟩))⟩⟩))⟩⟩
            have hS := hS.tel (a := ((FromD.fd (α := (List ((Int × Int) × Str))) (getI (handed_49.map Dm.dat) (1 : Int))).getD default)) (fdOf (α := (List ((Int × Int) × Str))) g291 hy290)
            have hS := hS.tel (a := (getI (handed_49.map Dm.dat) (2 : Int))) hy293
            have hS := hS.tel (a := ((FromD.fd (α := (List (Int × Int))) (getI (handed_49.map Dm.dat) (3 : Int))).getD default)) (fdOf (α := (List (Int × Int))) g296 hy295)
            have hS := hS.tel (a := ((FromD.fd (α := (List (Int × Int))) (getI (cutL (handed_49.map Dm.dat) (some (4 : Int)) none) (2 : Int))).getD default)) (fdOf (α := (List (Int × Int))) g302 hy301)
            have hS := hS.tel (a := ((FromD.fd (α := (List (Int × Int))) (getI (cutL (handed_49.map Dm.dat) (some (4 : Int)) none) (4 : Int))).getD default)) (fdOf (α := (List (Int × Int))) g305 hy304)
            have so313 := sB280.hh
            have sB280 := sB280.trans st309
            have hS := hS.own st309 o312
            refine (tgt1 ?_)
            have hoB280 := bB280.own2 so313 sB280 o312
            have stB280 := bB280.back hSB280.zh sB280
            have hS := hSB280.own stB280 hoB280
            refine ⟨_, rfl, ⟨trivial, ⟨trivial, ⟨_, rfl, (k_slL hS.zh (hS.fact 8 rfl) (New.tel fun v329 Z326 H327 st328 hv329 => ?_))⟩⟩⟩⟩
            have hS := (hS.step st328).tel (a := (cutL r1 none (some (4 : Int)))) hv329
            refine ⟨trivial, (k_lst (K := K) (m := ([] : (List Int))) hS.zh .nil (Nat.le_of_ble_eq_true rfl) (New.tel fun v333 Z330 H331 st332 hv333 => ?_))⟩
            have hS := (hS.step st332).tel (a := ([] : (List Int))) hv333
            obtain ⟨g314, hm⟩ := Good.chk hm
            obtain ⟨g316, hm⟩ := Good.chk hm
            obtain ⟨g317, hm⟩ := Good.chk hm
            obtain ⟨g319, hm⟩ := Good.chk hm
            obtain ⟨g320, hm⟩ := Good.chk hm
            obtain ⟨g322, hm⟩ := Good.chk hm
            refine ⟨_, rfl, ⟨trivial, (k_ixL hS.zh (hS.fact 10 rfl) g314 (dyK (α := Int) g316 ⟨_, rfl, ⟨trivial, (k_ixL hS.zh (hS.fact 10 rfl) g317 (fun y318 hy318 => ⟨trivial, ⟨_, rfl, ⟨trivial, (k_ixL hS.zh (hS.fact 10 rfl) g320 (fun y321 hy321 => ⟨trivial, (k_lst (K := K) (m := [(ToD.td (([] : (List Int)) : (List Int))), (ToD.td (((FromD.fd (α := Int) (getI r1 (5 : Int))).getD default) : Int)), (ToD.td (((FromD.fd (α := (List (Int × Int))) (getI r1 (6 : Int))).getD default) : (List (Int × Int)))), (ToD.td ((6 : Int) : Int)), (ToD.td (((FromD.fd (α := (List (Int × Int))) (getI r1 (8 : Int))).getD default) : (List (Int × Int))))]) hS.zh (.cons (ToD.tr (α := (List Int)) (a := ([] : (List Int))) (hS.fact 0 rfl)) (.cons (ToD.tr (α := Int) (a := ((FromD.fd (α := Int) (getI r1 (5 : Int))).getD default)) rfl) (.cons (ToD.tr (α := (List (Int × Int))) (a := ((FromD.fd (α := (List (Int × Int))) (getI r1 (6 : Int))).getD default)) (fdOf (α := (List (Int × Int))) g319 hy318)) (.cons (ToD.tr (α := Int) (a := (6 : Int)) rfl) (.cons (ToD.tr (α := (List (Int × Int))) (a := ((FromD.fd (α := (List (Int × Int))) (getI r1 (8 : Int))).getD default)) (fdOf (α := (List (Int × Int))) g322 hy321)) .nil))))) (Nat.le_of_ble_eq_true rfl) (New.tel fun v337 Z334 H335 st336 hv337 => ?_))⟩))⟩⟩⟩))⟩⟩))⟩⟩
            have hS := hS.tel (a := ((FromD.fd (α := (List (Int × Int))) (getI r1 (6 : Int))).getD default)) (fdOf (α := (List (Int × Int))) g319 hy318)
            have hS := hS.tel (a := ((FromD.fd (α := (List (Int × Int))) (getI r1 (8 : Int))).getD default)) (fdOf (α := (List (Int × Int))) g322 hy321)
            have hS := (hS.step st336).tel (a := [(ToD.td (([] : (List Int)) : (List Int))), (ToD.td (((FromD.fd (α := Int) (getI r1 (5 : Int))).getD default) : Int)), (ToD.td (((FromD.fd (α := (List (Int × Int))) (getI r1 (6 : Int))).getD default) : (List (Int × Int)))), (ToD.td ((6 : Int) : Int)), (ToD.td (((FromD.fd (α := (List (Int × Int))) (getI r1 (8 : Int))).getD default) : (List (Int × Int))))]) hv337
            obtain ⟨g323, hm⟩ := Good.chk hm
            refine (k_catL hS.zh (RO.tell hS.zh (hS.fact 4 rfl)) (RO.tell hS.zh (hS.fact 0 rfl)) g323 (New.gen fun more_324 en325 => New.tel fun v341 Z338 H339 st340 hv341 => ?_))
            have hS := (hS.step st340).tel (a := more_324) hv341
            refine (tgt1 ?_)
            have hm := Good.vl en325 hm
            have hS := hS.drop1
            have hS := hS.drop1
            have hS := hS.drop1
            have hS := hS.drop1
            have hS := hS.drop1
            obtain ⟨Z343, s344, hS⟩ := hS.tell 1 rfl; dsimp only [List.set] at hS
            refine ⟨trivial, ⟨_, rfl, ⟨_, rfl, ⟨trivial, ⟨_, _, _, _, _, rfl, hS.zh, (hS.fact 1 rfl), (hS.fact 0 rfl), (Good.bnd hm).imp (fun r345 hm => fun Z346 H347 st348 => ?_) hWE⟩⟩⟩⟩⟩
            have hS := hS.step st348
            refine ⟨_, rfl, (ite2 (fun e349 => ?_) (fun e350 => ?_))⟩
            · skip
              have hm := Good.ifT e349 hm
              refine ⟨trivial, ?_⟩
              exact hW _ hm _ _ hS.st
            · skip
              have hm := Good.ifF e350 hm
              have hS : (Sep K Z0 H0 _ _ [⟨(Sh.lstV xs90 Sh.dm), (.ref p89), handed_49⟩, ⟨(Sh.told (α := (List PyData))), v341, more_324⟩, ⟨(Sh.told (α := Asking)), (.ref x_r306), r306⟩, ⟨(Sh.told (α := Asking)), (.ref x_r224), r224⟩, ⟨(Sh.told (α := (List PyData))), v207, due_182⟩, ⟨(Sh.told (α := Asking)), (.ref x_r173), r173⟩, ⟨(Sh.told (α := Asking)), (.ref x_r127), r127⟩, ⟨(Sh.told (α := Scr)), v_law_script, a_law_script⟩, ⟨(Sh.told (α := (List PyData))), v5, r1⟩]) := hS.pick [7, 0, 1, 2, 3, 4, 5, 8, 9] (by decide) rfl
              have hS := hS.unvals
              refine ⟨trivial, ⟨trivial, ⟨trivial, ⟨trivial, ⟨trivial, ⟨trivial, (k_lst (K := K) (m := [(1 : Int), (3 : Int), (4 : Int), (6 : Int), (8 : Int)]) hS.zh (.cons rfl (.cons rfl (.cons rfl (.cons rfl (.cons rfl .nil))))) (Nat.le_of_ble_eq_true rfl) (New.tel fun v354 Z351 H352 st353 hv354 => ?_))⟩⟩⟩⟩⟩⟩
              have hS := (hS.step st353).tel (a := [(1 : Int), (3 : Int), (4 : Int), (6 : Int), (8 : Int)]) hv354
              obtain ⟨a355, xs356, ev357, hz358, pr359⟩ := pyL (hS.fact 0 rfl)
              obtain ⟨W363, hm, hWW363⟩ := Good.bndW hm
              refine ⟨_, ev357, ⟨_, SqL.of (hS.zh _ _ hz358)⟩, (forK (Z := Z351) (L := [(1 : Int), (3 : Int), (4 : Int), (6 : Int), (8 : Int)]) (src_list hz358 pr359) (fun rr σr Hr Zr => (∃ (handed_360 : (List Dm)) (v361 : V) (w_law_k : Option V), σr = [some v_law_script, some v5, some v361, w_law_k, some (.ref p92), some (.ref x_r127), some (.ref x_r173), some v207, some (.ref x_r224), some (.ref x_r306), some v341, none] ∧ Sep K Z0 H0 Zr Hr [⟨(Sh.lst (ShL.all Sh.dm)), v361, handed_360⟩, ⟨(Sh.told (α := Scr)), v_law_script, a_law_script⟩, ⟨(Sh.told (α := (List PyData))), v5, r1⟩, ⟨(Sh.told (α := Asking)), (.ref x_r127), r127⟩, ⟨(Sh.told (α := Asking)), (.ref x_r173), r173⟩, ⟨(Sh.told (α := (List PyData))), v207, due_182⟩, ⟨(Sh.told (α := Asking)), (.ref x_r224), r224⟩, ⟨(Sh.told (α := Asking)), (.ref x_r306), r306⟩, ⟨(Sh.told (α := (List PyData))), v341, more_324⟩] ∧ Same Z351 Zr ∧ (Good (forR (fun (s_ : (List Dm)) (q_ : Int) => m_law_b1 s_ q_) handed_360 rr) W363 WE))) ?_ ?_ ?_ ?_)⟩
              · rintro rr σr Hr Zr hk
                obtain ⟨handed_360, v361, w_law_k, rfl, hS, sm362, hm⟩ := hk
                obtain ⟨p400, er_⟩ := hS.ref 0 rfl
                subst er_
                exact ⟨sm362, hS.zh⟩
              · exact ⟨Z351, handed_49, ((.ref p89)), (w_law_k), rfl, hS.pick [1, 8, 9, 7, 6, 5, 4, 3, 2] (by decide) rfl, Same.refl _, hm⟩
              · skip
                intro k_364 r365 x366 sg367 H368 H369 Z370 mem371 dec372 hp373 y374
                obtain ⟨handed_360, v361, w_law_k, rfl, hS, sm362, hm⟩ := hp373
                obtain ⟨p375, er_⟩ := hS.ref 0 rfl
                subst er_
                obtain ⟨W376, hm, hn377⟩ := Good.forR hm
                have hm : Good (m_law_b1 handed_360 k_364) _ _ := hm; unfold m_law_b1 at hm
                obtain ⟨rfl, rfl⟩ := y374
                refine (tgt1 ?_)
                obtain ⟨g382, hm⟩ := Good.chk hm
                refine ⟨_, rfl, ⟨_, rfl, ?_⟩⟩
                have hS : (Sep K Z0 H0 _ _ [⟨(Sh.lst (ShL.all Sh.dm)), (.ref p375), handed_360⟩, ⟨(Sh.told (α := Scr)), v_law_script, a_law_script⟩, ⟨(Sh.told (α := (List PyData))), v5, r1⟩, ⟨(Sh.told (α := Asking)), (.ref x_r127), r127⟩, ⟨(Sh.told (α := Asking)), (.ref x_r173), r173⟩, ⟨(Sh.told (α := (List PyData))), v207, due_182⟩, ⟨(Sh.told (α := Asking)), (.ref x_r224), r224⟩, ⟨(Sh.told (α := Asking)), (.ref x_r306), r306⟩, ⟨(Sh.told (α := (List PyData))), v341, more_324⟩]) := hS.pick [0, 1, 2, 3, 4, 5, 6, 7, 8] (by decide) rfl
                obtain ⟨xs383, hl384, hS⟩ := hS.vals; obtain ⟨x385, hx386, hS⟩ := hS.takeI g382
                have hS : (Sep K Z0 H0 _ _ [⟨Sh.dm, x385, (getI handed_360 k_364)⟩, ⟨(Sh.lstH xs383 (jx handed_360.length k_364) Sh.dm), (.ref p375), handed_360⟩, ⟨(Sh.told (α := Scr)), v_law_script, a_law_script⟩, ⟨(Sh.told (α := (List PyData))), v5, r1⟩, ⟨(Sh.told (α := Asking)), (.ref x_r127), r127⟩, ⟨(Sh.told (α := Asking)), (.ref x_r173), r173⟩, ⟨(Sh.told (α := (List PyData))), v207, due_182⟩, ⟨(Sh.told (α := Asking)), (.ref x_r224), r224⟩, ⟨(Sh.told (α := Asking)), (.ref x_r306), r306⟩, ⟨(Sh.told (α := (List PyData))), v341, more_324⟩]) := hS
                refine k_ixV (hS.atH 1 rfl).1 hx386 ?_
                obtain ⟨g387, hm⟩ := Good.chk hm
                have hS := hS.unDm 0 rfl g387; dsimp only [List.set] at hS
                obtain ⟨p388, er_⟩ := hS.ref 0 rfl; subst er_
                refine ⟨tyO (hS.L 0 rfl), ⟨trivial, ⟨trivial, ⟨trivial, (k_tup (K := K) (a := (1 : Int)) (b := (36 : Int)) hS.zh rfl rfl (fun v392 Z389 H390 st391 hv392 => ?_))⟩⟩⟩⟩
                have sm362 := sm362.trans st391.zz
                have hS := (hS.step st391).tel (a := ((1 : Int), (36 : Int))) hv392
                refine ⟨trivial, ?_⟩
                obtain ⟨g395, hm⟩ := Good.chk hm
                refine (k_append (a := (ToD.td (((1 : Int), (36 : Int)) : (Int × Int)))) (hS.L 1 rfl) (ToD.tr (α := (Int × Int)) (a := ((1 : Int), (36 : Int))) (hS.fact 0 rfl)) g395 fun u393 o394 => ?_)
                have hS := hS.mutL 1 rfl o394; dsimp only [List.set] at hS
                obtain ⟨part_396, en397⟩ : ∃ z, z = (((getI handed_360 k_364)).its ++ [(ToD.td (((1 : Int), (36 : Int)) : (Int × Int)))]) := ⟨_, rfl⟩
                rw [← en397] at hS
                have hm := Good.vl en397 hm
                have hS := hS.ownDm 1 rfl; dsimp only [List.set] at hS
                have hS : (Sep K Z0 H0 _ _ [⟨Sh.dm, (.ref p388), (Dm.own part_396)⟩, ⟨(Sh.lstH xs383 (jx handed_360.length k_364) Sh.dm), (.ref p375), handed_360⟩, ⟨(Sh.told (α := (Int × Int))), v392, ((1 : Int), (36 : Int))⟩, ⟨(Sh.told (α := Scr)), v_law_script, a_law_script⟩, ⟨(Sh.told (α := (List PyData))), v5, r1⟩, ⟨(Sh.told (α := Asking)), (.ref x_r127), r127⟩, ⟨(Sh.told (α := Asking)), (.ref x_r173), r173⟩, ⟨(Sh.told (α := (List PyData))), v207, due_182⟩, ⟨(Sh.told (α := Asking)), (.ref x_r224), r224⟩, ⟨(Sh.told (α := Asking)), (.ref x_r306), r306⟩, ⟨(Sh.told (α := (List PyData))), v341, more_324⟩]) := hS.pick [1, 2, 0, 3, 4, 5, 6, 7, 8, 9, 10] (by decide) rfl
                have hS := (Sep.giveI g382 hx386 hS).unvals
                have hS : (Sep K Z0 H0 _ _ [⟨(Sh.lst (ShL.all Sh.dm)), (.ref p375), (setI handed_360 k_364 (Dm.own part_396))⟩, ⟨(Sh.told (α := (Int × Int))), v392, ((1 : Int), (36 : Int))⟩, ⟨(Sh.told (α := Scr)), v_law_script, a_law_script⟩, ⟨(Sh.told (α := (List PyData))), v5, r1⟩, ⟨(Sh.told (α := Asking)), (.ref x_r127), r127⟩, ⟨(Sh.told (α := Asking)), (.ref x_r173), r173⟩, ⟨(Sh.told (α := (List PyData))), v207, due_182⟩, ⟨(Sh.told (α := Asking)), (.ref x_r224), r224⟩, ⟨(Sh.told (α := Asking)), (.ref x_r306), r306⟩, ⟨(Sh.told (α := (List PyData))), v341, more_324⟩]) := hS
                obtain ⟨handed_398, en399⟩ : ∃ z, z = (setI handed_360 k_364 (Dm.own part_396)) := ⟨_, rfl⟩
                have hS := hS.nam 0 rfl en399; dsimp only [List.set] at hS
                have hm := Good.vl en399 hm
                have hm := hn377 _ hm
                exact ⟨_, handed_398, ((.ref p375)), (some (.int k_364)), rfl, hS.pick [0, 2, 3, 4, 5, 6, 7, 8, 9] (by decide) rfl, sm362, hm⟩
              · intro sg401 H402 Z403 hp404
                obtain ⟨handed_360, v361, w_law_k, rfl, hS, sm362, hm⟩ := hp404
                obtain ⟨p405, er_⟩ := hS.ref 0 rfl
                subst er_
                have hm := hWW363 _ hm
                obtain ⟨W410, hmb, hWW410⟩ := Good.bndW hm
                refine ⟨trivial, valK2 (Z := Z403) (fun z_ => W410 z_) (fun Q_ q411 => ?_) (fun t409 Z412 H413 w415 st414 => ?_)⟩
                · skip
                  have hm := hmb
                  have sx_ := Step.refl hS.zh
                  refine ⟨_, rfl, ⟨_, rfl, ⟨trivial, ⟨_, _, _, _, _, rfl, hS.zh, (hS.fact 3 rfl), (hS.fact 2 rfl), (Good.bnd hm).imp (fun r406 hm => fun Z416 H417 st418 => ?_) hWE⟩⟩⟩⟩
                  have sx_ := sx_.trans st418
                  have hS := hS.step st418
                  refine ⟨_, rfl, (ite2 (fun e419 => ?_) (fun e420 => ?_))⟩
                  · skip
                    have hm := Good.ifT e419 hm
                    refine ⟨_, rfl, ⟨_, rfl, ⟨trivial, ⟨_, _, _, _, _, rfl, hS.zh, (hS.fact 4 rfl), (hS.fact 5 rfl), (Good.bnd hm).imp (fun r407 hm => fun Z421 H422 st423 => ?_) hWE⟩⟩⟩⟩
                    have sx_ := sx_.trans st423
                    have hS := hS.step st423
                    refine ⟨_, rfl, (ite2 (fun e424 => ?_) (fun e425 => ?_))⟩
                    · skip
                      have hm := Good.ifT e424 hm
                      refine ⟨_, rfl, ⟨_, rfl, ⟨trivial, ⟨_, _, _, _, _, rfl, hS.zh, (hS.fact 7 rfl), (hS.fact 8 rfl), (Good.bnd hm).imp (fun r408 hm => fun Z426 H427 st428 => ?_) hWE⟩⟩⟩⟩
                      have sx_ := sx_.trans st428
                      have hS := hS.step st428
                      refine (q411 _ _ _ hm sx_)
                    · have hm := Good.ifF e425 hm
                      exact q411 _ _ _ hm sx_
                  · have hm := Good.ifF e420 hm
                    exact q411 _ _ _ hm sx_
                have hm := hWW410 _ w415
                have hS := hS.step st414
                exact hW _ hm _ _ hS.st
end

/-! ### the plain law -/

theorem cell_is (s : Scr) {k : Int} (h : 0 ≤ k) : m_law_cell_at s k = .ok (if k < (s.ns.length : Int) then getI s.ns k else 0) := by
  unfold m_law_cell_at
  by_cases c : k < (s.ns.length : Int)
  · rw [if_pos (decide_eq_true c), if_pos c]; exact chk_t ⟨by omega, c⟩
  · rw [if_neg (by simpa using c), if_neg c]

theorem make_yes {l : List (Int × Int)} (h : boardOk l) (hn : (l.map (·.2)).Nodup) : m_make_board l = .ok (due l) := by
  have h36 := board36 h hn
  unfold m_make_board
  refine Yes.eq ?_
  refine Yes.bind (Yes.forR (fun _ _ => True) trivial (fun p x r e s _ => ?_) (W := fun _ => True) fun _ _ => trivial) fun _ _ => Yes.vl (Yes.bind (Yes.forR (fun p (d : Dct Int (Int × Int)) => d.kv = p.map fun w => (w.2, w)) rfl (fun p x r e d hd => ?_) (W := fun d : Dct Int (Int × Int) => d.kv = l.map fun w => (w.2, w)) fun d hd => hd) fun d hd => ?_)
  · unfold m_make_board_b0
    have hx := h x (mem_mid e)
    refine Yes.iteF ?_ (Yes.ok trivial)
    simp only [Bool.or_eq_true, decide_eq_true_eq]
    have := hx.1; have := hx.2; omega
  · unfold m_make_board_b1
    have hk : ¬ x.2 ∈ d.kv.map (·.1) := fun hm => by
      rw [hd, List.map_map] at hm
      rw [e, List.map_append, List.map_cons, List.nodup_append] at hn
      exact hn.2.2 x.2 hm x.2 List.mem_cons_self rfl
    have hl : d.kv.length ≤ 36 := by
      have := len_mid e
      rw [hd, List.length_map]; omega
    refine Yes.iteF (by simpa using hk) (Yes.chk (sz_lt (by omega)) (Yes.vl (Yes.ok ?_)))
    show dPut d.kv x.2 x = _
    rw [dPut_new hk, hd, List.map_append]; rfl
  · have hl : d.kv.length ≤ 36 := by rw [hd, List.length_map]; exact h36
    refine Yes.chk (by omega) (Yes.chk (sz_lt (by rw [sortI_len, List.length_map]; omega)) (Yes.chk (fun t ht => sortI_mem.mp ht) (Yes.ok ?_)))
    obtain ⟨kv⟩ := d
    simp only at hd
    subst hd
    exact due_keys hn

/-! ### askings, plainly -/
abbrev Wk := T4 (Int × Int) (Int × Int) Str (Int × Int)
theorem forL_any {S α T : Type} {f : S → α → R (LR S T)} {s : S} {v : T} (p : α → Bool) : ∀ {l : List α}, (∀ x ∈ l, f s x = .ok (if p x = true then .ret v else .nxt s)) → forL f s l = .ok (if l.any p = true then .ret v else .nxt s)
  | [], _ => rfl
  | x :: r, h => by
    have ih := forL_any (f := f) (s := s) (v := v) p (l := r) fun y hy => h y (List.mem_cons_of_mem _ hy)
    rw [forL_cons, h x List.mem_cons_self, List.any_cons]
    cases p x with
    | true => rfl
    | false => exact ih
theorem any_not {α : Type} (p : α → Bool) : ∀ l : List α, (l.any fun x => !p x) = !l.all p
  | [] => rfl
  | x :: r => by rw [List.any_cons, List.all_cons, any_not p r, Bool.not_and]
theorem go_ifn {T : Type} {k1 : Unit → R T} {k2 : Bool → R T} (b : Bool) : (R.bind (R.ok (if (!b) = true then (LR.ret false : LR Unit Bool) else .nxt ())) fun o => LR.go o k1 k2) = if b = true then k1 () else k2 false := by cases b <;> rfl
theorem shp_str {z : Str} (h : okD z = true) : SeqAt.shaped (PyData.str z) = true := by
  have h : (PyData.str z).canLay0 = true := h
  unfold SeqAt.shaped
  rw [h]
  simp [PyData.depth]
theorem eqv_str (a b : Str) : PyData.eqv (PyData.str a) (PyData.str b) = decide (a = b) := by
  by_cases h : a = b
  · rw [decide_eq_true h, h]; simp [PyData.eqv]
  · rw [decide_eq_false h]; simpa [PyData.eqv] using h

def fdOk (p : Int × Int) : Bool := decide ((1 : Int) ≤ p.1) && (decide (p.1 ≤ p.2) && decide (p.2 ≤ (36 : Int)))
theorem fd_yes (p : Int × Int) : m_is_field p = .ok (fdOk p) := rfl
theorem fdOk_iff {p : Int × Int} : fdOk p = true ↔ 1 ≤ p.1 ∧ p.1 ≤ p.2 ∧ p.2 ≤ 36 := by unfold fdOk; simp

def letS (z : Str) : Bool := (chars z).all fun c => inS c "abcdefghijklmnopqrstuvwxyz"
def nameOk (z : Str) : Bool := letS z && (decide ((1 : Int) ≤ (z.length : Int)) && decide ((z.length : Int) ≤ (8 : Int)))
theorem name_yes {z : Str} (hl : z.length ≤ 1000000) : m_is_name z = .ok (nameOk z) := by
  unfold m_is_name nameOk letS
  rw [forL_any (v := false) (fun c => !inS c "abcdefghijklmnopqrstuvwxyz") (fun x _ => by unfold m_is_name_b0; cases inS x _ <;> rfl), any_not, go_ifn]
  cases (chars z).all fun c => inS c "abcdefghijklmnopqrstuvwxyz" with
  | true => exact chk_t (sz_le hl)
  | false => rfl

def sgnS (z : Str) : Bool := (chars z).all fun c => inS c " 0123456789ABCDEFGHIJKLMNOPQRSTUVWXYZ"
theorem iscard_yes {z : Str} (hl : z.length ≤ 1000000) : m_is_card z = .ok (decide ((z.length : Int) = (40 : Int)) && sgnS z) := by
  unfold m_is_card sgnS
  rw [chk_t (sz_le hl)]
  by_cases h : (z.length : Int) = 40
  · rw [decide_eq_true h, if_neg (by decide), forL_any (v := false) (fun c => !inS c " 0123456789ABCDEFGHIJKLMNOPQRSTUVWXYZ") (fun x _ => by unfold m_is_card_b0; cases inS x _ <;> rfl), any_not, go_ifn]
    cases (chars z).all fun c => inS c " 0123456789ABCDEFGHIJKLMNOPQRSTUVWXYZ" with
    | true => rfl
    | false => rfl
  · rw [decide_eq_false h, if_pos (by decide)]; rfl
theorem ljust_l (z : Str) : (Txt.ljust z 40).length = max z.length 40 := by
  rw [len_codes, codes_ljust, List.length_append, List.length_replicate, ← len_codes]
  show z.length + ((40 : Int).toNat - z.length) = _
  have : (40 : Int).toNat = 40 := rfl
  omega
theorem ljust_s (z : Str) : sgnS (Txt.ljust z 40) = sgnS z := by
  unfold sgnS
  rw [chars_codes, chars_codes, codes_ljust, List.map_append, List.all_append]
  have : ((List.replicate ((40 : Int).toNat - z.length) 32).map sg).all (fun c => inS c " 0123456789ABCDEFGHIJKLMNOPQRSTUVWXYZ") = true := by
    rw [List.all_eq_true]
    intro x hx
    obtain ⟨c, hc, rfl⟩ := List.mem_map.mp hx
    rw [(List.mem_replicate.mp hc).2]; decide +kernel
  rw [this, Bool.and_true]
theorem cardof_yes {z : Str} (hl : z.length ≤ 1000000) : m_card_of z = if (decide (z.length ≤ 40) && sgnS z) = true then .ok (Txt.ljust z 40) else .ex .NoCard := by
  unfold m_card_of
  simp only [vl]
  rw [iscard_yes (by rw [ljust_l]; omega), ljust_s, ljust_l]
  have : decide (((max z.length 40 : Nat) : Int) = (40 : Int)) = decide (z.length ≤ 40) := by
    by_cases h : z.length ≤ 40
    · rw [decide_eq_true h, decide_eq_true]; omega
    · rw [decide_eq_false h, decide_eq_false]; omega
  rw [this]
  cases decide (z.length ≤ 40) && sgnS z with
  | true => rfl
  | false => rfl

theorem cols_yes {f : Int × Int} (hf : fdOk f = true) : m_columns_of f = .ok (rangeL f.1 (f.2 + 1 - f.1).toNat) := by
  have := fdOk_iff.mp hf
  unfold m_columns_of
  exact chk_t (by omega)
def wideOk (z : Str) (f : Int × Int) : Bool := sgnS z && decide ((z.length : Int) = f.2 - f.1 + 1)
theorem wide_yes {z : Str} {f : Int × Int} (hf : fdOk f = true) (hl : z.length ≤ 1000000) : m_is_wide z f = .ok (wideOk z f) := by
  have h := fdOk_iff.mp hf
  unfold m_is_wide wideOk
  rw [cardof_yes hl]
  by_cases e : z.length ≤ 40
  · rw [decide_eq_true e]
    cases sgnS z with
    | true =>
      show chk _ _ = _
      rw [chk_t (sz_le hl), cols_yes hf]
      show R.ok (decide ((z.length : Int) = ((rangeL f.1 (f.2 + 1 - f.1).toNat).length : Int))) = R.ok (true && decide ((z.length : Int) = f.2 - f.1 + 1))
      rw [rangeL_len, Bool.true_and, show (((f.2 + 1 - f.1).toNat : Nat) : Int) = f.2 - f.1 + 1 by omega]
    | false => rfl
  · rw [decide_eq_false e, if_neg (by simp)]
    show R.ok false = _
    rw [decide_eq_false (by omega : ¬ (z.length : Int) = f.2 - f.1 + 1), Bool.and_false]

theorem dSet_mem {m : List (Int × Str)} {k : Int} {b : Str} {e : Int × Str} (h : e ∈ dSet m k b) : e ∈ m ∨ e = (k, b) := by
  unfold dSet at h
  split at h
  · exact .inl h
  · rename_i hk
    rw [dPut_new hk] at h
    exact (List.mem_append.mp h).imp id fun h => List.mem_singleton.mp h
theorem dSet_len (m : List (Int × Str)) (k : Int) (b : Str) : (dSet m k b).length ≤ m.length + 1 := by
  unfold dSet
  split
  · omega
  · rename_i hk
    rw [dPut_new hk, List.length_append]; exact Nat.le_refl _
structure PkOk (g : Int → Str) (p : (Int × Int) × Str) : Prop where
  f : fdOk p.1 = true
  s : sgnS p.2 = true
  l : (p.2.length : Int) = p.1.2 - p.1.1 + 1
  z : ∀ q ∈ (rangeL p.1.1 (p.1.2 + 1 - p.1.1).toNat).zip (chars p.2), q.2 = g q.1
theorem picks_yes {picks : List ((Int × Int) × Str)} (g : Int → Str) (h8 : picks.length ≤ 8) (hp : ∀ p ∈ picks, PkOk g p) : m_are_picks picks = .ok true := by
  unfold m_are_picks
  rw [if_neg (by simp only [decide_eq_true_eq]; omega)]
  refine Yes.eq (Yes.vl (Yes.forLg (fun p (d : Dct Int Str) => (∀ e ∈ d.kv, e.2 = g e.1) ∧ d.kv.length ≤ 36 * p.length) (fun _ => False) ⟨(fun _ h => nomatch h), Nat.zero_le _⟩ (fun p x r e d hd => ?_) (fun d hd => Yes.ok rfl) fun v hv => hv.elim))
  have hx := hp x (mem_mid e)
  have hlp := len_mid e
  have hf := fdOk_iff.mp hx.f
  have hl : x.2.length ≤ 36 := by have := hx.l; omega
  unfold m_are_picks_b0
  refine Yes.bindE (a := false) ?_ (Yes.iteF (by decide) (Yes.bindE (cols_yes hx.f) ?_))
  · rw [fd_yes, hx.f]
    show R.bind (m_is_wide x.2 x.1) _ = _
    rw [wide_yes hx.f (by omega)]
    unfold wideOk
    rw [hx.s, decide_eq_true hx.l]; rfl
  · refine Yes.forLg (fun q (t : Dct Int Str) => (∀ e ∈ t.kv, e.2 = g e.1) ∧ t.kv.length ≤ 36 * p.length + q.length) (fun _ => False) ⟨hd.1, hd.2⟩ (fun q y r2 e2 t ht => ?_) (fun t ht => Yes.ok ⟨ht.1, ?_⟩) fun v hv => hv.elim
    · have hy := hx.z y (mem_mid e2)
      have hq := len_mid e2
      have hzl : ((rangeL x.1.1 (x.1.2 + 1 - x.1.1).toNat).zip (chars x.2)).length ≤ 36 := by rw [List.length_zip, rangeL_len]; omega
      unfold m_are_picks_b1
      have hg : (dGet t.kv y.1).getD y.2 = y.2 := by
        cases h : dGet t.kv y.1 with
        | none => rfl
        | some a => rw [hy]; exact ht.1 _ (dGet_mem h)
      refine Yes.chk (sz_lt (by have := ht.2; omega)) (Yes.vl (Yes.vl (Yes.iteF (by rw [hg, decide_eq_true rfl]; decide) (Yes.ok ⟨fun e he => ?_, ?_⟩))))
      · rcases dSet_mem he with he | rfl
        · exact ht.1 e he
        · exact hy
      · have h1 := dSet_len t.kv y.1 y.2
        have := ht.2
        show (dSet t.kv y.1 y.2).length ≤ _
        rw [List.length_append, List.length_singleton]; omega
    · have := ht.2
      rw [List.length_zip, rangeL_len] at this
      rw [List.length_append, List.length_singleton]; omega

theorem ok_first : okD ("first" : Str) = true := by decide +kernel
theorem ok_mates : okD ("mates" : Str) = true := by decide +kernel
theorem ok_without : okD ("without" : Str) = true := by decide +kernel
theorem mid_none (deck : Str) : m_is_middle .none deck = .ok true ∧ m_main_field .none = .ok [] := by unfold m_is_middle m_main_field; exact ⟨rfl, rfl⟩
abbrev midF (f : Int × Int) : PyData := ToD.td ((("first" : Str), f) : Str × (Int × Int))
abbrev midT (w n : Str) (f g : Int × Int) : PyData := ToD.td (⟨w, n, f, g⟩ : T4 Str Str (Int × Int) (Int × Int))
theorem mid_first (f : Int × Int) (deck : Str) : m_is_middle (midF f) deck = .ok (fdOk f) ∧ m_main_field (midF f) = .ok [f] := by
  have s1 := shp_str ok_first
  have e1 : PyData.eqv (dyAt (midF f) 0) (ToD.td ("first" : Str)) = true := (eqv_str "first" "first").trans (decide_eq_true rfl)
  unfold m_is_middle m_main_field
  refine ⟨?_, ?_⟩
  · rw [if_neg (show ¬ dyNone (midF f) = true from Bool.false_ne_true), chk_t ⟨rfl, by show inR 2 0; unfold inR; omega⟩, chk_t ⟨s1, s1⟩, if_pos e1, chk_t ⟨rfl, by show inR 2 1; unfold inR; omega⟩]
    exact chk_t rfl
  · rw [if_neg (show ¬ dyNone (midF f) = true from Bool.false_ne_true), chk_t ⟨rfl, by show inR 2 0; unfold inR; omega⟩, chk_t ⟨s1, s1⟩, if_pos e1, chk_t ⟨rfl, by show inR 2 1; unfold inR; omega⟩]
    exact chk_t rfl
theorem mid_two {w n deck : Str} {f g : Int × Int} (hw : w = "mates" ∨ w = "without") (hn : n.length ≤ 1000000) (sn : okD n = true) (sd : okD deck = true) :
    m_is_middle (midT w n f g) deck = .ok (nameOk n && ((!decide (n = deck)) && (fdOk f && (fdOk g && decide (f.2 - f.1 = g.2 - g.1))))) ∧ m_main_field (midT w n f g) = .ok [f] := by
  have s1 := shp_str ok_first
  have sw : SeqAt.shaped (PyData.str w) = true := by
    rcases hw with rfl | rfl
    · exact shp_str ok_mates
    · exact shp_str ok_without
  have nf : ¬ w = "first" := by rcases hw with rfl | rfl <;> decide +kernel
  have e1 : ¬ PyData.eqv (dyAt (midT w n f g) 0) (ToD.td ("first" : Str)) = true := by
    rw [show PyData.eqv (dyAt (midT w n f g) 0) (ToD.td ("first" : Str)) = decide (w = "first") from eqv_str w "first", decide_eq_false nf]; decide
  have i0 : dySeq (midT w n f g) = true ∧ inR (dyItems (midT w n f g)).length 0 := ⟨rfl, by show inR 4 0; unfold inR; omega⟩
  have i1 : dySeq (midT w n f g) = true ∧ inR (dyItems (midT w n f g)).length 1 := ⟨rfl, by show inR 4 1; unfold inR; omega⟩
  have i2 : dySeq (midT w n f g) = true ∧ inR (dyItems (midT w n f g)).length 2 := ⟨rfl, by show inR 4 2; unfold inR; omega⟩
  have n1 : (FromD.fd (α := Str) (dyAt (midT w n f g) 1)).isSome = true := rfl
  have n2 : (FromD.fd (α := Int × Int) (dyAt (midT w n f g) 2)).isSome = true := rfl
  have n3 : (FromD.fd (α := Int × Int) (dyAt (midT w n f g) 3)).isSome = true := rfl
  have i3 : dySeq (midT w n f g) = true ∧ inR (dyItems (midT w n f g)).length 3 := ⟨rfl, by show inR 4 3; unfold inR; omega⟩
  unfold m_is_middle m_main_field
  refine ⟨?_, ?_⟩
  · rw [if_neg (show ¬ dyNone (midT w n f g) = true from Bool.false_ne_true), chk_t i0, chk_t ⟨sw, s1⟩, if_neg e1]
    have t1 : ((!PyData.eqv (dyAt (midT w n f g) 0) (ToD.td (("mates" : Str) : Str))) && (!PyData.eqv (dyAt (midT w n f g) 0) (ToD.td (("without" : Str) : Str)))) = false := by
      rw [show PyData.eqv (dyAt (midT w n f g) 0) (ToD.td ("mates" : Str)) = decide (w = "mates") from eqv_str w "mates", show PyData.eqv (dyAt (midT w n f g) 0) (ToD.td ("without" : Str)) = decide (w = "without") from eqv_str w "without"]
      rcases hw with h | h
      · rw [decide_eq_true h]; rfl
      · rw [decide_eq_true h, Bool.not_true, Bool.and_false]
    rw [chk_t i0, chk_t ⟨sw, shp_str ok_mates⟩, chk_t (fun _ => i0), chk_t (fun _ => ⟨sw, shp_str ok_without⟩), if_neg (by rw [t1]; decide), chk_t i1, chk_t n1]
    show R.bind (R.bind (m_is_name n) _) _ = _
    rw [name_yes hn]
    cases nameOk n with
    | false => rfl
    | true =>
      show R.bind (chk _ _) _ = _
      rw [chk_t i1, chk_t ⟨shp_str sn, shp_str sd⟩]
      show R.bind (R.ok (PyData.eqv (PyData.str n) (PyData.str deck))) _ = _
      rw [eqv_str]
      cases decide (n = deck) with
      | true => rfl
      | false =>
        show chk _ _ = _
        rw [chk_t i2, chk_t n2]
        show chk _ _ = _
        rw [chk_t i3, chk_t n3]
        show R.bind (R.bind (R.ok (fdOk f)) _) _ = _
        cases fdOk f with
        | false => rfl
        | true =>
          show R.bind (if fdOk g = true then R.ok (decide (f.2 - f.1 = g.2 - g.1)) else R.ok false) _ = _
          cases fdOk g with
          | false => rfl
          | true => rfl
  · rw [if_neg (show ¬ dyNone (midT w n f g) = true from Bool.false_ne_true), chk_t i0, chk_t ⟨sw, s1⟩, if_neg e1, chk_t i2]
    exact chk_t rfl

def apartB (p q : Int × Int) : Bool := (decide (p.2 < q.1)) || (decide (q.2 < p.1))
theorem apart_yes (p q : Int × Int) : m_are_apart p q = .ok (apartB p q) := rfl
def keptW (g : List (Int × Int)) (pre : List Wk) (w : Wk) : List (Int × Int) := (g ++ pre.map (fun a => a.x1)) ++ (pre ++ [w]).flatMap fun a => [a.x2, a.x4]
def wordOk (z : Str) : Bool := decide (z ∈ [("plus" : Str), ("less" : Str), ("times" : Str)])
def wkOne (g : List (Int × Int)) (pre : List Wk) (w : Wk) : Bool := wordOk w.x3 && ((fdOk w.x1 && (fdOk w.x2 && fdOk w.x4)) && (keptW g pre w).all (apartB w.x1))
def wkGo (g : List (Int × Int)) : List Wk → List Wk → Bool
  | _, [] => true
  | pre, w :: r => wkOne g pre w && wkGo g (pre ++ [w]) r
theorem flat_len (l : List Wk) : (l.flatMap fun a => [a.x2, a.x4]).length = 2 * l.length := by
  induction l with
  | nil => rfl
  | cons a r ih => rw [List.flatMap_cons, List.length_append, ih, List.length_cons]; simp only [List.length_cons, List.length_nil]; omega
theorem work_turn {g : List (Int × Int)} {pre r : List Wk} {w : Wk} (hg : g.length ≤ 1000) (hp : pre.length ≤ 1000) : m_are_works_b0 (pre ++ w :: r) g (pre.length : Int) w = .ok (if (!wkOne g pre w) = true then .ret false else .nxt ()) := by
  have c1 : cutL (pre ++ w :: r) none (some (pre.length : Int)) = pre := by rw [cutL_to (by omega), Int.toNat_natCast, List.take_left']; rfl
  have c2 : cutL (pre ++ w :: r) none (some ((pre.length : Int) + 1)) = pre ++ [w] := by
    rw [cutL_to (by omega), show ((pre.length : Int) + 1).toNat = (pre ++ [w]).length by rw [List.length_append, List.length_singleton]; omega, show pre ++ w :: r = (pre ++ [w]) ++ r by simp, List.take_left']
    rfl
  unfold m_are_works_b0 wkOne
  simp only [vl]
  rw [c1, c2]
  cases hw : wordOk w.x3 with
  | false =>
    have hw : decide (w.x3 ∈ [("plus" : Str), ("less" : Str), ("times" : Str)]) = false := hw
    rw [if_pos (by rw [hw]; rfl)]; rfl
  | true =>
    have hw : decide (w.x3 ∈ [("plus" : Str), ("less" : Str), ("times" : Str)]) = true := hw
    rw [if_neg (by rw [hw]; decide), Bool.true_and, fd_yes, fd_yes, fd_yes]
    cases fdOk w.x1 with
    | false => rfl
    | true =>
      cases fdOk w.x2 with
      | false => rfl
      | true =>
        cases fdOk w.x4 with
        | false => rfl
        | true =>
          show chk _ _ = _
          have hb : forR (fun (s_ : (List (Int × Int))) (q_ : Wk) => m_are_works_b1 s_ q_) (g ++ pre.map fun a => a.x1) (pre ++ [w]) = .ok (keptW g pre w) := by
            refine (fun hy : Yes (forR (fun (s_ : (List (Int × Int))) (q_ : Wk) => m_are_works_b1 s_ q_) (g ++ pre.map fun a => a.x1) (pre ++ [w])) (fun s => s = keptW g pre w) => Yes.eq hy) ?_
            refine Yes.forR (fun p s => s = (g ++ pre.map fun a : Wk => a.x1) ++ p.flatMap fun a : Wk => [a.x2, a.x4]) (by simp) (fun p x r2 e s hs => ?_) (W := fun s => s = keptW g pre w) fun s hs => hs
            have hl := len_mid e
            rw [List.length_append, List.length_singleton] at hl
            unfold m_are_works_b1
            subst hs
            refine Yes.chk (sz_le ?_) (Yes.vl (Yes.ok ?_))
            · rw [List.length_append, List.length_append, List.length_map, flat_len]; simp only [List.length_cons, List.length_nil]; omega
            · rw [List.flatMap_append, ← List.append_assoc]; simp
          refine chk_eq (sz_lt (by omega)) (chk_eq (sz_le (by rw [List.length_map]; omega)) (bind_eq hb ?_))
          rw [forL_any (v := false) (fun f => !apartB w.x1 f) (fun x _ => by unfold m_are_works_b2; rw [apart_yes]; cases apartB w.x1 x <;> rfl), any_not]
          cases (keptW g pre w).all (apartB w.x1) with
          | true => rfl
          | false => rfl
theorem works_loop {g : List (Int × Int)} (hg : g.length ≤ 1000) : ∀ (r pre : List Wk), pre.length + r.length ≤ 1000 → forL (fun (s_ : Unit) (q_ : (Int × Wk)) => m_are_works_b0 (pre ++ r) g q_.1 q_.2) () (enumL (pre.length : Int) r) = .ok (if (!wkGo g pre r) = true then .ret false else .nxt ())
  | [], pre, _ => rfl
  | w :: r, pre, hl => by
    rw [List.length_cons] at hl
    have ih := works_loop hg r (pre ++ [w]) (by rw [List.length_append, List.length_singleton]; omega)
    rw [List.append_assoc, show [w] ++ r = w :: r from rfl, List.length_append, List.length_singleton, show ((pre.length + 1 : Nat) : Int) = (pre.length : Int) + 1 by omega] at ih
    rw [enumL_cons, forL_cons, work_turn hg (by omega)]
    unfold wkGo
    cases wkOne g pre w with
    | true => exact ih
    | false => rfl
def worksB (ws : List Wk) (g : List (Int × Int)) : Bool := decide (ws.length ≤ 4) && wkGo g [] ws
theorem works_yes {ws : List Wk} {g : List (Int × Int)} (hg : g.length ≤ 1000) : m_are_works ws g = .ok (worksB ws g) := by
  unfold m_are_works worksB
  by_cases h : ws.length ≤ 4
  · have := works_loop hg ws [] (by simpa using (by omega : ws.length ≤ 1000))
    rw [List.nil_append] at this
    rw [if_neg (by simp only [decide_eq_true_eq]; omega), decide_eq_true h, Bool.true_and, show enumL 0 ws = enumL ((([] : List Wk).length : Nat) : Int) ws from rfl, this, go_ifn]
    cases wkGo g [] ws with
    | true => rfl
    | false => rfl
  · rw [if_pos (by simp only [decide_eq_true_eq]; omega), decide_eq_false h]; rfl
theorem go_iff {g : List (Int × Int)} : ∀ {r pre : List Wk}, wkGo g pre r = true ↔ ∀ (k : Nat) (h : k < r.length), wkOne g (pre ++ r.take k) r[k] = true
  | [], pre => ⟨fun _ k h => absurd h (Nat.not_lt_zero _), fun _ => rfl⟩
  | w :: r, pre => by
    have ih := go_iff (g := g) (r := r) (pre := pre ++ [w])
    unfold wkGo
    rw [Bool.and_eq_true, ih]
    constructor
    · rintro ⟨h1, h2⟩ k hk
      cases k with
      | zero => simpa using h1
      | succ k =>
        have := h2 k (by simpa using hk)
        simpa using this
    · intro h
      have h0 := h 0 (by simp)
      rw [List.take_zero, List.append_nil] at h0
      refine ⟨h0, fun k hk => ?_⟩
      have := h (k + 1) (by simpa using hk)
      simpa using this

structure FitH (a : Asking) (mf : List (Int × Int)) : Prop where
  hn : m_is_name a.deck = .ok true
  hp : m_are_picks a.picks = .ok true
  hm : m_is_middle a.middle a.deck = .ok true
  hmf : m_main_field a.middle = .ok mf
  lm : mf.length ≤ 1
  lp : a.picks.length ≤ 8
  lo : a.order.length ≤ 6
  ls : a.sums.length ≤ 4
  fg : 1 ≤ a.figures ∧ a.figures ≤ 12
  hf : ∀ f ∈ a.order ++ a.sums, fdOk f = true
  br : 0 ≤ a.breaks ∧ a.breaks ≤ 3 ∧ a.breaks ≤ (a.order.length : Int)
  bd : m_is_board a.board = .ok true
def guardA (a : Asking) (mf : List (Int × Int)) : List (Int × Int) := (a.picks.map (fun q => q.1) ++ mf) ++ a.order
theorem fit_yes {a : Asking} {mf : List (Int × Int)} (h : FitH a mf) : m_Asking_is_fit a = .ok (worksB a.works (guardA a mf)) := by
  have lm := h.lm; have lp := h.lp; have lo := h.lo; have ls := h.ls; have fg := h.fg; have br := h.br
  unfold m_Asking_is_fit
  refine bind_eq (a := false) ?_ ?_
  · rw [h.hn]
    show R.bind (m_are_picks a.picks) _ = _
    rw [h.hp]
    show R.bind (m_is_middle a.middle a.deck) _ = _
    rw [h.hm]; rfl
  · rw [if_neg (by decide), if_neg (by simp only [Bool.or_eq_true, decide_eq_true_eq, Bool.not_eq_true', Bool.and_eq_false_iff, decide_eq_false_iff_not]; omega), chk_t (sz_le (by omega)), forL_any (v := false) (fun f => !fdOk f) (fun x _ => by unfold m_Asking_is_fit_b0; rw [fd_yes]; cases fdOk x <;> rfl), any_not, List.all_eq_true.mpr h.hf, go_ifn, if_pos rfl]
    refine bind_eq (a := false) ?_ ?_
    · rw [if_neg (by simp only [Bool.not_eq_true', Bool.and_eq_false_iff, decide_eq_false_iff_not]; unfold min2; split <;> omega), h.bd]; rfl
    · rw [if_neg (by decide), chk_t (sz_lt (by omega)), h.hmf]
      show chk _ _ = _
      rw [chk_t (sz_le (by rw [List.length_map]; omega)), chk_t (sz_le (by rw [List.length_append, List.length_map]; omega))]
      show R.bind (m_are_works a.works (guardA a mf)) _ = _
      rw [works_yes (by unfold guardA; rw [List.length_append, List.length_append, List.length_map]; omega)]
      rfl

theorem init_ok {deck : Str} {picks : List ((Int × Int) × Str)} {middle : PyData} {order : List (Int × Int)} {works : Option (List Wk)} {breaks : Int} {sums : Option (List (Int × Int))} {figures : Int} {board : Option (List (Int × Int))} {mf : List (Int × Int)} (h : FitH ⟨deck, picks, middle, order, works.getD [], breaks, sums.getD [], figures, board.getD []⟩ mf) (hw : worksB (works.getD []) ((picks.map (fun q => q.1) ++ mf) ++ order) = true)  (hi : immD middle = true) :
    m_Asking___init__ deck picks middle order works breaks sums figures board = .ok ⟨deck, picks, middle, order, works.getD [], breaks, sums.getD [], figures, board.getD []⟩ := by
  unfold m_Asking___init__
  simp only [vl]
  rw [chk_t hi, fit_yes h]
  show R.bind (R.ok (worksB (works.getD []) ((picks.map (fun q => q.1) ++ mf) ++ order))) _ = _
  rw [hw]
  rfl
theorem mem_kept {g : List (Int × Int)} {ws : List Wk} {k : Nat} (hk : k < ws.length) {f : Int × Int} : f ∈ keptW g (ws.take k) ws[k] ↔ f ∈ g ∨ (∃ (j : Nat) (hj : j < ws.length), j < k ∧ f = ws[j].x1) ∨ ∃ (j : Nat) (hj : j < ws.length), j ≤ k ∧ (f = ws[j].x2 ∨ f = ws[j].x4) := by
  unfold keptW
  rw [List.mem_append, List.mem_append, or_assoc]
  refine or_congr Iff.rfl (or_congr ?_ ?_)
  · rw [List.mem_map]
    constructor
    · rintro ⟨a, ha, rfl⟩
      obtain ⟨j, hj, rfl⟩ := List.mem_iff_getElem.mp ha
      rw [List.length_take] at hj
      exact ⟨j, by omega, by omega, by rw [List.getElem_take]⟩
    · rintro ⟨j, hj, h, rfl⟩
      refine ⟨ws[j], ?_, rfl⟩
      rw [List.mem_iff_getElem]
      exact ⟨j, by rw [List.length_take]; omega, by rw [List.getElem_take]⟩
  · rw [List.mem_flatMap]
    have e : ws.take k ++ [ws[k]] = ws.take (k + 1) := by rw [List.take_succ_eq_append_getElem hk]
    rw [e]
    constructor
    · rintro ⟨a, ha, hf⟩
      obtain ⟨j, hj, rfl⟩ := List.mem_iff_getElem.mp ha
      rw [List.length_take] at hj
      rw [List.getElem_take] at hf
      exact ⟨j, by omega, by omega, by simpa using hf⟩
    · rintro ⟨j, hj, h, hf⟩
      refine ⟨ws[j], ?_, by simpa using hf⟩
      rw [List.mem_iff_getElem]
      exact ⟨j, by rw [List.length_take]; omega, by rw [List.getElem_take]⟩

/-! ### names -/
def LTS : List Nat := [97, 98, 99, 100, 101, 102, 103, 104, 105, 106, 107, 108, 109, 110, 111, 112, 113, 114, 115, 116, 117, 118, 119, 120, 121, 122]
theorem lts_codes : codes "abcdefghijklmnopqrstuvwxyz" = LTS := by decide +kernel
def Nm (z : Str) : Prop := ∃ cs : List Nat, z = mk cs ∧ (∀ c ∈ cs, c ∈ LTS) ∧ 1 ≤ cs.length ∧ cs.length ≤ 8
theorem mk_l (l : List Nat) : (mk l).length = l.length := by rw [len_codes, codes_mk]
theorem Nm.len {z : Str} (h : Nm z) : 1 ≤ z.length ∧ z.length ≤ 8 := by
  obtain ⟨cs, rfl, _, h1, h2⟩ := h
  rw [mk_l]; exact ⟨h1, h2⟩
theorem Nm.ok {z : Str} (h : Nm z) : nameOk z = true := by
  have hl := h.len
  obtain ⟨cs, rfl, hc, _, _⟩ := h
  unfold nameOk letS
  rw [decide_eq_true (by omega : (1 : Int) ≤ ((mk cs).length : Int)), decide_eq_true (by omega : ((mk cs).length : Int) ≤ 8), Bool.and_true, Bool.and_true, List.all_eq_true]
  intro x hx
  rw [chars_codes, codes_mk] at hx
  obtain ⟨c, h, rfl⟩ := List.mem_map.mp hx
  rw [inS_sg, lts_codes]
  exact decide_eq_true (hc c h)
theorem lts_lt : ∀ c ∈ LTS, c < 1114112 := by decide
theorem Nm.okd {z : Str} (h : Nm z) : okD z = true := by
  obtain ⟨cs, rfl, hc, _, _⟩ := h
  exact ok_iff.mpr fun c h => by rw [codes_mk] at h; exact lts_lt c (hc c h)
theorem sgs_of {P : Nat → Prop} : ∀ {l : List Str}, (∀ x ∈ l, ∃ c, P c ∧ x = sg c) → ∃ cs : List Nat, l = cs.map sg ∧ (∀ c ∈ cs, P c) ∧ cs.length = l.length
  | [], _ => ⟨[], rfl, (fun _ h => nomatch h), rfl⟩
  | x :: r, h => by
    obtain ⟨c, hc, rfl⟩ := h x List.mem_cons_self
    obtain ⟨cs, rfl, h1, h2⟩ := sgs_of fun y hy => h y (List.mem_cons_of_mem _ hy)
    refine ⟨c :: cs, rfl, fun d hd => ?_, by simp⟩
    rcases List.mem_cons.mp hd with rfl | hd
    · exact hc
    · exact h1 d hd
theorem let_at {i : Int} (h : inR 26 i) (h0 : 0 ≤ i) : ∃ c, c ∈ LTS ∧ chS "abcdefghijklmnopqrstuvwxyz" i = sg c := by
  have l26 : ("abcdefghijklmnopqrstuvwxyz" : Str).length = 26 := by decide +kernel
  obtain ⟨c, hc, e⟩ := chS_mem (z := "abcdefghijklmnopqrstuvwxyz") h0 (by rw [l26]; unfold inR at h; omega)
  rw [lts_codes] at hc
  exact ⟨c, hc, e⟩
theorem modR {x : Int} {n : Nat} (h : 0 < n) : inR n (x % (n : Int)) ∧ 0 ≤ x % (n : Int) := by
  have h1 := Int.emod_nonneg x (show (n : Int) ≠ 0 by omega)
  have h2 := Int.emod_lt_of_pos x (show (0 : Int) < n by omega)
  unfold inR; omega
theorem lname_yes (cell : Int) : Yes (m_law_name cell) Nm := by
  have m8 := modR (x := cell) (n := 8) (by decide)
  have g8 : 0 ≤ cell % 8 ∧ cell % 8 < 8 := by have := m8.1; unfold inR at this; have := m8.2; omega
  have l26 : ("abcdefghijklmnopqrstuvwxyz" : Str).length = 26 := by decide +kernel
  have ln : (rangeL 0 ((1 : Int) + (cell % 8)).toNat).length ≤ 8 := by rw [rangeL_len]; omega
  have hk : ∀ k ∈ rangeL 0 ((1 : Int) + (cell % 8)).toNat, 0 ≤ k ∧ k < 8 := fun k hk => by have := rangeL_mem hk; omega
  obtain ⟨cs, e1, e2, e3⟩ := sgs_of (P := fun c => c ∈ LTS) (l := (rangeL 0 ((1 : Int) + (cell % 8)).toNat).map fun k => chS "abcdefghijklmnopqrstuvwxyz" (((cell / (k + 1)) + (k * k)) % 26)) fun x hx => by
    obtain ⟨k, _, rfl⟩ := List.mem_map.mp hx
    have := modR (x := (cell / (k + 1)) + (k * k)) (n := 26) (by decide)
    exact let_at this.1 this.2
  rw [List.length_map] at e3
  unfold m_law_name
  refine Yes.vl (Yes.chk ⟨by omega, by omega⟩ (Yes.chk (sz_lt (by omega)) (Yes.chk (fun k h => ?_) (Yes.chk (fun k h => mulL (by have := hk k h; omega)) (Yes.chk (fun k h => ⟨sz_le (by omega), by rw [l26]; exact (modR (n := 26) (by decide)).1⟩) (Yes.chk ?_ (Yes.ok ?_)))))))
  · have := hk k h
    refine ⟨by omega, ?_⟩
    have h9 : (k + 1).natAbs ≤ 8 := by omega
    exact Nat.lt_of_le_of_lt (Nat.log2_le_self _) (by omega)
  · rw [e1]
    exact join_ok (n := 1) (fun x hx => by obtain ⟨c, _, rfl⟩ := List.mem_map.mp hx; exact Nat.le_refl _) (by rw [List.length_map, show ("" : Str).length = 0 by decide +kernel]; omega)
  · rw [e1, join_sg]
    rw [rangeL_len] at e3
    exact ⟨cs, rfl, e2, by omega, by omega⟩
theorem lts_idx : ∀ m : Fin 26, LTS.idxOf (LTS[m.val]'(by show m.val < 26; omega)) = m.val := by decide
theorem lother_yes {nm : Str} (h : Nm nm) (cell : Int) : Yes (m_law_other nm cell) fun z => Nm z ∧ ¬ z = nm := by
  have hl := h.len
  obtain ⟨cs, rfl, hc, _, _⟩ := h
  rw [mk_l] at hl
  have l26 : ("abcdefghijklmnopqrstuvwxyz" : Str).length = 26 := by decide +kernel
  have ha := modR (x := cell) (n := cs.length) (by omega)
  have hx := ha.1
  unfold inR at hx
  unfold m_law_other
  refine Yes.vl (Yes.chk (sz_le (by rw [mk_l]; omega)) (Yes.chk (by rw [mk_l]; omega) (Yes.vli fun a ea => ?_)))
  rw [mk_l] at ea
  have ha0 : 0 ≤ a := by rw [ea]; exact ha.2
  have hal : a < (cs.length : Int) := by rw [ea]; omega
  have hn : a.toNat < cs.length := by omega
  have ech : chS (mk cs) a = sg (cs[a.toNat]'hn) := by
    rw [chS_nat ha0 (by rw [mk_l]; omega)]
    simp only [codes_mk]
  have hcm := hc _ (List.getElem_mem hn)
  have hidx := List.idxOf_lt_length_iff.mpr hcm
  have hil : LTS.idxOf (cs[a.toNat]'hn) < 26 := hidx
  rw [ech, find_sg, lts_codes, if_pos hcm]
  generalize eidx : LTS.idxOf (cs[a.toNat]'hn) = idx at *
  have h25 := modR (x := cell / 8) (n := 25) (by decide)
  have h25b : cell / 8 % 25 < 25 := by have := h25.1; unfold inR at this; omega
  have h25c := h25.2
  generalize em : (((idx : Int) + 1) + (cell / 8 % 25)) % 26 = m at *
  have hm : 0 ≤ m ∧ m < 26 := by rw [← em]; omega
  have hne : ¬ m = (idx : Int) := by rw [← em]; omega
  have hmn : m.toNat < LTS.length := by show m.toNat < 26; omega
  have elt : chS "abcdefghijklmnopqrstuvwxyz" m = sg (LTS[m.toNat]'hmn) := by
    rw [chS_nat hm.1 (by rw [l26]; omega)]
    simp only [lts_codes]
  have c1 := len_cut_le (mk cs) none (some a)
  have c2 := len_cut_le (mk cs) (some (a + 1)) none
  rw [mk_l] at c1 c2
  refine Yes.chk ⟨sz_le (by rw [mk_l]; omega), by rw [mk_l]; unfold inR; omega⟩ (Yes.chk ⟨sz_le (by omega), by rw [l26]; unfold inR; omega⟩ (Yes.vl (Yes.chk (sz_le (by rw [mk_l]; omega)) (Yes.chk (sz_le (by rw [len_chS]; omega)) (Yes.chk (sz_le (by rw [mk_l]; omega)) (Yes.chk (sz_le (by rw [len_app, len_chS]; omega)) (Yes.ok ?_)))))))
  have ez : ((cutS (mk cs) none (some a)) ++ (chS "abcdefghijklmnopqrstuvwxyz" m)) ++ (cutS (mk cs) (some (a + 1)) none) = mk (cs.take a.toNat ++ LTS[m.toNat] :: cs.drop (a.toNat + 1)) := by
    apply codes_inj
    rw [codes_app, codes_app, codes_cut, codes_cut, codes_mk, codes_mk, elt, cutL_to ha0, cutL_from (by omega), show (a + 1).toNat = a.toNat + 1 by omega, show codes (sg (LTS[m.toNat]'hmn)) = [LTS[m.toNat]] from codes_mk _]
    simp
  rw [ez]
  refine ⟨⟨_, rfl, fun c hcc => ?_, ?_, ?_⟩, fun e => ?_⟩
  · rcases List.mem_append.mp hcc with h | h
    · exact hc c (List.mem_of_mem_take h)
    · rcases List.mem_cons.mp h with rfl | h
      · exact List.getElem_mem _
      · exact hc c (List.mem_of_mem_drop h)
  · rw [List.length_append, List.length_cons]; omega
  · rw [List.length_append, List.length_cons, List.length_take, List.length_drop]; omega
  · have e2 := congrArg codes e
    rw [codes_mk, codes_mk] at e2
    have e3 : (cs.take a.toNat ++ LTS[m.toNat] :: cs.drop (a.toNat + 1))[a.toNat]? = cs[a.toNat]? := by rw [e2]
    rw [List.getElem?_append_right (by rw [List.length_take]; omega), List.length_take, Nat.min_eq_left (by omega), Nat.sub_self, List.getElem?_cons_zero, List.getElem?_eq_getElem hn] at e3
    have e4 := Option.some.inj e3
    have := lts_idx ⟨m.toNat, by omega⟩
    simp only at this
    rw [e4, eidx] at this
    omega

/-! ### fields, middles, works -/
def InB (lo hi : Int) (f : Int × Int) : Prop := lo ≤ f.1 ∧ f.1 ≤ f.2 ∧ f.2 ≤ hi
theorem InB.fd {lo hi : Int} {f : Int × Int} (h : InB lo hi f) (h1 : 1 ≤ lo) (h2 : hi ≤ 36) : fdOk f = true := fdOk_iff.mpr ⟨by have := h.1; omega, h.2.1, by have := h.2.2; omega⟩
theorem span_yes {n high wide : Int} (hh : 0 < high) (hw : 0 < wide) : Yes (m_law_span n high wide) fun f => InB 1 high f ∧ f.2 - f.1 < wide := by
  unfold m_law_span
  refine Yes.chk hh (Yes.vli fun a ha => Yes.chk hw (Yes.ok ?_))
  have h1 := Int.emod_nonneg n (show high ≠ 0 by omega)
  have h2 := Int.emod_lt_of_pos n hh
  have h3 := Int.emod_nonneg (n / 24) (show wide ≠ 0 by omega)
  have h4 := Int.emod_lt_of_pos (n / 24) hw
  unfold InB min2
  dsimp only
  split <;> omega
inductive MidP (nm : Str) : PyData → List (Int × Int) → Prop
  | non : MidP nm .none []
  | first (f : Int × Int) : fdOk f = true → MidP nm (midF f) [f]
  | two (w n : Str) (f g : Int × Int) : (w = "mates" ∨ w = "without") → Nm n → ¬ n = nm → fdOk f = true → fdOk g = true → f.2 - f.1 = g.2 - g.1 → MidP nm (midT w n f g) [f]
theorem MidP.fit {nm : Str} (hn : Nm nm) {d : PyData} {mf : List (Int × Int)} (h : MidP nm d mf) : m_is_middle d nm = .ok true ∧ m_main_field d = .ok mf ∧ mf.length ≤ 1 := by
  cases h with
  | non => exact ⟨(mid_none _).1, (mid_none "").2, Nat.zero_le _⟩
  | first f hf => exact ⟨by rw [(mid_first f _).1, hf], (mid_first f "").2, Nat.le_refl _⟩
  | two w n f g hw hN ne hf hg e =>
    have hl := hN.len
    have := mid_two (deck := nm) hw (by omega : n.length ≤ 1000000) hN.okd hn.okd (f := f) (g := g)
    exact ⟨by rw [this.1, hN.ok, decide_eq_false ne, hf, hg, decide_eq_true e]; rfl, this.2, Nat.le_refl _⟩
theorem lmid_yes {nm : Str} (h : Nm nm) (cell : Int) : Yes (m_law_middle nm cell) fun d => ∃ mf, MidP nm d mf ∧ ∀ f ∈ mf, InB 1 24 f := by
  unfold m_law_middle
  refine Yes.bind (span_yes (by decide) (by decide)) fun f hf => Yes.vli fun wide hw => Yes.chk (by have := hf.2; omega) (Yes.vli fun first hfi => ?_)
  have hb := hf.1
  have g1 := Int.emod_nonneg (cell / 9) (show (36 : Int) - wide ≠ 0 by have := hf.2; omega)
  have g2 := Int.emod_lt_of_pos (cell / 9) (show (0 : Int) < 36 - wide by have := hf.2; omega)
  have hff : fdOk f = true := hb.fd (by decide) (by decide)
  have hb2 := hb
  unfold InB at hb2
  have one : ∀ x ∈ [f], InB 1 24 x := fun x hx => by rw [List.mem_singleton] at hx; rw [hx]; exact hb
  refine Yes.ite (fun _ => Yes.ok ⟨_, .first f hff, one⟩) fun _ => Yes.ite (fun _ => ?_) fun _ => Yes.ok ⟨_, .non, fun _ h => nomatch h⟩
  have i2 : inR [("mates" : Str), ("without" : Str)].length (cell % 2) := (modR (x := cell) (n := 2) (by decide)).1
  refine Yes.chk i2 (Yes.bind (lother_yes h _) fun n hn => Yes.ok ⟨_, .two _ n f _ ?_ hn.1 hn.2 hff (fdOk_iff.mpr ?_) ?_, one⟩)
  · have := getI_mem (l := [("mates" : Str), ("without" : Str)]) i2
    simpa using this
  · dsimp only; omega
  · dsimp only; omega
structure WorkAt (k : Int) (w : Wk) : Prop where
  wd : wordOk w.x3 = true
  to : InB (25 + 3 * k) (27 + 3 * k) w.x1
  one : InB 1 24 w.x2 ∨ ∃ j : Int, 0 ≤ j ∧ j < k ∧ InB (25 + 3 * j) (27 + 3 * j) w.x2
  oth : InB 1 24 w.x4
theorem lwork_yes {n k : Int} (hk : 0 ≤ k ∧ k < 4) : Yes (m_law_work n k) (WorkAt k) := by
  unfold m_law_work
  refine Yes.vli fun to ht => Yes.bind (span_yes (by decide) (by decide)) fun f hf => Yes.bind (span_yes (by decide) (by decide)) fun f4 hf4 => Yes.bind (P := fun f => InB 1 24 f ∨ ∃ j : Int, 0 ≤ j ∧ j < k ∧ InB (25 + 3 * j) (27 + 3 * j) f) (Yes.ite (fun c => ?_) fun _ => Yes.ok (.inl hf.1)) fun one ho => ?_
  · simp only [Bool.and_eq_true, decide_eq_true_eq] at c
    have h1 := Int.emod_nonneg (n / 7) (show k ≠ 0 by omega)
    have h2 := Int.emod_lt_of_pos (n / 7) c.1
    have h3 := Int.emod_nonneg (n / 11) (show (3 : Int) ≠ 0 by decide)
    have h4 := Int.emod_lt_of_pos (n / 11) (show (0 : Int) < 3 by decide)
    refine Yes.chk c.1 (Yes.vli fun a ha => Yes.vl (Yes.ok (.inr ⟨n / 7 % k, h1, h2, ?_⟩)))
    unfold InB
    dsimp only
    rw [ha]; omega
  · unfold m_law_work_j0
    have im : inR [("plus" : Str), ("less" : Str), ("times" : Str)].length (n / 4 % 3) := (modR (x := n / 4) (n := 3) (by decide)).1
    have h3 := Int.emod_nonneg n (show (3 : Int) ≠ 0 by decide)
    have h4 := Int.emod_lt_of_pos n (show (0 : Int) < 3 by decide)
    refine Yes.chk im (Yes.ok ⟨decide_eq_true (getI_mem (l := [("plus" : Str), ("less" : Str), ("times" : Str)]) im), ?_, ho, hf4.1⟩)
    unfold InB
    dsimp only
    rw [ht]
    dsimp only
    omega

/-! ### a pick that has a sign for each column -/
def SGN : List Nat := [32, 48, 49, 50, 51, 52, 53, 54, 55, 56, 57, 65, 66, 67, 68, 69, 70, 71, 72, 73, 74, 75, 76, 77, 78, 79, 80, 81, 82, 83, 84, 85, 86, 87, 88, 89, 90]
theorem sgn_codes : codes " 0123456789ABCDEFGHIJKLMNOPQRSTUVWXYZ" = SGN := by decide +kernel
theorem sgn_lt : ∀ c ∈ SGN, c < 1114112 := by decide
def wdt (f : Int × Int) : Nat := (f.2 + 1 - f.1).toNat
structure PkG (g : Int → Nat) (p : (Int × Int) × Str) : Prop where
  f : fdOk p.1 = true
  t : codes p.2 = (rangeL p.1.1 (wdt p.1)).map g
theorem PkG.len {g : Int → Nat} {p : (Int × Int) × Str} (h : PkG g p) : p.2.length = wdt p.1 := by rw [len_codes, h.t, List.length_map, rangeL_len]
theorem PkG.lle {g : Int → Nat} {p : (Int × Int) × Str} (h : PkG g p) : p.2.length ≤ 36 := by
  have := fdOk_iff.mp h.f
  rw [h.len]; unfold wdt; omega
theorem PkG.ok {g : Int → Nat} (hg : ∀ c, g c ∈ SGN) {p : (Int × Int) × Str} (h : PkG g p) : PkOk (fun c => sg (g c)) p := by
  have hf := fdOk_iff.mp h.f
  refine ⟨h.f, ?_, ?_, fun q hq => ?_⟩
  · unfold sgnS
    rw [List.all_eq_true]
    intro x hx
    rw [chars_codes, h.t] at hx
    obtain ⟨c, hc, rfl⟩ := List.mem_map.mp hx
    obtain ⟨k, _, rfl⟩ := List.mem_map.mp hc
    rw [inS_sg, sgn_codes]
    exact decide_eq_true (hg k)
  · rw [h.len]; unfold wdt; omega
  · rw [chars_codes, h.t, List.map_map] at hq
    have key : ∀ (l : List Int), q ∈ l.zip (l.map (sg ∘ g)) → q.2 = sg (g q.1) := by
      intro l
      induction l with
      | nil => intro h; cases h
      | cons a r ih =>
        intro h
        rw [List.map_cons, List.zip_cons_cons] at h
        rcases List.mem_cons.mp h with rfl | h
        · rfl
        · exact ih h
    exact key _ hq
theorem PkG.okd {g : Int → Nat} (hg : ∀ c, g c ∈ SGN) {p : (Int × Int) × Str} (h : PkG g p) : okD p = true := by
  rw [okD_pair, okD_pair, okD_int, okD_int, Bool.and_true, Bool.true_and]
  exact ok_iff.mpr fun c hc => by
    rw [h.t] at hc
    obtain ⟨k, _, rfl⟩ := List.mem_map.mp hc
    exact sgn_lt _ (hg k)
def turnF (f : Int × Int) : Int × Int := ((37 : Int) - f.2, (37 : Int) - f.1)
theorem turn_yes (f : Int × Int) : m_law_turned f = .ok (turnF f) := rfl
theorem turn_fd (f : Int × Int) : fdOk (turnF f) = fdOk f := by
  rw [Bool.eq_iff_iff, fdOk_iff, fdOk_iff]
  unfold turnF
  dsimp only
  omega
theorem turn_apart (p q : Int × Int) : apartB (turnF p) (turnF q) = apartB p q := by
  unfold apartB turnF
  dsimp only
  rw [Bool.or_comm]
  congr 1
  · exact decide_eq_decide.mpr (by omega)
  · exact decide_eq_decide.mpr (by omega)
theorem turn_in {lo hi : Int} {f : Int × Int} (h : InB lo hi f) : InB (37 - hi) (37 - lo) (turnF f) := by
  unfold InB turnF at *
  dsimp only
  omega
theorem rev_range (a : Int) (n : Nat) (g : Int → Nat) : ((rangeL a n).map g).reverse = (rangeL (38 - (a + n)) n).map fun c => g (37 - c) := by
  apply List.ext_getElem
  · rw [List.length_reverse, List.length_map, List.length_map, rangeL_len, rangeL_len]
  · intro i h1 h2
    rw [List.length_reverse, List.length_map, rangeL_len] at h1
    rw [List.getElem_reverse, List.getElem_map, List.getElem_map]
    congr 1
    unfold rangeL
    rw [List.getElem_map, List.getElem_map, List.getElem_range, List.getElem_range]
    rw [List.length_map, List.length_map, List.length_range]
    omega
theorem PkG.turn {g : Int → Nat} {p : (Int × Int) × Str} (h : PkG g p) : PkG (fun c => g (37 - c)) (turnF p.1, revS p.2) := by
  have hf := fdOk_iff.mp h.f
  refine ⟨by rw [turn_fd]; exact h.f, ?_⟩
  show codes (Cd.mk (codes p.2).reverse) = (rangeL (turnF p.1).1 (wdt (turnF p.1))).map fun c => g (37 - c)
  have e1 : wdt (turnF p.1) = wdt p.1 := by unfold wdt turnF; dsimp only; omega
  have e2 : (turnF p.1).1 = 38 - (p.1.1 + (wdt p.1 : Int)) := by unfold wdt turnF; dsimp only; omega
  rw [codes_mk, h.t, rev_range, e1, e2]
def turnW (w : Wk) : Wk := ⟨turnF w.x1, turnF w.x2, w.x3, turnF w.x4⟩
theorem kept_turn (g : List (Int × Int)) (pre : List Wk) (w : Wk) : keptW (g.map turnF) (pre.map turnW) (turnW w) = (keptW g pre w).map turnF := by
  unfold keptW
  rw [List.map_append, List.map_append, List.map_map, List.map_map]
  congr 1
  rw [show pre.map turnW ++ [turnW w] = (pre ++ [w]).map turnW by simp]
  generalize pre ++ [w] = l
  induction l with
  | nil => rfl
  | cons a r ih => rw [List.map_cons, List.flatMap_cons, List.flatMap_cons, List.map_append, ih]; rfl
theorem go_turn (g : List (Int × Int)) : ∀ (r pre : List Wk), wkGo (g.map turnF) (pre.map turnW) (r.map turnW) = wkGo g pre r
  | [], _ => rfl
  | w :: r, pre => by
    have ih := go_turn g r (pre ++ [w])
    rw [List.map_append] at ih
    rw [List.map_cons]
    unfold wkGo
    rw [show [turnW w] = [w].map turnW from rfl, ih]
    congr 1
    unfold wkOne
    rw [kept_turn, List.all_map]
    show (wordOk w.x3 && ((fdOk (turnF w.x1) && (fdOk (turnF w.x2) && fdOk (turnF w.x4))) && (keptW g pre w).all (apartB (turnF w.x1) ∘ turnF))) = _
    rw [turn_fd, turn_fd, turn_fd]
    congr 2
    congr 1
    funext q
    exact turn_apart _ _
theorem works_go {g : List (Int × Int)} {ws : List Wk} (hg : ∀ f ∈ g, InB 1 24 f) (h4 : ws.length ≤ 4) (hw : ∀ (k : Nat) (h : k < ws.length), WorkAt k ws[k]) : wkGo g [] ws = true := by
  rw [go_iff]
  intro k hk
  have w := hw k hk
  have hto := w.to
  unfold InB at hto
  unfold wkOne
  rw [List.nil_append, w.wd, Bool.true_and, w.to.fd (by omega) (by omega), w.oth.fd (by decide) (by decide), Bool.true_and, Bool.and_true]
  have f2 : fdOk ws[k].x2 = true := by
    rcases w.one with h | ⟨j, h1, h2, h⟩
    · exact h.fd (by decide) (by decide)
    · exact h.fd (by omega) (by omega)
  rw [f2, Bool.true_and, List.all_eq_true]
  intro f hf
  have low : ∀ f : Int × Int, InB 1 24 f → apartB ws[k].x1 f = true := fun f h => by
    unfold InB at h
    unfold apartB
    rw [decide_eq_true (by omega : f.2 < ws[k].x1.1), Bool.or_true]
  have blk : ∀ (j : Int) (f : Int × Int), j < k → InB (25 + 3 * j) (27 + 3 * j) f → apartB ws[k].x1 f = true := fun j f hj h => by
    unfold InB at h
    unfold apartB
    rw [decide_eq_true (by omega : f.2 < ws[k].x1.1), Bool.or_true]
  rcases (mem_kept hk).mp hf with h | ⟨j, hj, h, rfl⟩ | ⟨j, hj, h, h3⟩
  · exact low f (hg f h)
  · exact blk j _ (by omega) (hw j hj).to
  · rcases h3 with rfl | rfl
    · rcases (hw j hj).one with h5 | ⟨i, h6, h7, h8⟩
      · exact low _ h5
      · exact blk i _ (by omega) h8
    · exact low _ (hw j hj).oth

/-! ### what is drawn -/
structure Dw (g : Int → Nat) (pk : List ((Int × Int) × Str)) (od : List (Int × Int)) (wk : List Wk) (sm ws : List (Int × Int)) : Prop where
  pl : pk.length ≤ 8
  pk : ∀ p ∈ pk, PkG g p ∧ InB 1 24 p.1
  ol : od.length ≤ 6
  od : ∀ f ∈ od, InB 1 24 f
  wl : wk.length ≤ 4
  wk : ∀ (k : Nat) (h : k < wk.length), WorkAt k wk[k]
  sl : sm.length ≤ 4
  sm : ∀ f ∈ sm, fdOk f = true
  bd : boardOk ws
  nd : (ws.map (·.2)).Nodup
  bl : ws.length ≤ 36
def DwT (g : Int → Nat) (t : List (List PyData)) : Prop := ∃ pk od wk sm ws, t = [pk.map ToD.td, od.map ToD.td, wk.map ToD.td, sm.map ToD.td, ws.map ToD.td] ∧ Dw g pk od wk sm ws
theorem mem_snoc {α : Type} {P : α → Prop} {l : List α} {a : α} (h : ∀ x ∈ l, P x) (ha : P a) : ∀ x ∈ l ++ [a], P x := fun x hx => by
  rcases List.mem_append.mp hx with hx | hx
  · exact h x hx
  · rw [List.mem_singleton] at hx; rw [hx]; exact ha
def gOf (r3 : Int) (c : Int) : Nat := (codes " 0123456789ABCDEFGHIJKLMNOPQRSTUVWXYZ").getD ((r3 + ((c * c) * ((1 : Int) + (r3 % 7)))) % 37).toNat 0
theorem gOf_yes (r3 c : Int) : chS " 0123456789ABCDEFGHIJKLMNOPQRSTUVWXYZ" ((r3 + ((c * c) * ((1 : Int) + (r3 % 7)))) % 37) = sg (gOf r3 c) ∧ gOf r3 c ∈ SGN := by
  have h := modR (x := r3 + ((c * c) * ((1 : Int) + (r3 % 7)))) (n := 37) (by decide)
  have h2 := h.1
  unfold inR at h2
  have l37 : (" 0123456789ABCDEFGHIJKLMNOPQRSTUVWXYZ" : Str).length = 37 := by decide +kernel
  have hl : ((r3 + ((c * c) * ((1 : Int) + (r3 % 7)))) % 37).toNat < (codes " 0123456789ABCDEFGHIJKLMNOPQRSTUVWXYZ").length := by rw [← len_codes, l37]; omega
  have e : gOf r3 c = (codes " 0123456789ABCDEFGHIJKLMNOPQRSTUVWXYZ")[((r3 + ((c * c) * ((1 : Int) + (r3 % 7)))) % 37).toNat]'hl := by
    unfold gOf
    rw [List.getD_eq_getElem?_getD, List.getElem?_eq_getElem hl]; rfl
  refine ⟨?_, ?_⟩
  · have h0 : 0 ≤ (r3 + ((c * c) * ((1 : Int) + (r3 % 7)))) % 37 := h.2
    rw [chS_nat h0 (by rw [l37]; omega), e]
  · rw [e, ← sgn_codes]; exact List.getElem_mem _
theorem pick_text (r3 : Int) (f : Int × Int) : Txt.join "" ((rangeL f.1 (wdt f)).map fun at_ => chS " 0123456789ABCDEFGHIJKLMNOPQRSTUVWXYZ" ((r3 + ((at_ * at_) * ((1 : Int) + (r3 % 7)))) % 37)) = mk ((rangeL f.1 (wdt f)).map (gOf r3)) := by
  rw [← join_sg, List.map_map]
  congr 1
  exact List.map_congr_left fun c _ => (gOf_yes r3 c).1
theorem drawn_turn {r3 cell : Int} {t : List (List PyData)} (h : DwT (gOf r3) t) : Yes (m_law_drawn_b0 " 0123456789ABCDEFGHIJKLMNOPQRSTUVWXYZ" r3 t cell) (DwT (gOf r3)) := by
  have h0 := h
  obtain ⟨pk, od, wk, sm, ws, rfl, d⟩ := h
  have hpl := d.pl; have hol := d.ol; have hwl := d.wl; have hsl := d.sl; have hbl := d.bl
  have hk := modR (x := cell) (n := 5) (by decide)
  have hk1 := hk.1
  unfold inR at hk1
  have i5 : ∀ i : Int, 0 ≤ i → i < 5 → inR [pk.map ToD.td, od.map ToD.td, wk.map ToD.td, sm.map ToD.td, ws.map ToD.td].length i := fun i h1 h2 => by show inR 5 i; unfold inR; omega
  unfold m_law_drawn_b0
  refine Yes.vli fun kind hkind => Yes.vli fun num _ => ?_
  have hkd : kind = 0 ∨ kind = 1 ∨ kind = 2 ∨ kind = 3 ∨ kind = 4 := by omega
  refine Yes.chk (i5 kind (by omega) (by omega)) (Yes.chk (by show inR 5 kind; unfold inR; omega) ?_)
  refine Yes.ite (fun _ => Yes.ok h0) fun cn => ?_
  clear hkind
  rcases hkd with rfl | rfl | rfl | rfl | rfl
  · -- a pick
    refine Yes.bind (P := DwT (gOf r3)) (Yes.iteT rfl (Yes.bind (span_yes (by decide) (by decide)) fun f hf => ?_)) fun t ht => ?_
    · have hb := hf.1
      unfold InB at hb
      have cn : ¬ (8 : Int) ≤ ((pk.map (ToD.td : (Int × Int) × Str → PyData)).length : Int) := fun h => cn (decide_eq_true h)
      rw [List.length_map] at cn
      have hr : ∀ c ∈ rangeL f.1 (f.2 + 1 - f.1).toNat, 1 ≤ c ∧ c ≤ 24 := fun c hc => by have := rangeL_mem hc; omega
      have r7 := modR (x := r3) (n := 7) (by decide)
      have r7b := r7.1
      unfold inR at r7b
      have l37 : (" 0123456789ABCDEFGHIJKLMNOPQRSTUVWXYZ" : Str).length = 37 := by decide +kernel
      refine Yes.chk ⟨by omega, by omega, by omega, by omega⟩ (Yes.chk (sz_lt (by rw [rangeL_len]; omega)) (Yes.chk (fun c hc => mulL (by have := hr c hc; omega)) (Yes.chk (fun c hc => mulR (by omega)) (Yes.chk (fun c hc => ⟨sz_le (by omega), by rw [l37]; exact (modR (n := 37) (by decide)).1⟩) (Yes.chk (join_ok (n := 1) (fun x hx => by obtain ⟨c, _, rfl⟩ := List.mem_map.mp hx; exact Nat.le_refl _) (by rw [List.length_map, rangeL_len, show ("" : Str).length = 0 by decide +kernel]; omega)) (Yes.vli fun tx htx => Yes.chk (i5 0 (by decide) (by decide)) (Yes.chk (sz_lt (by show (pk.map _).length < _; rw [List.length_map]; omega)) (Yes.vl (Yes.vl (Yes.ok ⟨pk ++ [(f, tx)], od, wk, sm, ws, ?_, ⟨by rw [List.length_append, List.length_singleton]; omega, mem_snoc d.pk ⟨⟨hf.1.fd (by decide) (by decide), ?_⟩, hf.1⟩, d.ol, d.od, d.wl, d.wk, d.sl, d.sm, d.bd, d.nd, d.bl⟩⟩))))))))))
      · rw [List.map_append]; rfl
      · show codes tx = _
        rw [htx, show (f.2 + 1 - f.1).toNat = wdt f from rfl, pick_text, codes_mk]
    · unfold m_law_drawn_j0 m_law_drawn_j1 m_law_drawn_j2 m_law_drawn_j3
      exact Yes.bind (P := DwT (gOf r3)) (Yes.iteF (by decide) (Yes.ok ht)) fun t ht => Yes.bind (P := DwT (gOf r3)) (Yes.iteF (by decide) (Yes.ok ht)) fun t ht => Yes.bind (P := DwT (gOf r3)) (Yes.iteF (by decide) (Yes.ok ht)) fun t ht => Yes.bindE (a := false) rfl (Yes.iteF (by decide) (Yes.ok ht))
  · -- a key
    refine Yes.bind (P := fun t => t = _) (Yes.iteF (by decide) (Yes.ok rfl)) fun t ht => ?_
    subst ht
    unfold m_law_drawn_j0 m_law_drawn_j1 m_law_drawn_j2 m_law_drawn_j3
    have cn : ¬ (6 : Int) ≤ ((od.map (ToD.td : (Int × Int) → PyData)).length : Int) := fun h => cn (decide_eq_true h)
    rw [List.length_map] at cn
    refine Yes.bind (P := DwT (gOf r3)) (Yes.iteT rfl (Yes.chk (i5 1 (by decide) (by decide)) (Yes.bind (span_yes (by decide) (by decide)) fun f hf => Yes.chk (sz_lt (by show (od.map _).length < _; rw [List.length_map]; omega)) (Yes.vl (Yes.vl (Yes.ok ⟨pk, od ++ [f], wk, sm, ws, by rw [List.map_append]; rfl, ⟨d.pl, d.pk, by rw [List.length_append, List.length_singleton]; omega, mem_snoc d.od hf.1, d.wl, d.wk, d.sl, d.sm, d.bd, d.nd, d.bl⟩⟩)))))) fun t ht => ?_
    exact Yes.bind (P := DwT (gOf r3)) (Yes.iteF (by decide) (Yes.ok ht)) fun t ht => Yes.bind (P := DwT (gOf r3)) (Yes.iteF (by decide) (Yes.ok ht)) fun t ht => Yes.bindE (a := false) rfl (Yes.iteF (by decide) (Yes.ok ht))
  · -- a work
    refine Yes.bind (P := fun t => t = _) (Yes.iteF (by decide) (Yes.ok rfl)) fun t ht => ?_
    subst ht
    unfold m_law_drawn_j0 m_law_drawn_j1 m_law_drawn_j2 m_law_drawn_j3
    refine Yes.bind (P := fun t => t = _) (Yes.iteF (by decide) (Yes.ok rfl)) fun t ht => ?_
    subst ht
    have cn : ¬ (4 : Int) ≤ ((wk.map (ToD.td : Wk → PyData)).length : Int) := fun h => cn (decide_eq_true h)
    rw [List.length_map] at cn
    refine Yes.bind (P := DwT (gOf r3)) (Yes.iteT rfl (Yes.chk (i5 2 (by decide) (by decide)) (Yes.bind (lwork_yes (k := ((wk.map (ToD.td : Wk → PyData)).length : Int)) (by rw [List.length_map]; omega)) fun w hw => Yes.chk (sz_lt (by show (wk.map _).length < _; rw [List.length_map]; omega)) (Yes.vl (Yes.vl (Yes.ok ⟨pk, od, wk ++ [w], sm, ws, by rw [List.map_append]; rfl, ⟨d.pl, d.pk, d.ol, d.od, by rw [List.length_append, List.length_singleton]; omega, fun k hk => ?_, d.sl, d.sm, d.bd, d.nd, d.bl⟩⟩)))))) fun t ht => ?_
    · rw [List.length_map] at hw
      rw [List.length_append, List.length_singleton] at hk
      by_cases c : k < wk.length
      · rw [List.getElem_append_left c]; exact d.wk k c
      · have e : k = wk.length := by omega
        subst e
        rw [List.getElem_append_right (Nat.le_refl _)]
        simpa using hw
    · exact Yes.bind (P := DwT (gOf r3)) (Yes.iteF (by decide) (Yes.ok ht)) fun t ht => Yes.bindE (a := false) rfl (Yes.iteF (by decide) (Yes.ok ht))
  · -- a sum field
    refine Yes.bind (P := fun t => t = _) (Yes.iteF (by decide) (Yes.ok rfl)) fun t ht => ?_
    subst ht
    unfold m_law_drawn_j0 m_law_drawn_j1 m_law_drawn_j2 m_law_drawn_j3
    refine Yes.bind (P := fun t => t = _) (Yes.iteF (by decide) (Yes.ok rfl)) fun t ht => ?_
    subst ht
    refine Yes.bind (P := fun t => t = _) (Yes.iteF (by decide) (Yes.ok rfl)) fun t ht => ?_
    subst ht
    have cn : ¬ (4 : Int) ≤ ((sm.map (ToD.td : (Int × Int) → PyData)).length : Int) := fun h => cn (decide_eq_true h)
    rw [List.length_map] at cn
    refine Yes.bind (P := DwT (gOf r3)) (Yes.iteT rfl (Yes.chk (i5 3 (by decide) (by decide)) (Yes.bind (span_yes (by decide) (by decide)) fun f hf => Yes.chk (sz_lt (by show (sm.map _).length < _; rw [List.length_map]; omega)) (Yes.vl (Yes.vl (Yes.ok ⟨pk, od, wk, sm ++ [f], ws, by rw [List.map_append]; rfl, ⟨d.pl, d.pk, d.ol, d.od, d.wl, d.wk, by rw [List.length_append, List.length_singleton]; omega, mem_snoc d.sm (hf.1.fd (by decide) (by decide)), d.bd, d.nd, d.bl⟩⟩)))))) fun t ht => ?_
    exact Yes.bindE (a := false) rfl (Yes.iteF (by decide) (Yes.ok ht))
  · -- a wire
    refine Yes.bind (P := fun t => t = _) (Yes.iteF (by decide) (Yes.ok rfl)) fun t ht => ?_
    subst ht
    unfold m_law_drawn_j0 m_law_drawn_j1 m_law_drawn_j2 m_law_drawn_j3
    refine Yes.bind (P := fun t => t = _) (Yes.iteF (by decide) (Yes.ok rfl)) fun t ht => ?_
    subst ht
    refine Yes.bind (P := fun t => t = _) (Yes.iteF (by decide) (Yes.ok rfl)) fun t ht => ?_
    subst ht
    refine Yes.bind (P := fun t => t = _) (Yes.iteF (by decide) (Yes.ok rfl)) fun t ht => ?_
    subst ht
    have cn : ¬ (36 : Int) ≤ ((ws.map (ToD.td : (Int × Int) → PyData)).length : Int) := fun h => cn (decide_eq_true h)
    rw [List.length_map] at cn
    have a1 := modR (x := num / 40) (n := 36) (by decide)
    have a2 := modR (x := num) (n := 40) (by decide)
    have a3 := a1.1; have a4 := a2.1
    unfold inR at a3 a4
    have e2 : (ws.map (ToD.td : (Int × Int) → PyData)).map (fun d => ((FromD.fd (α := Int) (dyAt d 1)).getD default)) = ws.map (·.2) := by
      rw [List.map_map]; exact List.map_congr_left fun w _ => rfl
    refine Yes.bindE (a := !(decide (((1 : Int) + ((num / (40 : Int)) % (36 : Int))) ∈ (ws.map (·.2))))) ?_ (Yes.ite (fun c => ?_) fun _ => Yes.ok h0)
    · show chk _ _ = _
      rw [chk_t (i5 4 (by decide) (by decide)), chk_t (sz_lt (by show (ws.map _).length < _; rw [List.length_map]; omega)), chk_t (fun d hd => by obtain ⟨w, _, rfl⟩ := List.mem_map.mp hd; exact ⟨rfl, by show inR 2 1; unfold inR; omega⟩), chk_t (fun d hd => by obtain ⟨w, _, rfl⟩ := List.mem_map.mp hd; rfl), ← e2]
      rfl
    · simp only [Bool.not_eq_true', decide_eq_false_iff_not] at c
      refine Yes.chk (i5 4 (by decide) (by decide)) (Yes.chk (sz_lt (by show (ws.map _).length < _; rw [List.length_map]; omega)) (Yes.vl (Yes.vl (Yes.ok ⟨pk, od, wk, sm, ws ++ [(1 + num % 40, 1 + num / 40 % 36)], by rw [List.map_append]; rfl, ⟨d.pl, d.pk, d.ol, d.od, d.wl, d.wk, d.sl, d.sm, mem_snoc d.bd ⟨⟨by dsimp only; omega, by dsimp only; omega⟩, by dsimp only; omega, by dsimp only; omega⟩, ?_, by rw [List.length_append, List.length_singleton]; omega⟩⟩))))
      rw [List.map_append, List.nodup_append]
      refine ⟨d.nd, by simp, fun a ha b hb hab => ?_⟩
      rw [List.map_cons, List.map_nil, List.mem_singleton] at hb
      have hq : a = 1 + num / 40 % 36 := hab.trans hb
      exact c (hq ▸ ha)
theorem drawn_yes (s : Scr) : ∃ r3, Yes (m_law_drawn s) (DwT (gOf r3)) := by
  refine ⟨(if (3 : Int) < (s.ns.length : Int) then getI s.ns 3 else 0), ?_⟩
  unfold m_law_drawn
  refine Yes.vl (Yes.bindE (cell_is s (by decide)) (Yes.vl (Yes.bind (Yes.forR (fun _ t => DwT (gOf _) t) ⟨[], [], [], [], [], rfl, ⟨Nat.zero_le _, (fun _ h => nomatch h), Nat.zero_le _, (fun _ h => nomatch h), Nat.zero_le _, (fun _ h => absurd h (Nat.not_lt_zero _)), Nat.zero_le _, (fun _ h => nomatch h), (fun _ h => nomatch h), List.nodup_nil, Nat.zero_le _⟩⟩ (fun p x r e t ht => drawn_turn ht) (W := DwT (gOf _)) fun t ht => ht) fun t ht => Yes.ok ht)))

/-! ### the parts -/
structure PT where
  nm : Str
  pk : List ((Int × Int) × Str)
  md : PyData
  od : List (Int × Int)
  wk : List Wk
  br : Int
  sm : List (Int × Int)
  fg : Int
  bd : List (Int × Int)
def PT.row (p : PT) : List PyData := [ToD.td p.nm, ToD.td p.pk, p.md, ToD.td p.od, ToD.td p.wk, ToD.td p.br, ToD.td p.sm, ToD.td p.fg, ToD.td p.bd]
def PT.ask (p : PT) : Asking := ⟨p.nm, p.pk, p.md, p.od, p.wk, p.br, p.sm, p.fg, p.bd⟩
/-- the band of columns in which the picks, the middle and the keys lie -/
def Bd (tn : Bool) (f : Int × Int) : Prop := if tn = true then InB 13 36 f else InB 1 24 f
theorem Bd.fd {tn : Bool} {f : Int × Int} (h : Bd tn f) : fdOk f = true := by
  cases tn with
  | true => exact InB.fd (lo := 13) (hi := 36) h (by decide) (by decide)
  | false => exact InB.fd (lo := 1) (hi := 24) h (by decide) (by decide)
theorem Bd.both {tn : Bool} {f : Int × Int} (h : InB 13 24 f) : Bd tn f := by
  unfold InB at h
  cases tn with
  | true => show InB 13 36 f; unfold InB; omega
  | false => show InB 1 24 f; unfold InB; omega
theorem Bd.turn {f : Int × Int} (h : InB 1 24 f) : Bd true (turnF f) := turn_in h
def WkT (tn : Bool) (wk : List Wk) : Prop := ∃ w0 : List Wk, w0.length ≤ 4 ∧ (∀ (k : Nat) (h : k < w0.length), WorkAt k w0[k]) ∧ wk = if tn = true then w0.map turnW else w0
theorem turn_turn (f : Int × Int) : turnF (turnF f) = f := by
  unfold turnF
  obtain ⟨a, b⟩ := f
  dsimp only
  rw [Prod.mk.injEq]
  omega
theorem WkT.go {tn : Bool} {wk : List Wk} (h : WkT tn wk) {g : List (Int × Int)} (hg : ∀ f ∈ g, Bd tn f) : wkGo g [] wk = true := by
  obtain ⟨w0, h4, hw, rfl⟩ := h
  cases tn with
  | false => exact works_go hg h4 hw
  | true =>
    have e : g = (g.map turnF).map turnF := by
      rw [List.map_map]
      exact ((List.map_congr_left fun f _ => turn_turn f).trans (List.map_id g)).symm
    have h2 : ∀ f ∈ g.map turnF, InB 1 24 f := fun f hf => by
      obtain ⟨q, hq, rfl⟩ := List.mem_map.mp hf
      have : InB 13 36 q := hg q hq
      exact turn_in this
    have := works_go h2 h4 hw
    rw [← go_turn (g.map turnF) w0 [], ← e] at this
    exact this
theorem WkT.len {tn : Bool} {wk : List Wk} (h : WkT tn wk) : wk.length ≤ 4 := by
  obtain ⟨w0, h4, _, rfl⟩ := h
  cases tn with
  | true => show (w0.map turnW).length ≤ 4; rw [List.length_map]; exact h4
  | false => exact h4
theorem wordOk_okd {z : Str} (h : wordOk z = true) : okD z = true := by
  have h := of_decide_eq_true h
  simp only [List.mem_cons, List.mem_nil_iff, or_false] at h
  rcases h with rfl | rfl | rfl <;> decide +kernel
theorem okd_fd (f : Int × Int) : okD f = true := by rw [okD_pair, okD_int, okD_int]; rfl
theorem WkT.okd {tn : Bool} {wk : List Wk} (h : WkT tn wk) : okD wk = true := by
  obtain ⟨w0, h4, hw, rfl⟩ := h
  refine ok_list fun w hm => ?_
  have key : ∀ w ∈ w0, okD w.x3 = true := fun w hm => by
    obtain ⟨k, hk, rfl⟩ := List.mem_iff_getElem.mp hm
    exact wordOk_okd (hw k hk).wd
  rw [okD_t4, okd_fd, okd_fd, okd_fd, Bool.true_and, Bool.true_and, Bool.and_true]
  cases tn with
  | false => exact key w hm
  | true =>
    obtain ⟨v, hv, rfl⟩ := List.mem_map.mp hm
    exact key v hv
structure PTOk (tn : Bool) (p : PT) : Prop where
  nm : Nm p.nm
  pl : p.pk.length ≤ 8
  pk : ∃ g : Int → Nat, (∀ c, g c ∈ SGN) ∧ ∀ q ∈ p.pk, PkG g q
  pb : ∀ q ∈ p.pk, Bd tn q.1
  md : ∃ mf, MidP p.nm p.md mf ∧ ∀ f ∈ mf, Bd tn f
  ol : p.od.length ≤ 6
  od : ∀ f ∈ p.od, Bd tn f
  wk : WkT tn p.wk
  br : 0 ≤ p.br ∧ p.br ≤ 3 ∧ p.br ≤ (p.od.length : Int)
  sl : p.sm.length ≤ 4
  sm : ∀ f ∈ p.sm, fdOk f = true
  fg : 1 ≤ p.fg ∧ p.fg ≤ 12
  bo : boardOk p.bd
  bs : p.bd.Pairwise fun a b => a.2 < b.2
theorem isb_srt {bd : List (Int × Int)} (ho : boardOk bd) (hs : bd.Pairwise fun a b => a.2 < b.2) : m_is_board bd = .ok true := by
  have h := make_yes ho (srt_nd hs)
  rw [due_id hs] at h
  unfold m_is_board
  rw [h]
  show R.ok (decide (bd = bd)) = _
  rw [decide_eq_true rfl]
theorem MidP.imm {nm : Str} {d : PyData} {mf : List (Int × Int)} (h : MidP nm d mf) : immD d = true := by
  cases h with
  | non => simp [immD]
  | first f hf => show immD (.tuple [.str _, .tuple [.int _, .int _]]) = true; simp [immD, immA]
  | two w n f g _ _ _ _ _ _ => show immD (.tuple [.str _, .str _, .tuple [.int _, .int _], .tuple [.int _, .int _]]) = true; simp [immD, immA]
theorem PTOk.init {tn : Bool} {p : PT} (h : PTOk tn p) : m_Asking___init__ p.nm p.pk p.md p.od (some p.wk) p.br (some p.sm) p.fg (some p.bd) = .ok p.ask := by
  obtain ⟨g, hg, hpk⟩ := h.pk
  obtain ⟨mf, hm, hmb⟩ := h.md
  have hf := hm.fit h.nm
  have hl := h.nm.len
  have pl := h.pl
  refine init_ok (works := some p.wk) (sums := some p.sm) (board := some p.bd) (mf := mf) ⟨?_, ?_, hf.1, hf.2.1, hf.2.2, h.pl, h.ol, h.sl, h.fg, fun f hff => ?_, h.br, isb_srt h.bo h.bs⟩ ?_ hm.imm
  · exact (name_yes (by show p.nm.length ≤ 1000000; omega)).trans (congrArg R.ok h.nm.ok)
  · exact picks_yes _ h.pl fun q hq => (hpk q hq).ok hg
  · rcases List.mem_append.mp hff with hff | hff
    · exact (h.od f hff).fd
    · exact h.sm f hff
  · show (decide (p.wk.length ≤ 4) && wkGo ((p.pk.map (fun q => q.1) ++ mf) ++ p.od) [] p.wk) = true
    rw [decide_eq_true h.wk.len, h.wk.go fun f hff => ?_]
    · rfl
    · rcases List.mem_append.mp hff with hff | hff
      · rcases List.mem_append.mp hff with hff | hff
        · obtain ⟨q, hq, rfl⟩ := List.mem_map.mp hff
          exact h.pb q hq
        · exact hmb f hff
      · exact h.od f hff
theorem fd_td {α : Type} [Py α] [ToD α] [FromD α] [RtD α] [Inhabited α] (a : α) : (FromD.fd (α := α) (ToD.td a)).isSome = true ∧ (FromD.fd (α := α) (ToD.td a)).getD default = a := by rw [RtD.rt]; exact ⟨rfl, rfl⟩
theorem fa_td {α : Type} [Py α] [ToD α] [FromD α] [RtD α] (l : List α) : (fdAll (α := α) (l.map ToD.td)).isSome = true ∧ (fdAll (α := α) (l.map ToD.td)).getD [] = l := by rw [rt_all]; exact ⟨rfl, rfl⟩
structure M5 (tn : Bool) (nm : Str) (pk : List ((Int × Int) × Str)) (od sm : List (Int × Int)) (wk : List Wk) (md : PyData) : Prop where
  pl : pk.length ≤ 8
  kp : ∃ g : Int → Nat, (∀ c, g c ∈ SGN) ∧ ∀ q ∈ pk, PkG g q
  pb : ∀ q ∈ pk, Bd tn q.1
  md : ∃ mf, MidP nm md mf ∧ ∀ f ∈ mf, Bd tn f
  ol : od.length ≤ 6
  od : ∀ f ∈ od, Bd tn f
  wk : WkT tn wk
  sl : sm.length ≤ 4
  sm : ∀ f ∈ sm, fdOk f = true
theorem j0_yes {tn : Bool} {nm : Str} {r18 : Int} {ws : List (Int × Int)} {pk : List ((Int × Int) × Str)} {od sm : List (Int × Int)} {wk : List Wk} {md : PyData} (hn : Nm nm) (hb : boardOk ws) (hd : (ws.map (·.2)).Nodup) (hl : ws.length ≤ 36) (h : M5 tn nm pk od sm wk md) : Yes (m_law_parts_j0 nm r18 ws pk od sm wk md) fun r => ∃ p, r = PT.row p ∧ PTOk tn p := by
  have ol := h.ol
  have b1 := Int.emod_nonneg r18 (show min2 3 (od.length : Int) + 1 ≠ 0 by unfold min2; split <;> omega)
  have b2 := Int.emod_lt_of_pos r18 (show 0 < min2 3 (od.length : Int) + 1 by unfold min2; split <;> omega)
  have b3 := Int.emod_nonneg (r18 / 4) (show (12 : Int) ≠ 0 by decide)
  have b4 := Int.emod_lt_of_pos (r18 / 4) (show (0 : Int) < 12 by decide)
  unfold m_law_parts_j0
  refine Yes.chk (sz_lt (by omega)) (Yes.chk (sz_lt (by rw [sortP_len, List.length_map]; omega)) (Yes.vl (Yes.chk (by unfold min2; split <;> omega) (Yes.vli fun br hbr => Yes.ok ⟨⟨nm, pk, md, od, wk, br, sm, 1 + r18 / 4 % 12, due ws⟩, rfl, ⟨hn, h.pl, h.kp, h.pb, h.md, h.ol, h.od, h.wk, ?_, h.sl, h.sm, ⟨by dsimp only; omega, by dsimp only; omega⟩, due_ok hb, due_srt hd⟩⟩))))
  have b5 : min2 3 (od.length : Int) ≤ 3 ∧ min2 3 (od.length : Int) ≤ (od.length : Int) := by unfold min2; split <;> omega
  dsimp only
  rw [hbr]
  omega
theorem parts_yes (s : Scr) : Yes (m_law_parts s) fun r => ∃ tn p, r = PT.row p ∧ PTOk tn p := by
  obtain ⟨r3, hdr⟩ := drawn_yes s
  unfold m_law_parts
  refine Yes.bindE (cell_is s (by decide)) (Yes.bind (lname_yes _) fun nm hn => Yes.bindE (cell_is s (by decide)) (Yes.bind (lmid_yes hn _) fun md hmd => Yes.bindE (cell_is s (by decide)) (Yes.bind hdr fun t ht => ?_)))
  generalize (if (0 : Int) < (s.ns.length : Int) then getI s.ns 0 else 0) = r1
  generalize (if (2 : Int) < (s.ns.length : Int) then getI s.ns 2 else 0) = r18
  obtain ⟨pk, od, wk, sm, ws, rfl, d⟩ := ht
  have g0 : getI [pk.map ToD.td, od.map ToD.td, wk.map ToD.td, sm.map ToD.td, ws.map ToD.td] 0 = pk.map ToD.td := rfl
  have g1 : getI [pk.map ToD.td, od.map ToD.td, wk.map ToD.td, sm.map ToD.td, ws.map ToD.td] 1 = od.map ToD.td := rfl
  have g2 : getI [pk.map ToD.td, od.map ToD.td, wk.map ToD.td, sm.map ToD.td, ws.map ToD.td] 2 = wk.map ToD.td := rfl
  have g3 : getI [pk.map ToD.td, od.map ToD.td, wk.map ToD.td, sm.map ToD.td, ws.map ToD.td] 3 = sm.map ToD.td := rfl
  have g4 : getI [pk.map ToD.td, od.map ToD.td, wk.map ToD.td, sm.map ToD.td, ws.map ToD.td] 4 = ws.map ToD.td := rfl
  rw [g0, g1, g2, g3, g4]
  have pl := d.pl; have ol := d.ol; have wl := d.wl; have sl := d.sl; have bl := d.bl
  refine Yes.chk rfl (Yes.chk (fa_td pk).1 (Yes.vl (Yes.chk (fa_td od).1 (Yes.vl (Yes.chk (fa_td wk).1 (Yes.vl (Yes.chk (fa_td sm).1 (Yes.vl (Yes.chk (fa_td ws).1 (Yes.vl ?_))))))))))
  rw [(fa_td pk).2, (fa_td od).2, (fa_td wk).2, (fa_td sm).2, (fa_td ws).2]
  obtain ⟨mf, hmp, hmb⟩ := hmd
  have gs : ∀ c, gOf r3 c ∈ SGN := fun c => (gOf_yes r3 c).2
  refine Yes.bind (P := fun t : (List ((Int × Int) × Str)) × (List (Int × Int)) × (List (Int × Int)) × (List Wk) × PyData => ∃ tn, M5 tn nm t.1 t.2.1 t.2.2.1 t.2.2.2.1 t.2.2.2.2) (Yes.ite (fun _ => ?_) fun _ => Yes.ok ⟨false, ⟨d.pl, ⟨_, gs, fun q hq => (d.pk q hq).1⟩, fun q hq => (d.pk q hq).2, ⟨mf, hmp, hmb⟩, d.ol, d.od, ⟨wk, d.wl, d.wk, rfl⟩, d.sl, d.sm⟩⟩) fun t ⟨tn, ht⟩ => (j0_yes hn d.bd d.nd d.bl ht).imp fun r ⟨p, h⟩ => ⟨tn, p, h⟩
  refine Yes.chk (sz_lt (by omega)) (Yes.bindE (lcR_map (f := fun q : (Int × Int) × Str => (turnF q.1, revS q.2)) fun q hq => ?_) (Yes.chk (sz_lt (by omega)) (Yes.bindE (lcR_map (f := turnF) fun q hq => rfl) (Yes.chk (sz_lt (by omega)) (Yes.bindE (lcR_map (f := turnF) fun q hq => rfl) (Yes.vl (Yes.bind (P := fun t => t = wk.map turnW) (Yes.forR (fun p t => t = p.map turnW) rfl (fun p x r e t ht => ?_) (W := fun t => t = wk.map turnW) fun t ht => ht) fun t ht => ?_)))))))
  · show chk _ _ = _
    exact chk_t (sz_le (by have := (d.pk q hq).1.lle; omega))
  · have hp := len_mid e
    have : t.length = p.length := by rw [ht, List.length_map]
    unfold m_law_parts_b0
    refine Yes.bindE (turn_yes _) (Yes.bindE (turn_yes _) (Yes.bindE (turn_yes _) (Yes.chk (sz_lt (by omega)) (Yes.vl (Yes.ok (by rw [ht, List.map_append]; rfl))))))
  · subst ht
    have m5 : ∀ md' mf', MidP nm md' mf' → (∀ f ∈ mf', Bd true f) → ∃ tn, M5 tn nm (pk.map fun q => (turnF q.1, revS q.2)) (od.map turnF) (sm.map turnF) (wk.map turnW) md' := fun md' mf' h1 h2 => ⟨true, ⟨by rw [List.length_map]; exact d.pl, ⟨_, (fun c => gs (37 - c)), fun q hq => by obtain ⟨x, hx, rfl⟩ := List.mem_map.mp hq; exact (d.pk x hx).1.turn⟩, fun q hq => by obtain ⟨x, hx, rfl⟩ := List.mem_map.mp hq; exact Bd.turn (d.pk x hx).2, ⟨mf', h1, h2⟩, by rw [List.length_map]; exact d.ol, fun q hq => by obtain ⟨x, hx, rfl⟩ := List.mem_map.mp hq; exact Bd.turn (d.od x hx), ⟨wk, d.wl, d.wk, rfl⟩, by rw [List.length_map]; exact d.sl, fun q hq => by obtain ⟨x, hx, rfl⟩ := List.mem_map.mp hq; rw [turn_fd]; exact d.sm x hx⟩⟩
    cases hmp with
    | non =>
      refine Yes.iteF (by show ¬ (!dyNone PyData.none) = true; decide) (Yes.ok (m5 _ _ .non fun _ h => nomatch h))
    | first f hf =>
      refine Yes.iteT rfl (Yes.chk rfl (Yes.chk rfl (Yes.vli fun a ha => ?_)))
      have ha : a = 1 := ha
      subst ha
      have c1 : cutL [PyData.str "first", ToD.td f] none (some 1) = [PyData.str "first"] := rfl
      have c2 : cutL [PyData.str "first", ToD.td f] (some (1 + 1)) none = [] := rfl
      refine Yes.chk rfl (Yes.chk ⟨rfl, by show inR 2 1; unfold inR; omega⟩ (Yes.chk (fd_td f).1 (Yes.bindE (turn_yes _) (Yes.chk (by show 2 ≤ sizeLine; decide) (Yes.chk rfl (Yes.chk (by show 2 ≤ sizeLine; decide) (Yes.vl (Yes.ok ?_))))))))
      exact m5 (midF (turnF f)) [turnF f] (.first _ (by rw [turn_fd]; exact hf)) fun x hx => by rw [List.mem_singleton] at hx; rw [hx]; exact Bd.turn (hmb f (by simp))
    | two w n f g hw hN ne hf hg e =>
      refine Yes.iteT rfl (Yes.chk rfl (Yes.chk rfl (Yes.vli fun a ha => ?_)))
      have ha : a = 2 := ha
      subst ha
      refine Yes.chk rfl (Yes.chk ⟨rfl, by show inR 4 2; unfold inR; omega⟩ (Yes.chk (fd_td f).1 (Yes.bindE (turn_yes _) (Yes.chk (by show 3 ≤ sizeLine; decide) (Yes.chk rfl (Yes.chk (by show 4 ≤ sizeLine; decide) (Yes.vl (Yes.ok ?_))))))))
      exact m5 (midT w n (turnF f) g) [turnF f] (.two _ _ _ _ hw hN ne (by rw [turn_fd]; exact hf) hg (by unfold turnF; dsimp only; omega)) fun x hx => by rw [List.mem_singleton] at hx; rw [hx]; exact Bd.turn (hmb f (by simp))

theorem told_yes (p : PT) : m_law_told (PT.ask p) = .ok (PT.row p) := by
  unfold m_law_told
  exact chk_eq (by show 9 ≤ sizeLine; decide) rfl
theorem MidP.okd {nm : Str} {d : PyData} {mf : List (Int × Int)} (h : MidP nm d mf) : d.canLay0 = true ∧ d.depth ≤ 3 ∧ PyData.eqv d d = true := by
  cases h with
  | non => exact ⟨by simp [PyData.canLay0], by simp [PyData.depth], by simp [PyData.eqv]⟩
  | first f _ =>
    refine ⟨?_, Nat.le_trans (PyD.depth ((("first" : Str), f) : Str × (Int × Int))) (by decide), (PyD.eqv ((("first" : Str), f) : Str × (Int × Int)) _).trans (decide_eq_true rfl)⟩
    have : okD ((("first" : Str), f) : Str × (Int × Int)) = true := by rw [okD_pair, ok_first, okd_fd]; rfl
    exact this
  | two w n f g hw hN _ _ _ _ =>
    refine ⟨?_, Nat.le_trans (PyD.depth (⟨w, n, f, g⟩ : T4 Str Str (Int × Int) (Int × Int))) (by decide), (PyD.eqv (⟨w, n, f, g⟩ : T4 Str Str (Int × Int) (Int × Int)) _).trans (decide_eq_true rfl)⟩
    have ow : okD w = true := by
      rcases hw with rfl | rfl
      · exact ok_mates
      · exact ok_without
    have : okD (⟨w, n, f, g⟩ : T4 Str Str (Int × Int) (Int × Int)) = true := by rw [okD_t4, ow, hN.okd, okd_fd, okd_fd]; rfl
    exact this
theorem okd_fds (l : List (Int × Int)) : okD l = true := ok_list fun f _ => okd_fd f
theorem row_shp {tn : Bool} {p : PT} (h : PTOk tn p) : SeqAt.shaped (ToD.td (PT.row p)) = true := by
  obtain ⟨g, hg, hpk⟩ := h.pk
  obtain ⟨mf, hm, _⟩ := h.md
  have om := hm.okd
  have e1 : okD p.nm = true := h.nm.okd
  have e2 : okD p.pk = true := ok_list fun q hq => (hpk q hq).okd hg
  have e4 : okD p.od = true := okd_fds _
  have e5 : okD p.wk = true := h.wk.okd
  have e7 : okD p.sm = true := okd_fds _
  have e9 : okD p.bd = true := okd_fds _
  have e6 : okD p.br = true := okD_int _
  have e8 : okD p.fg = true := okD_int _
  show SeqAt.shaped (.list [PyD.d p.nm, PyD.d p.pk, p.md, PyD.d p.od, PyD.d p.wk, PyD.d p.br, PyD.d p.sm, PyD.d p.fg, PyD.d p.bd]) = true
  unfold okD at e1 e2 e4 e5 e6 e7 e8 e9
  have d1 : (PyD.d p.nm).depth ≤ 4 := Nat.le_trans (PyD.depth p.nm) (by decide)
  have d2 : (PyD.d p.pk).depth ≤ 4 := Nat.le_trans (PyD.depth p.pk) (by decide)
  have d4 : (PyD.d p.od).depth ≤ 4 := Nat.le_trans (PyD.depth p.od) (by decide)
  have d5 : (PyD.d p.wk).depth ≤ 4 := Nat.le_trans (PyD.depth p.wk) (by decide)
  have d6 : (PyD.d p.br).depth ≤ 4 := Nat.le_trans (PyD.depth p.br) (by decide)
  have d7 : (PyD.d p.sm).depth ≤ 4 := Nat.le_trans (PyD.depth p.sm) (by decide)
  have d8 : (PyD.d p.fg).depth ≤ 4 := Nat.le_trans (PyD.depth p.fg) (by decide)
  have d9 : (PyD.d p.bd).depth ≤ 4 := Nat.le_trans (PyD.depth p.bd) (by decide)
  have d3 := om.2.1
  unfold SeqAt.shaped
  simp only [PyData.canLay0, PyData.canLayAll0, PyData.depth, PyData.depthAll, e1, e2, om.1, e4, e5, e6, e7, e8, e9, Bool.and_true, Bool.true_and]
  refine decide_eq_true ?_
  omega
theorem row_eqv (p q : PT) : PyData.eqv (ToD.td (PT.row p)) (ToD.td (PT.row q)) = (decide (p.nm = q.nm) && (decide (p.pk = q.pk) && (PyData.eqv p.md q.md && (decide (p.od = q.od) && (decide (p.wk = q.wk) && (decide (p.br = q.br) && (decide (p.sm = q.sm) && (decide (p.fg = q.fg) && decide (p.bd = q.bd))))))))) := by
  show PyData.eqv (.list [PyD.d p.nm, PyD.d p.pk, p.md, PyD.d p.od, PyD.d p.wk, PyD.d p.br, PyD.d p.sm, PyD.d p.fg, PyD.d p.bd]) (.list [PyD.d q.nm, PyD.d q.pk, q.md, PyD.d q.od, PyD.d q.wk, PyD.d q.br, PyD.d q.sm, PyD.d q.fg, PyD.d q.bd]) = _
  simp only [PyData.eqv, PyData.eqvAll, PyD.eqv, Bool.and_true]
theorem row_refl {tn : Bool} {p : PT} (h : PTOk tn p) : PyData.eqv (ToD.td (PT.row p)) (ToD.td (PT.row p)) = true := by
  obtain ⟨mf, hm, _⟩ := h.md
  rw [row_eqv, hm.okd.2.2]
  simp
theorem fi (p : PT) {i : Int} (h0 : 0 ≤ i) (h1 : i < 9) : inR (PT.row p).length i := by show inR 9 i; unfold inR; omega

theorem PTOk.initG {tn : Bool} {p : PT} (h : PTOk tn p) {works : Option (List Wk)} {sums board : Option (List (Int × Int))} (e1 : works.getD [] = p.wk) (e2 : sums.getD [] = p.sm) (e3 : board.getD [] = p.bd) : m_Asking___init__ p.nm p.pk p.md p.od works p.br sums p.fg board = .ok p.ask := by
  have e : m_Asking___init__ p.nm p.pk p.md p.od works p.br sums p.fg board = m_Asking___init__ p.nm p.pk p.md p.od (some (works.getD [])) p.br (some (sums.getD [])) p.fg (some (board.getD [])) := rfl
  rw [e, e1, e2, e3]
  exact h.init
theorem are_yes {tn : Bool} {p : PT} (h : PTOk tn p) : m_law_are (PT.ask p) (PT.row p) = .ok true := by
  unfold m_law_are
  rw [told_yes]
  show R.bind (forL (fun (s_ : Unit) (q_ : Int) => m_law_are_b0 (PT.row p) q_) () [(1 : Int), (3 : Int), (4 : Int), (6 : Int), (8 : Int)]) _ = _
  have b : ∀ k : Int, k ∈ [(1 : Int), 3, 4, 6, 8] → m_law_are_b0 (PT.row p) k = .ok (.nxt ()) := fun k hk => by
    have hk : k = 1 ∨ k = 3 ∨ k = 4 ∨ k = 6 ∨ k = 8 := by simpa using hk
    unfold m_law_are_b0
    rcases hk with rfl | rfl | rfl | rfl | rfl <;> exact chk_eq (fi p (by decide) (by decide)) (chk_eq rfl rfl)
  have e : forL (fun (s_ : Unit) (q_ : Int) => m_law_are_b0 (PT.row p) q_) () [(1 : Int), (3 : Int), (4 : Int), (6 : Int), (8 : Int)] = .ok (.nxt ()) := by
    unfold forL; rw [b 1 (by decide)]
    show forL _ _ _ = _
    unfold forL; rw [b 3 (by decide)]
    show forL _ _ _ = _
    unfold forL; rw [b 4 (by decide)]
    show forL _ _ _ = _
    unfold forL; rw [b 6 (by decide)]
    show forL _ _ _ = _
    unfold forL; rw [b 8 (by decide)]
    rfl
  rw [e]
  refine (bind_eq (a := false) ?_ rfl).trans ?_
  · refine chk_eq (fi p (by decide) (by decide)) (chk_eq rfl ?_)
    show chk _ _ = _
    refine chk_eq (fi p (by decide) (by decide)) ?_
    have w : ∀ i : Int, m_law_whole (PyData.int i) = .ok true := fun i => by unfold m_law_whole; exact chk_eq rfl (chk_eq (fun _ => rfl) rfl)
    show R.bind (m_law_whole (PyData.int p.br)) _ = _
    rw [w]
    show chk _ _ = _
    refine chk_eq (fi p (by decide) (by decide)) ?_
    show R.bind (m_law_whole (PyData.int p.fg)) _ = _
    rw [w]; rfl
  · show chk _ _ = _
    rw [chk_t ⟨row_shp h, row_shp h⟩, row_refl h]
/-- what is handed in -/
def Hd (p : PT) (a b c d e : List PyData) : List Dm := [.told (ToD.td p.nm), .own a, .told p.md, .own b, .own c, .told (ToD.td p.br), .own d, .told (ToD.td p.fg), .own e]
def its (p : PT) : List Dm := Hd p (p.pk.map ToD.td) (p.od.map ToD.td) (p.wk.map ToD.td) (p.sm.map ToD.td) (p.bd.map ToD.td)
theorem its_dat (p : PT) : (its p).map Dm.dat = PT.row p := rfl
theorem fdL {α : Type} [Py α] [ToD α] (l : List α) : (FromD.fd (α := List PyData) (ToD.td l)).isSome = true ∧ (FromD.fd (α := List PyData) (ToD.td l)).getD default = l.map ToD.td := by
  have h := rt_all (l.map ToD.td)
  rw [show (l.map ToD.td).map (ToD.td : PyData → PyData) = l.map ToD.td from List.map_id _] at h
  have e : FromD.fd (α := List PyData) (ToD.td l) = some (l.map ToD.td) := h
  rw [e]; exact ⟨rfl, rfl⟩
theorem hand_yes (p : PT) : forR (fun (s_ : List Dm) (q_ : Int) => m_law_b0 (PT.row p) s_ q_) ((PT.row p).map Dm.told) [(1 : Int), (3 : Int), (4 : Int), (6 : Int), (8 : Int)] = .ok (its p) := by
  have st : ∀ (l : List Dm) (k : Int) (m : List PyData), inR (PT.row p).length k → inR l.length k → (FromD.fd (α := List PyData) (getI (PT.row p) k)).isSome = true ∧ (FromD.fd (α := List PyData) (getI (PT.row p) k)).getD default = m → m_law_b0 (PT.row p) l k = .ok (setI l k (.own m)) := fun l k m h1 h2 h3 => by
    unfold m_law_b0
    rw [chk_t h1, chk_t h3.1, chk_t h2, h3.2]; rfl
  have i9 : ∀ (l : List Dm) (k : Int), l.length = 9 → 0 ≤ k → k < 9 → inR l.length k := fun l k e h0 h1 => by rw [e]; unfold inR; omega
  unfold forR; rw [st _ 1 _ (fi p (by decide) (by decide)) (i9 _ _ rfl (by decide) (by decide)) (fdL p.pk)]
  show forR _ _ _ = _
  unfold forR; rw [st _ 3 _ (fi p (by decide) (by decide)) (i9 _ _ rfl (by decide) (by decide)) (fdL p.od)]
  show forR _ _ _ = _
  unfold forR; rw [st _ 4 _ (fi p (by decide) (by decide)) (i9 _ _ rfl (by decide) (by decide)) (fdL p.wk)]
  show forR _ _ _ = _
  unfold forR; rw [st _ 6 _ (fi p (by decide) (by decide)) (i9 _ _ rfl (by decide) (by decide)) (fdL p.sm)]
  show forR _ _ _ = _
  unfold forR; rw [st _ 8 _ (fi p (by decide) (by decide)) (i9 _ _ rfl (by decide) (by decide)) (fdL p.bd)]
  rfl

def bareP (p : PT) : PT := { p with wk := [], br := 0, sm := [], fg := 6, bd := [] }
def plainP (p : PT) : PT := ⟨p.nm, [], .none, [], [], 0, [], 12, []⟩
def namedP (p : PT) : PT := { p with wk := [], fg := 6 }
theorem WkT.none {tn : Bool} : WkT tn [] := ⟨[], by decide, (fun k h => absurd h (Nat.not_lt_zero k)), by cases tn <;> rfl⟩
theorem bo_nil : boardOk [] := fun _ h => nomatch h
theorem PTOk.bare {tn : Bool} {p : PT} (h : PTOk tn p) : PTOk tn (bareP p) := ⟨h.nm, h.pl, h.pk, h.pb, h.md, h.ol, h.od, .none, ⟨by show (0 : Int) ≤ 0; decide, by show (0 : Int) ≤ 3; decide, by show (0 : Int) ≤ _; omega⟩, by show 0 ≤ 4; decide, (fun _ h => nomatch h), ⟨by show (1 : Int) ≤ 6; decide, by show (6 : Int) ≤ 12; decide⟩, bo_nil, List.Pairwise.nil⟩
theorem PTOk.plain {tn : Bool} {p : PT} (h : PTOk tn p) : PTOk tn (plainP p) := ⟨h.nm, by show 0 ≤ 8; decide, (let ⟨g, hg, _⟩ := h.pk; ⟨g, hg, (fun _ h => nomatch h)⟩), (fun _ h => nomatch h), ⟨[], .non, (fun _ h => nomatch h)⟩, by show 0 ≤ 6; decide, (fun _ h => nomatch h), .none, ⟨by show (0 : Int) ≤ 0; decide, by show (0 : Int) ≤ 3; decide, by show (0 : Int) ≤ _; omega⟩, by show 0 ≤ 4; decide, (fun _ h => nomatch h), ⟨by show (1 : Int) ≤ 12; decide, by show (12 : Int) ≤ 12; decide⟩, bo_nil, List.Pairwise.nil⟩
theorem PTOk.named {tn : Bool} {p : PT} (h : PTOk tn p) : PTOk tn (namedP p) := ⟨h.nm, h.pl, h.pk, h.pb, h.md, h.ol, h.od, .none, h.br, h.sl, h.sm, ⟨by show (1 : Int) ≤ 6; decide, by show (6 : Int) ≤ 12; decide⟩, h.bo, h.bs⟩
theorem wk_len {tn : Bool} {wk : List Wk} (h : WkT tn wk) : wk.length ≤ 4 := by
  obtain ⟨w0, h4, _, rfl⟩ := h
  cases tn with
  | true => show (w0.map turnW).length ≤ 4; rw [List.length_map]; exact h4
  | false => exact h4
theorem end_yes {p : PT} {a b c d e : List PyData} (ha : a.length < sizeLine) (hb : b.length < sizeLine) (hc : c.length < sizeLine) (hd : d.length < sizeLine) (he : e.length < sizeLine) : ∃ l, forR (fun (s_ : List Dm) (q_ : Int) => m_law_b1 s_ q_) (Hd p a b c d e) [(1 : Int), (3 : Int), (4 : Int), (6 : Int), (8 : Int)] = .ok l := by
  have st : ∀ (l : List Dm) (k : Int) (m : List PyData), inR l.length k → getI l k = .own m → m.length < sizeLine → m_law_b1 l k = .ok (setI l k (.own (m ++ [ToD.td (((1 : Int), (36 : Int)) : (Int × Int))]))) := fun l k m h1 h2 h3 => by
    unfold m_law_b1
    rw [chk_t h1, h2, chk_t (show (Dm.own m).isO = true from rfl), chk_t (show (Dm.own m).its.length < sizeLine from h3)]; rfl
  have i9 : ∀ (l : List Dm) (k : Int), l.length = 9 → 0 ≤ k → k < 9 → inR l.length k := fun l k e h0 h1 => by rw [e]; unfold inR; omega
  refine ⟨Hd p (a ++ [ToD.td (((1 : Int), (36 : Int)) : (Int × Int))]) (b ++ [ToD.td (((1 : Int), (36 : Int)) : (Int × Int))]) (c ++ [ToD.td (((1 : Int), (36 : Int)) : (Int × Int))]) (d ++ [ToD.td (((1 : Int), (36 : Int)) : (Int × Int))]) (e ++ [ToD.td (((1 : Int), (36 : Int)) : (Int × Int))]), ?_⟩
  unfold forR; rw [st _ 1 a (i9 _ _ rfl (by decide) (by decide)) rfl ha]
  show forR _ _ _ = _
  unfold forR; rw [st _ 3 b (i9 _ _ rfl (by decide) (by decide)) rfl hb]
  show forR _ _ _ = _
  unfold forR; rw [st _ 4 c (i9 _ _ rfl (by decide) (by decide)) rfl hc]
  show forR _ _ _ = _
  unfold forR; rw [st _ 6 d (i9 _ _ rfl (by decide) (by decide)) rfl hd]
  show forR _ _ _ = _
  unfold forR; rw [st _ 8 e (i9 _ _ rfl (by decide) (by decide)) rfl he]
  rfl

theorem law_true (s : Scr) (hl : s.ns.length ≤ 63) (hb : ∀ z ∈ s.ns, Builtin.Int.intBits z ≤ 1048576) : m_law s = .ok true := by
  unfold m_law
  refine Yes.eq (Yes.bind (parts_yes s) fun r ⟨tn, p, hr, h⟩ => ?_)
  subst hr
  have f5 : ∀ i : Int, 0 ≤ i → i < 5 → inR (cutL (PT.row p) (some (4 : Int)) none).length i := fun i h0 h1 => by show inR 5 i; unfold inR; omega
  refine Yes.chk (by show 9 < sizeLine; decide) (Yes.vl (Yes.vl ?_))
  rw [List.map_id']
  refine Yes.bindE (hand_yes p) ?_
  simp only [its_dat]
  refine Yes.chk (fi p (by decide) (by decide)) ?_
  refine Yes.chk (show (FromD.fd (α := Str) (getI (PT.row p) 0)).isSome = true from (fd_td p.nm).1) ?_
  refine Yes.chk (fi p (by decide) (by decide)) ?_
  refine Yes.chk (show (FromD.fd (α := List ((Int × Int) × Str)) (getI (PT.row p) 1)).isSome = true from (fd_td p.pk).1) ?_
  refine Yes.chk (fi p (by decide) (by decide)) ?_
  refine Yes.chk (fi p (by decide) (by decide)) ?_
  refine Yes.chk (show (FromD.fd (α := List (Int × Int)) (getI (PT.row p) 3)).isSome = true from (fd_td p.od).1) ?_
  refine Yes.chk (f5 0 (by decide) (by decide)) ?_
  refine Yes.chk (show (FromD.fd (α := List Wk) (getI (cutL (PT.row p) (some (4 : Int)) none) 0)).isSome = true from (fd_td p.wk).1) ?_
  refine Yes.chk (f5 1 (by decide) (by decide)) ?_
  refine Yes.chk (show (FromD.fd (α := Int) (getI (cutL (PT.row p) (some (4 : Int)) none) 1)).isSome = true from (fd_td p.br).1) ?_
  refine Yes.chk (f5 2 (by decide) (by decide)) ?_
  refine Yes.chk (show (FromD.fd (α := List (Int × Int)) (getI (cutL (PT.row p) (some (4 : Int)) none) 2)).isSome = true from (fd_td p.sm).1) ?_
  refine Yes.chk (f5 3 (by decide) (by decide)) ?_
  refine Yes.chk (show (FromD.fd (α := Int) (getI (cutL (PT.row p) (some (4 : Int)) none) 3)).isSome = true from (fd_td p.fg).1) ?_
  refine Yes.chk (f5 4 (by decide) (by decide)) ?_
  refine Yes.chk (show (FromD.fd (α := List (Int × Int)) (getI (cutL (PT.row p) (some (4 : Int)) none) 4)).isSome = true from (fd_td p.bd).1) ?_
  refine Yes.bindE (a := PT.ask p) (by rw [(show (FromD.fd (α := Str) (getI (PT.row p) 0)).getD default = p.nm from (fd_td p.nm).2), (show (FromD.fd (α := List ((Int × Int) × Str)) (getI (PT.row p) 1)).getD default = p.pk from (fd_td p.pk).2), (show (FromD.fd (α := List (Int × Int)) (getI (PT.row p) 3)).getD default = p.od from (fd_td p.od).2), (show (FromD.fd (α := List Wk) (getI (cutL (PT.row p) (some (4 : Int)) none) 0)).getD default = p.wk from (fd_td p.wk).2), (show (FromD.fd (α := Int) (getI (cutL (PT.row p) (some (4 : Int)) none) 1)).getD default = p.br from (fd_td p.br).2), (show (FromD.fd (α := List (Int × Int)) (getI (cutL (PT.row p) (some (4 : Int)) none) 2)).getD default = p.sm from (fd_td p.sm).2), (show (FromD.fd (α := Int) (getI (cutL (PT.row p) (some (4 : Int)) none) 3)).getD default = p.fg from (fd_td p.fg).2), (show (FromD.fd (α := List (Int × Int)) (getI (cutL (PT.row p) (some (4 : Int)) none) 4)).getD default = p.bd from (fd_td p.bd).2)]; exact h.init) ?_
  refine Yes.bindE (a := false) (by rw [chk_t ⟨row_shp h, row_shp h⟩]; refine (if_neg (by rw [row_refl h]; decide)).trans ?_; rw [are_yes h]; rfl) (Yes.iteF (by decide) ?_)
  refine Yes.chk (fi p (by decide) (by decide)) ?_
  refine Yes.chk (show (FromD.fd (α := Str) (getI (PT.row p) 0)).isSome = true from (fd_td p.nm).1) ?_
  refine Yes.chk (fi p (by decide) (by decide)) ?_
  refine Yes.chk (show (FromD.fd (α := List ((Int × Int) × Str)) (getI (PT.row p) 1)).isSome = true from (fd_td p.pk).1) ?_
  refine Yes.chk (fi p (by decide) (by decide)) ?_
  refine Yes.chk (fi p (by decide) (by decide)) ?_
  refine Yes.chk (show (FromD.fd (α := List (Int × Int)) (getI (PT.row p) 3)).isSome = true from (fd_td p.od).1) ?_
  refine Yes.bindE (a := PT.ask (bareP p)) (by rw [(show (FromD.fd (α := Str) (getI (PT.row p) 0)).getD default = p.nm from (fd_td p.nm).2), (show (FromD.fd (α := List ((Int × Int) × Str)) (getI (PT.row p) 1)).getD default = p.pk from (fd_td p.pk).2), (show (FromD.fd (α := List (Int × Int)) (getI (PT.row p) 3)).getD default = p.od from (fd_td p.od).2)]; exact h.bare.initG rfl rfl rfl) ?_
  refine Yes.chk (by show 9 ≤ sizeLine; decide) (Yes.vl ?_)
  refine Yes.bindE (are_yes h.bare) (Yes.iteF (by decide) ?_)
  refine Yes.chk (fi p (by decide) (by decide)) ?_
  refine Yes.chk (show (FromD.fd (α := Str) (getI (PT.row p) 0)).isSome = true from (fd_td p.nm).1) ?_
  refine Yes.bindE (a := PT.ask (plainP p)) (by rw [(show (FromD.fd (α := Str) (getI (PT.row p) 0)).getD default = p.nm from (fd_td p.nm).2)]; exact h.plain.initG rfl rfl rfl) ?_
  refine Yes.chk (fi p (by decide) (by decide)) ?_
  refine Yes.chk (show (FromD.fd (α := Str) (getI (PT.row p) 0)).isSome = true from (fd_td p.nm).1) ?_
  refine Yes.bindE (a := true) (by rw [(show (FromD.fd (α := Str) (getI (PT.row p) 0)).getD default = p.nm from (fd_td p.nm).2)]; exact are_yes h.plain) (Yes.iteF (by decide) ?_)
  refine Yes.chk (fi p (by decide) (by decide)) ?_
  refine Yes.chk (show (FromD.fd (α := Str) (getI (PT.row p) 0)).isSome = true from (fd_td p.nm).1) ?_
  refine Yes.chk (fi p (by decide) (by decide)) ?_
  refine Yes.chk (show (FromD.fd (α := List ((Int × Int) × Str)) (getI (PT.row p) 1)).isSome = true from (fd_td p.pk).1) ?_
  refine Yes.chk (fi p (by decide) (by decide)) ?_
  refine Yes.chk (fi p (by decide) (by decide)) ?_
  refine Yes.chk (show (FromD.fd (α := List (Int × Int)) (getI (PT.row p) 3)).isSome = true from (fd_td p.od).1) ?_
  refine Yes.chk (f5 1 (by decide) (by decide)) ?_
  refine Yes.chk (show (FromD.fd (α := Int) (getI (cutL (PT.row p) (some (4 : Int)) none) 1)).isSome = true from (fd_td p.br).1) ?_
  refine Yes.chk (f5 2 (by decide) (by decide)) ?_
  refine Yes.chk (show (FromD.fd (α := List (Int × Int)) (getI (cutL (PT.row p) (some (4 : Int)) none) 2)).isSome = true from (fd_td p.sm).1) ?_
  refine Yes.chk (f5 4 (by decide) (by decide)) ?_
  refine Yes.chk (show (FromD.fd (α := List (Int × Int)) (getI (cutL (PT.row p) (some (4 : Int)) none) 4)).isSome = true from (fd_td p.bd).1) ?_
  refine Yes.bindE (a := PT.ask (namedP p)) (by rw [(show (FromD.fd (α := Str) (getI (PT.row p) 0)).getD default = p.nm from (fd_td p.nm).2), (show (FromD.fd (α := List ((Int × Int) × Str)) (getI (PT.row p) 1)).getD default = p.pk from (fd_td p.pk).2), (show (FromD.fd (α := List (Int × Int)) (getI (PT.row p) 3)).getD default = p.od from (fd_td p.od).2), (show (FromD.fd (α := Int) (getI (cutL (PT.row p) (some (4 : Int)) none) 1)).getD default = p.br from (fd_td p.br).2), (show (FromD.fd (α := List (Int × Int)) (getI (cutL (PT.row p) (some (4 : Int)) none) 2)).getD default = p.sm from (fd_td p.sm).2), (show (FromD.fd (α := List (Int × Int)) (getI (cutL (PT.row p) (some (4 : Int)) none) 4)).getD default = p.bd from (fd_td p.bd).2)]; exact h.named.initG rfl rfl rfl) ?_
  refine Yes.chk (fi p (by decide) (by decide)) ?_
  refine Yes.chk (show (FromD.fd (α := Int) (getI (PT.row p) 5)).isSome = true from (fd_td p.br).1) ?_
  refine Yes.chk (fi p (by decide) (by decide)) ?_
  refine Yes.chk (show (FromD.fd (α := List (Int × Int)) (getI (PT.row p) 6)).isSome = true from (fd_td p.sm).1) ?_
  refine Yes.chk (fi p (by decide) (by decide)) ?_
  refine Yes.chk (show (FromD.fd (α := List (Int × Int)) (getI (PT.row p) 8)).isSome = true from (fd_td p.bd).1) ?_
  refine Yes.chk (by show 9 ≤ sizeLine; decide) (Yes.vl ?_)
  rw [(show (FromD.fd (α := Int) (getI (PT.row p) 5)).getD default = p.br from (fd_td p.br).2), (show (FromD.fd (α := List (Int × Int)) (getI (PT.row p) 6)).getD default = p.sm from (fd_td p.sm).2), (show (FromD.fd (α := List (Int × Int)) (getI (PT.row p) 8)).getD default = p.bd from (fd_td p.bd).2)]
  refine Yes.bindE (are_yes h.named) (Yes.iteF (by decide) ?_)
  have sm : ∀ n : Nat, n ≤ 1000 → n < sizeLine := fun n h => Nat.lt_of_le_of_lt h (by decide)
  have h1 := h.pl; have h3 := h.ol; have h4 := wk_len h.wk; have h6 := h.sl
  have h8 : p.bd.length ≤ 36 := board36 h.bo (srt_nd h.bs)
  obtain ⟨l, hl⟩ := end_yes (p := p) (a := p.pk.map ToD.td) (b := p.od.map ToD.td) (c := p.wk.map ToD.td) (d := p.sm.map ToD.td) (e := p.bd.map ToD.td) (sm _ (by rw [List.length_map]; omega)) (sm _ (by rw [List.length_map]; omega)) (sm _ (by rw [List.length_map]; omega)) (sm _ (by rw [List.length_map]; omega)) (sm _ (by rw [List.length_map]; omega))
  refine Yes.bindE hl ?_
  refine Yes.bindE (a := true) ?_ (Yes.ok rfl)
  rw [are_yes h]
  show R.bind (m_law_are _ _) _ = _
  have e2 := are_yes h.bare
  have e3 := are_yes h.named
  refine (bind_eq (a := true) e2 rfl).trans ?_
  show R.bind (m_law_are _ _) _ = _
  exact bind_eq (a := true) e3 rfl

theorem all_mk {l : PySem.W.OpenLaw} {w : World} {K : Fr} {h : Heap} {mg : Str → Option Value} {fa : Addr} (X : K.In h) (G : h.Ns mainGlobals mg) (hfa : mg "law" = some (.ref fa)) (c : SaysB factsA fndsA K)
    : ∃ fd : FuncData, (∀ (s : Shared) (v : Value), BindsTo s fd ⟨[v], []⟩ [("_law_script", v)]) ∧ ∀ base : Heap, K.In base → base.Ns mainGlobals mg → FnOk l.prog w K mg base CX0 8 fa fd ["_law_script"] (sp_law K) := by
  have a1 : PySem.W.findIn K (.ref (He.ga K "Meet")) "__init__" = some (some (.ref (He.fAd K ("Meet", some "__init__")))) := of_decide_eq_true (c.fact 0 rfl)
  have i1 : PySem.W.typeIn K (.ref (He.fAd K ("Meet", some "__init__"))) = some (.type "function") := of_decide_eq_true (c.fact 1 rfl)
  have a2 : PySem.W.nsIn K mainGlobals "is_card" = some (some (.ref (He.fAd K ("is_card", none)))) := of_decide_eq_true (c.fact 2 rfl)
  have a3 : PySem.W.nsIn K mainGlobals "card_of" = some (some (.ref (He.fAd K ("card_of", none)))) := of_decide_eq_true (c.fact 3 rfl)
  have a4 : PySem.W.nsIn K mainGlobals "make_board" = some (some (.ref (He.fAd K ("make_board", none)))) := of_decide_eq_true (c.fact 4 rfl)
  have a5 : PySem.W.nsIn K mainGlobals "columns_of" = some (some (.ref (He.fAd K ("columns_of", none)))) := of_decide_eq_true (c.fact 5 rfl)
  have a6 : PySem.W.nsIn K mainGlobals "are_apart" = some (some (.ref (He.fAd K ("are_apart", none)))) := of_decide_eq_true (c.fact 6 rfl)
  have a7 : PySem.W.nsIn K mainGlobals "is_name" = some (some (.ref (He.fAd K ("is_name", none)))) := of_decide_eq_true (c.fact 7 rfl)
  have a8 : PySem.W.nsIn K mainGlobals "is_field" = some (some (.ref (He.fAd K ("is_field", none)))) := of_decide_eq_true (c.fact 8 rfl)
  have a9 : PySem.W.nsIn K mainGlobals "is_wide" = some (some (.ref (He.fAd K ("is_wide", none)))) := of_decide_eq_true (c.fact 9 rfl)
  have a10 : PySem.W.nsIn K mainGlobals "is_board" = some (some (.ref (He.fAd K ("is_board", none)))) := of_decide_eq_true (c.fact 10 rfl)
  have a11 : PySem.W.nsIn K mainGlobals "are_picks" = some (some (.ref (He.fAd K ("are_picks", none)))) := of_decide_eq_true (c.fact 11 rfl)
  have a12 : PySem.W.nsIn K mainGlobals "is_middle" = some (some (.ref (He.fAd K ("is_middle", none)))) := of_decide_eq_true (c.fact 12 rfl)
  have a13 : PySem.W.nsIn K mainGlobals "main_field" = some (some (.ref (He.fAd K ("main_field", none)))) := of_decide_eq_true (c.fact 13 rfl)
  have a14 : PySem.W.nsIn K mainGlobals "are_works" = some (some (.ref (He.fAd K ("are_works", none)))) := of_decide_eq_true (c.fact 14 rfl)
  have a15 : PySem.W.nsIn K mainGlobals "_law_cell_at" = some (some (.ref (He.fAd K ("_law_cell_at", none)))) := of_decide_eq_true (c.fact 15 rfl)
  have a16 : PySem.W.nsIn K mainGlobals "_law_whole" = some (some (.ref (He.fAd K ("_law_whole", none)))) := of_decide_eq_true (c.fact 16 rfl)
  have a17 : PySem.W.nsIn K mainGlobals "_law_name" = some (some (.ref (He.fAd K ("_law_name", none)))) := of_decide_eq_true (c.fact 17 rfl)
  have a18 : PySem.W.nsIn K mainGlobals "_law_other" = some (some (.ref (He.fAd K ("_law_other", none)))) := of_decide_eq_true (c.fact 18 rfl)
  have a19 : PySem.W.nsIn K mainGlobals "_law_span" = some (some (.ref (He.fAd K ("_law_span", none)))) := of_decide_eq_true (c.fact 19 rfl)
  have a20 : PySem.W.nsIn K mainGlobals "_law_middle" = some (some (.ref (He.fAd K ("_law_middle", none)))) := of_decide_eq_true (c.fact 20 rfl)
  have a21 : PySem.W.nsIn K mainGlobals "_law_work" = some (some (.ref (He.fAd K ("_law_work", none)))) := of_decide_eq_true (c.fact 21 rfl)
  have a22 : PySem.W.nsIn K mainGlobals "_law_drawn" = some (some (.ref (He.fAd K ("_law_drawn", none)))) := of_decide_eq_true (c.fact 22 rfl)
  have a23 : PySem.W.nsIn K mainGlobals "_law_turned" = some (some (.ref (He.fAd K ("_law_turned", none)))) := of_decide_eq_true (c.fact 23 rfl)
  have a24 : PySem.W.nsIn K mainGlobals "_law_parts" = some (some (.ref (He.fAd K ("_law_parts", none)))) := of_decide_eq_true (c.fact 24 rfl)
  have a25 : PySem.W.nsIn K mainGlobals "_law_told" = some (some (.ref (He.fAd K ("_law_told", none)))) := of_decide_eq_true (c.fact 25 rfl)
  have a26 : PySem.W.nsIn K mainGlobals "_law_are" = some (some (.ref (He.fAd K ("_law_are", none)))) := of_decide_eq_true (c.fact 26 rfl)
  have a27 : PySem.W.nsIn K mainGlobals "law" = some (some (.ref (He.fAd K ("law", none)))) := of_decide_eq_true (c.fact 27 rfl)
  have a28 : PySem.W.findIn K (.ref (He.ga K "Asking")) "__init__" = some (some (.ref (He.fAd K ("Asking", some "__init__")))) := of_decide_eq_true (c.fact 28 rfl)
  have i28 : PySem.W.isFn K (.ref (He.fAd K ("Asking", some "__init__"))) = true := of_decide_eq_true (c.fact 29 rfl)
  have a29 : PySem.W.findIn K (.ref (He.ga K "Asking")) "is_fit" = some (some (.ref (He.fAd K ("Asking", some "is_fit")))) := of_decide_eq_true (c.fact 30 rfl)
  have i29 : PySem.W.isFn K (.ref (He.fAd K ("Asking", some "is_fit"))) = true := of_decide_eq_true (c.fact 31 rfl)
  have z_bool : PySem.W.nsIn K mainGlobals "bool" = some none := of_decide_eq_true (c.fact 32 rfl)
  have z_enumerate : PySem.W.nsIn K mainGlobals "enumerate" = some none := of_decide_eq_true (c.fact 33 rfl)
  have z_int : PySem.W.nsIn K mainGlobals "int" = some none := of_decide_eq_true (c.fact 34 rfl)
  have z_isinstance : PySem.W.nsIn K mainGlobals "isinstance" = some none := of_decide_eq_true (c.fact 35 rfl)
  have z_len : PySem.W.nsIn K mainGlobals "len" = some none := of_decide_eq_true (c.fact 36 rfl)
  have z_list : PySem.W.nsIn K mainGlobals "list" = some none := of_decide_eq_true (c.fact 37 rfl)
  have z_min : PySem.W.nsIn K mainGlobals "min" = some none := of_decide_eq_true (c.fact 38 rfl)
  have z_range : PySem.W.nsIn K mainGlobals "range" = some none := of_decide_eq_true (c.fact 39 rfl)
  have z_sorted : PySem.W.nsIn K mainGlobals "sorted" = some none := of_decide_eq_true (c.fact 40 rfl)
  have z_str : PySem.W.nsIn K mainGlobals "str" = some none := of_decide_eq_true (c.fact 41 rfl)
  have z_zip : PySem.W.nsIn K mainGlobals "zip" = some none := of_decide_eq_true (c.fact 42 rfl)
  have u_LETTERS := He.str_ok X G (x := "LETTERS") (z := ("abcdefghijklmnopqrstuvwxyz" : Str)) (c.fact 43 rfl)
  have u_SIGNS := He.str_ok X G (x := "SIGNS") (z := (" 0123456789ABCDEFGHIJKLMNOPQRSTUVWXYZ" : Str)) (c.fact 44 rfl)
  have u_WIDTH := He.int_ok X G (x := "WIDTH") (i := 40) (c.fact 45 rfl)
  have g_Meet : PySem.W.nsIn K mainGlobals "Meet" = some (some (.ref (He.ga K "Meet"))) := of_decide_eq_true (c.fact 46 rfl)
  have g_NoBoard : PySem.W.nsIn K mainGlobals "NoBoard" = some (some (.ref (He.ga K "NoBoard"))) := of_decide_eq_true (c.fact 47 rfl)
  have g_NoCard : PySem.W.nsIn K mainGlobals "NoCard" = some (some (.ref (He.ga K "NoCard"))) := of_decide_eq_true (c.fact 48 rfl)
  have g_ShopError : PySem.W.nsIn K mainGlobals "ShopError" = some (some (.ref (He.ga K "ShopError"))) := of_decide_eq_true (c.fact 49 rfl)
  have crr_ShopError : PySem.W.readsIn K (He.ga K "ShopError") (.type "type") = true := of_decide_eq_true (c.fact 50 rfl)
  have crg_ShopError : PySem.W.specialIn K (.ref (He.ga K "ShopError")) "__getattribute__" = some (some (.builtin "type.__getattribute__")) := of_decide_eq_true (c.fact 51 rfl)
  have su_Meet : PySem.W.subIn K (.ref (He.ga K "Meet")) (.type "BaseException") = some true := of_decide_eq_true (c.fact 52 rfl)
  have ty_Meet : PySem.W.typeIn K (.ref (He.ga K "Meet")) = some (.type "type") := of_decide_eq_true (c.fact 53 rfl)
  have hd_Meet : PySem.W.hasDictIn K (He.ga K "Meet") = true := of_decide_eq_true (c.fact 54 rfl)
  have sb_Meet_Meet : PySem.W.subIn K (.ref (He.ga K "Meet")) (.ref (He.ga K "Meet")) = some true := of_decide_eq_true (c.fact 55 rfl)
  have su_NoBoard : PySem.W.subIn K (.ref (He.ga K "NoBoard")) (.type "BaseException") = some true := of_decide_eq_true (c.fact 56 rfl)
  have ty_NoBoard : PySem.W.typeIn K (.ref (He.ga K "NoBoard")) = some (.type "type") := of_decide_eq_true (c.fact 57 rfl)
  have hd_NoBoard : PySem.W.hasDictIn K (He.ga K "NoBoard") = true := of_decide_eq_true (c.fact 58 rfl)
  have sb_Meet_NoBoard : PySem.W.subIn K (.ref (He.ga K "Meet")) (.ref (He.ga K "NoBoard")) = some false := of_decide_eq_true (c.fact 59 rfl)
  have sb_NoBoard_NoBoard : PySem.W.subIn K (.ref (He.ga K "NoBoard")) (.ref (He.ga K "NoBoard")) = some true := of_decide_eq_true (c.fact 60 rfl)
  have su_NoCard : PySem.W.subIn K (.ref (He.ga K "NoCard")) (.type "BaseException") = some true := of_decide_eq_true (c.fact 61 rfl)
  have ty_NoCard : PySem.W.typeIn K (.ref (He.ga K "NoCard")) = some (.type "type") := of_decide_eq_true (c.fact 62 rfl)
  have hd_NoCard : PySem.W.hasDictIn K (He.ga K "NoCard") = true := of_decide_eq_true (c.fact 63 rfl)
  have sb_NoCard_NoCard : PySem.W.subIn K (.ref (He.ga K "NoCard")) (.ref (He.ga K "NoCard")) = some true := of_decide_eq_true (c.fact 64 rfl)
  have ex_NoBoard : PySem.W.excIn K (He.ga K "NoBoard") [.type "ValueError", .type "Exception", .type "BaseException", .type "object"] "ValueError.__new__" = true := of_decide_eq_true (c.fact 65 rfl)
  have ex_NoCard : PySem.W.excIn K (He.ga K "NoCard") [.type "ValueError", .type "Exception", .type "BaseException", .type "object"] "ValueError.__new__" = true := of_decide_eq_true (c.fact 66 rfl)
  have kx_NoBoard : PySem.W.keepIn K (.ref (He.ga K "NoBoard")) = true := of_decide_eq_true (c.fact 67 rfl)
  have kx_NoCard : PySem.W.keepIn K (.ref (He.ga K "NoCard")) = true := of_decide_eq_true (c.fact 68 rfl)
  obtain ⟨oo_Meet, oel_Meet, oeb_Meet⟩ := oexK_ok (c.fact 69 rfl)
  have oes_Meet : PySem.W.findIn K (.ref (He.ga K "Meet")) "__setattr__" = some (some (.builtin "object.__setattr__")) := of_decide_eq_true (c.fact 70 rfl)
  have kx_Meet : PySem.W.keepIn K (.ref (He.ga K "Meet")) = true := of_decide_eq_true (c.fact 71 rfl)
  have vin_ShopError := fcB_ok (c.fact 72 rfl)
  have xchg_Meet : PySem.W.findIn K (.ref (He.ga K "Meet")) "__getattribute__" = some (some (.builtin "BaseException.__getattribute__")) := of_decide_eq_true (c.fact 73 rfl)
  have xchk_Meet : PySem.W.findIn K (.ref (He.ga K "Meet")) "__getattr__" = some none := of_decide_eq_true (c.fact 74 rfl)
  have xchs_Meet : PySem.W.subIn K (.ref (He.ga K "Meet")) (.type "BaseException") = some true := of_decide_eq_true (c.fact 75 rfl)
  have xchd_Meet : PySem.W.hasDictIn K (He.ga K "Meet") = true := of_decide_eq_true (c.fact 76 rfl)
  have xn_Meet_one : PySem.W.findIn K (.ref (He.ga K "Meet")) "one" = some none := of_decide_eq_true (c.fact 77 rfl)
  have xn_Meet_other : PySem.W.findIn K (.ref (He.ga K "Meet")) "other" = some none := of_decide_eq_true (c.fact 78 rfl)
  have bC_Asking : PySem.W.nsIn K mainGlobals "Asking" = some (some (.ref (He.ga K "Asking"))) := of_decide_eq_true (c.fact 79 rfl)
  have pg_Asking : PySem.W.plainGet K (He.ga K "Asking") Str.empty = true := of_decide_eq_true (c.fact 80 rfl)
  have hd_Asking : PySem.W.hasDictIn K (He.ga K "Asking") = true := of_decide_eq_true (c.fact 81 rfl)
  have po_Asking : PySem.W.plainOver K (He.ga K "Asking") = true := of_decide_eq_true (c.fact 82 rfl)
  have sa_Asking : PySem.W.findIn K (.ref (He.ga K "Asking")) "__setattr__" = some (some (.builtin "object.__setattr__")) := of_decide_eq_true (c.fact 83 rfl)
  have mk_Asking : PySem.W.makesIn K (He.ga K "Asking") = true := of_decide_eq_true (c.fact 84 rfl)
  have kc_Asking : PySem.W.keepIn K (.ref (He.ga K "Asking")) = true := of_decide_eq_true (c.fact 85 rfl)
  have na_deck_Asking : PySem.W.findIn K (.ref (He.ga K "Asking")) "deck" = some none := of_decide_eq_true (c.fact 86 rfl)
  have na_picks_Asking : PySem.W.findIn K (.ref (He.ga K "Asking")) "picks" = some none := of_decide_eq_true (c.fact 87 rfl)
  have na_middle_Asking : PySem.W.findIn K (.ref (He.ga K "Asking")) "middle" = some none := of_decide_eq_true (c.fact 88 rfl)
  have na_order_Asking : PySem.W.findIn K (.ref (He.ga K "Asking")) "order" = some none := of_decide_eq_true (c.fact 89 rfl)
  have na_works_Asking : PySem.W.findIn K (.ref (He.ga K "Asking")) "works" = some none := of_decide_eq_true (c.fact 90 rfl)
  have na_breaks_Asking : PySem.W.findIn K (.ref (He.ga K "Asking")) "breaks" = some none := of_decide_eq_true (c.fact 91 rfl)
  have na_sums_Asking : PySem.W.findIn K (.ref (He.ga K "Asking")) "sums" = some none := of_decide_eq_true (c.fact 92 rfl)
  have na_figures_Asking : PySem.W.findIn K (.ref (He.ga K "Asking")) "figures" = some none := of_decide_eq_true (c.fact 93 rfl)
  have na_board_Asking : PySem.W.findIn K (.ref (He.ga K "Asking")) "board" = some none := of_decide_eq_true (c.fact 94 rfl)
  obtain ⟨fd1, F1⟩ : ∃ fd, Fun K "__init__" "Meet.__init__" (inClass (topS 4) 0) (He.fAd K ("Meet", some "__init__")) fd := (c.def_ 0 rfl).imp fun _ h => FunD.toFun h; have k1 := F1.kp
  obtain ⟨fd2, F2⟩ : ∃ fd, Fun K "is_card" "is_card" (topS 9) (He.fAd K ("is_card", none)) fd := (c.def_ 1 rfl).imp fun _ h => FunD.toFun h; have k2 := F2.kp
  obtain ⟨fd3, F3⟩ : ∃ fd, Fun K "card_of" "card_of" (topS 10) (He.fAd K ("card_of", none)) fd := (c.def_ 2 rfl).imp fun _ h => FunD.toFun h; have k3 := F3.kp
  obtain ⟨fd4, F4⟩ : ∃ fd, Fun K "make_board" "make_board" (topS 12) (He.fAd K ("make_board", none)) fd := (c.def_ 3 rfl).imp fun _ h => FunD.toFun h; have k4 := F4.kp
  obtain ⟨fd5, F5⟩ : ∃ fd, Fun K "columns_of" "columns_of" (topS 14) (He.fAd K ("columns_of", none)) fd := (c.def_ 4 rfl).imp fun _ h => FunD.toFun h; have k5 := F5.kp
  obtain ⟨fd6, F6⟩ : ∃ fd, Fun K "are_apart" "are_apart" (topS 15) (He.fAd K ("are_apart", none)) fd := (c.def_ 5 rfl).imp fun _ h => FunD.toFun h; have k6 := F6.kp
  obtain ⟨fd7, F7⟩ : ∃ fd, Fun K "is_name" "is_name" (topS 18) (He.fAd K ("is_name", none)) fd := (c.def_ 6 rfl).imp fun _ h => FunD.toFun h; have k7 := F7.kp
  obtain ⟨fd8, F8⟩ : ∃ fd, Fun K "is_field" "is_field" (topS 19) (He.fAd K ("is_field", none)) fd := (c.def_ 7 rfl).imp fun _ h => FunD.toFun h; have k8 := F8.kp
  obtain ⟨fd9, F9⟩ : ∃ fd, Fun K "is_wide" "is_wide" (topS 20) (He.fAd K ("is_wide", none)) fd := (c.def_ 8 rfl).imp fun _ h => FunD.toFun h; have k9 := F9.kp
  obtain ⟨fd10, F10⟩ : ∃ fd, Fun K "is_board" "is_board" (topS 21) (He.fAd K ("is_board", none)) fd := (c.def_ 9 rfl).imp fun _ h => FunD.toFun h; have k10 := F10.kp
  obtain ⟨fd11, F11⟩ : ∃ fd, Fun K "are_picks" "are_picks" (topS 22) (He.fAd K ("are_picks", none)) fd := (c.def_ 10 rfl).imp fun _ h => FunD.toFun h; have k11 := F11.kp
  obtain ⟨fd12, F12⟩ : ∃ fd, Fun K "is_middle" "is_middle" (topS 23) (He.fAd K ("is_middle", none)) fd := (c.def_ 11 rfl).imp fun _ h => FunD.toFun h; have k12 := F12.kp
  obtain ⟨fd13, F13⟩ : ∃ fd, Fun K "main_field" "main_field" (topS 24) (He.fAd K ("main_field", none)) fd := (c.def_ 12 rfl).imp fun _ h => FunD.toFun h; have k13 := F13.kp
  obtain ⟨fd14, F14⟩ : ∃ fd, Fun K "are_works" "are_works" (topS 25) (He.fAd K ("are_works", none)) fd := (c.def_ 13 rfl).imp fun _ h => FunD.toFun h; have k14 := F14.kp
  obtain ⟨fd15, F15⟩ : ∃ fd, Fun K "_law_cell_at" "_law_cell_at" (topS 28) (He.fAd K ("_law_cell_at", none)) fd := (c.def_ 14 rfl).imp fun _ h => FunD.toFun h; have k15 := F15.kp
  obtain ⟨fd16, F16⟩ : ∃ fd, Fun K "_law_whole" "_law_whole" (topS 29) (He.fAd K ("_law_whole", none)) fd := (c.def_ 15 rfl).imp fun _ h => FunD.toFun h; have k16 := F16.kp
  obtain ⟨fd17, F17⟩ : ∃ fd, Fun K "_law_name" "_law_name" (topS 30) (He.fAd K ("_law_name", none)) fd := (c.def_ 16 rfl).imp fun _ h => FunD.toFun h; have k17 := F17.kp
  obtain ⟨fd18, F18⟩ : ∃ fd, Fun K "_law_other" "_law_other" (topS 31) (He.fAd K ("_law_other", none)) fd := (c.def_ 17 rfl).imp fun _ h => FunD.toFun h; have k18 := F18.kp
  obtain ⟨fd19, F19⟩ : ∃ fd, Fun K "_law_span" "_law_span" (topS 32) (He.fAd K ("_law_span", none)) fd := (c.def_ 18 rfl).imp fun _ h => FunD.toFun h; have k19 := F19.kp
  obtain ⟨fd20, F20⟩ : ∃ fd, Fun K "_law_middle" "_law_middle" (topS 33) (He.fAd K ("_law_middle", none)) fd := (c.def_ 19 rfl).imp fun _ h => FunD.toFun h; have k20 := F20.kp
  obtain ⟨fd21, F21⟩ : ∃ fd, Fun K "_law_work" "_law_work" (topS 34) (He.fAd K ("_law_work", none)) fd := (c.def_ 20 rfl).imp fun _ h => FunD.toFun h; have k21 := F21.kp
  obtain ⟨fd22, F22⟩ : ∃ fd, Fun K "_law_drawn" "_law_drawn" (topS 35) (He.fAd K ("_law_drawn", none)) fd := (c.def_ 21 rfl).imp fun _ h => FunD.toFun h; have k22 := F22.kp
  obtain ⟨fd23, F23⟩ : ∃ fd, Fun K "_law_turned" "_law_turned" (topS 36) (He.fAd K ("_law_turned", none)) fd := (c.def_ 22 rfl).imp fun _ h => FunD.toFun h; have k23 := F23.kp
  obtain ⟨fd24, F24⟩ : ∃ fd, Fun K "_law_parts" "_law_parts" (topS 37) (He.fAd K ("_law_parts", none)) fd := (c.def_ 23 rfl).imp fun _ h => FunD.toFun h; have k24 := F24.kp
  obtain ⟨fd25, F25⟩ : ∃ fd, Fun K "_law_told" "_law_told" (topS 38) (He.fAd K ("_law_told", none)) fd := (c.def_ 24 rfl).imp fun _ h => FunD.toFun h; have k25 := F25.kp
  obtain ⟨fd26, F26⟩ : ∃ fd, Fun K "_law_are" "_law_are" (topS 39) (He.fAd K ("_law_are", none)) fd := (c.def_ 25 rfl).imp fun _ h => FunD.toFun h; have k26 := F26.kp
  obtain ⟨fd27, F27⟩ : ∃ fd, Fun K "law" "law" (topS 40) (He.fAd K ("law", none)) fd := (c.def_ 26 rfl).imp fun _ h => FunD.toFun h; have k27 := F27.kp
  obtain ⟨fd28, F28⟩ : ∃ fd, FunD K "__init__" "Asking.__init__" (defArgs (inClass (topS 26) 0)) (defBody (inClass (topS 26) 0)) (defScope (inClass (topS 26) 0)) [V.non, V.int 0, V.non, V.int 6, V.non] [] (He.fAd K ("Asking", some "__init__")) fd := c.def_ 27 rfl; have k28 := F28.kp
  obtain ⟨fd29, F29⟩ : ∃ fd, Fun K "is_fit" "Asking.is_fit" (inClass (topS 26) 1) (He.fAd K ("Asking", some "is_fit")) fd := (c.def_ 28 rfl).imp fun _ h => FunD.toFun h; have k29 := F29.kp
  have e := hfa.symm.trans (PySem.W.mg_of X G a27)
  cases e
  have T : Txt K mg (⟨(He.ga K "ShopError"), (He.ga K "NoCard"), 0, 0, (He.ga K "NoBoard"), (He.ga K "Meet"), 0, 0, 0, 0⟩ : CA) (⟨0, 0, (He.ga K "Asking"), 0, 0, 0, 0, 0, 0, 0, 0, 0, 0⟩ : CB) := ⟨⟨pg_Asking, hd_Asking, po_Asking, sa_Asking⟩, PySem.W.mg_of X G bC_Asking, bC_Asking, na_deck_Asking, na_picks_Asking, na_middle_Asking, na_order_Asking, na_works_Asking, na_breaks_Asking, na_sums_Asking, na_figures_Asking, na_board_Asking, PySem.W.mg_none_of X G z_bool, PySem.W.mg_none_of X G z_enumerate, PySem.W.mg_none_of X G z_int, PySem.W.mg_none_of X G z_isinstance, PySem.W.mg_none_of X G z_len, PySem.W.mg_none_of X G z_list, PySem.W.mg_none_of X G z_min, PySem.W.mg_none_of X G z_range, PySem.W.mg_none_of X G z_sorted, PySem.W.mg_none_of X G z_str, PySem.W.mg_none_of X G z_zip, u_LETTERS, u_SIGNS, u_WIDTH, ⟨crr_ShopError, crg_ShopError⟩, PySem.W.exm_ref su_Meet hd_Meet ty_Meet sb_Meet_Meet, PySem.W.exm_ref su_NoBoard hd_NoBoard ty_NoBoard sb_Meet_NoBoard, PySem.W.exm_ref su_NoBoard hd_NoBoard ty_NoBoard sb_NoBoard_NoBoard, PySem.W.exm_ref su_NoCard hd_NoCard ty_NoCard sb_NoCard_NoCard, ex_NoBoard, ex_NoCard, PySem.W.mg_of X G g_Meet, PySem.W.mg_of X G g_NoBoard, PySem.W.mg_of X G g_NoCard, PySem.W.mg_of X G g_ShopError, kx_NoBoard, kx_NoCard, ⟨oexB_ok (oexB_of oel_Meet oeb_Meet), oes_Meet, su_Meet, ty_Meet, kx_Meet⟩, su_NoBoard, su_NoCard, ty_NoBoard, ty_NoCard, vin_ShopError, ⟨xchg_Meet, xchk_Meet, xchs_Meet, xchd_Meet⟩, xn_Meet_one, xn_Meet_other⟩
  have hbind : ∀ (s : Shared) (v : Value), BindsTo s fd27 ⟨[v], []⟩ [("_law_script", v)] := by obtain ⟨oc_, od_, kV_, doc_, pm_, an_, cdv_, ct_, osl_, e_, lk_, cd_⟩ := F27.ex; subst e_; exact fun s v => .of_eq rfl
  refine ⟨fd27, hbind, fun base _ _ => ?_⟩
  have C_Meet___init__ := ok_Meet___init__ (P := l.prog) (w := w) (base := base) F1 a1 i1 T
  have C_is_card := ok_is_card (P := l.prog) (w := w) (base := base) F2 (PySem.W.mg_of X G a2) T
  have C_card_of := ok_card_of (P := l.prog) (w := w) (base := base) F3 (PySem.W.mg_of X G a3) T C_is_card
  have C_make_board := ok_make_board (P := l.prog) (w := w) (base := base) F4 (PySem.W.mg_of X G a4) T C_Meet___init__
  have C_columns_of := ok_columns_of (P := l.prog) (w := w) (base := base) F5 (PySem.W.mg_of X G a5) T
  have C_are_apart := ok_are_apart (P := l.prog) (w := w) (base := base) F6 (PySem.W.mg_of X G a6) T
  have C_is_name := ok_is_name (P := l.prog) (w := w) (base := base) F7 (PySem.W.mg_of X G a7) T
  have C_is_field := ok_is_field (P := l.prog) (w := w) (base := base) F8 (PySem.W.mg_of X G a8) T
  have C_is_wide := ok_is_wide (P := l.prog) (w := w) (base := base) F9 (PySem.W.mg_of X G a9) T C_card_of C_columns_of
  have C_is_board := ok_is_board (P := l.prog) (w := w) (base := base) F10 (PySem.W.mg_of X G a10) T C_make_board
  have C_are_picks := ok_are_picks (P := l.prog) (w := w) (base := base) F11 (PySem.W.mg_of X G a11) T C_columns_of C_is_field C_is_wide
  have C_is_middle := ok_is_middle (P := l.prog) (w := w) (base := base) F12 (PySem.W.mg_of X G a12) T C_is_name C_is_field
  have C_main_field := ok_main_field (P := l.prog) (w := w) (base := base) F13 (PySem.W.mg_of X G a13) T
  have C_are_works := ok_are_works (P := l.prog) (w := w) (base := base) F14 (PySem.W.mg_of X G a14) T C_are_apart C_is_field
  have C_law_cell_at := ok_law_cell_at (P := l.prog) (w := w) (base := base) F15 (PySem.W.mg_of X G a15) T
  have C_law_whole := ok_law_whole (P := l.prog) (w := w) (base := base) F16 (PySem.W.mg_of X G a16) T
  have C_law_name := ok_law_name (P := l.prog) (w := w) (base := base) F17 (PySem.W.mg_of X G a17) T
  have C_law_other := ok_law_other (P := l.prog) (w := w) (base := base) F18 (PySem.W.mg_of X G a18) T
  have C_law_span := ok_law_span (P := l.prog) (w := w) (base := base) F19 (PySem.W.mg_of X G a19) T
  have C_law_middle := ok_law_middle (P := l.prog) (w := w) (base := base) F20 (PySem.W.mg_of X G a20) T C_law_other C_law_span
  have C_law_work := ok_law_work (P := l.prog) (w := w) (base := base) F21 (PySem.W.mg_of X G a21) T C_law_span
  have C_law_drawn := ok_law_drawn (P := l.prog) (w := w) (base := base) F22 (PySem.W.mg_of X G a22) T C_law_cell_at C_law_span C_law_work
  have C_law_turned := ok_law_turned (P := l.prog) (w := w) (base := base) F23 (PySem.W.mg_of X G a23) T
  have C_law_parts := ok_law_parts (P := l.prog) (w := w) (base := base) F24 (PySem.W.mg_of X G a24) T C_law_cell_at C_law_name C_law_middle C_law_drawn C_law_turned
  have C_law_told := ok_law_told (P := l.prog) (w := w) (base := base) F25 (PySem.W.mg_of X G a25) T
  have C_law_are := ok_law_are (P := l.prog) (w := w) (base := base) F26 (PySem.W.mg_of X G a26) T C_law_whole C_law_told
  have C_Asking_is_fit := ok_Asking_is_fit (P := l.prog) (w := w) (base := base) F29 ⟨a29, i29, k29⟩ T C_is_name C_is_field C_is_board C_are_picks C_is_middle C_main_field C_are_works
  have C_Asking___init__ := ok_Asking___init__ (P := l.prog) (w := w) (base := base) F28 ⟨mk_Asking, a28, i28, kc_Asking⟩ T C_Asking_is_fit
  exact okf_law (P := l.prog) (w := w) (base := base) F27 T C_law_parts C_law_are C_Asking___init__
theorem law_end {K : Fr} {H : Hp} {a : Addr} {ns : List Int} {E : XK} (hl : ns.length ≤ 63) (hb : ∀ z ∈ ns, Builtin.Int.intBits z ≤ 1048576) (hS : SqL K H a (ns.map V.int)) : sp_law K [.ref a] H (fun v _ => v = .bl true) E :=
  ⟨H, ⟨ns⟩, .ref a, rfl, Same.refl _, ⟨a, rfl, hS⟩, by rw [law_true ⟨ns⟩ hl hb]; exact fun Z' H' st => rfl⟩
end Cd
open PySem PySem.W PySem.Calls PyProof.Rows
set_option maxRecDepth 100000 in
set_option maxHeartbeats 0 in
theorem PySem.Challenge.cw_cardshop_k40_an_asking_holds : PySem.Challenge.rw_cardshop_k40_an_asking.Holds := by
  w_on; o_law
  refine HandSHeadRun.head_any (r := OpenLaw.row PySem.Challenge.rw_cardshop_k40_an_asking) (q := view (OpenLaw.row PySem.Challenge.rw_cardshop_k40_an_asking).prog [40]) (H := Cd.hkA) (ob := Cd.obA) (M := 20000) (loose := Cd.namesA) (d := HandSHeadRun.topDef (OpenLaw.row PySem.Challenge.rw_cardshop_k40_an_asking).prog 40) (kwd := []) Cd.obA_eq
    (by kernel_rfl) (fun s => by kernel_rfl) Cd.runA (by kernel_rfl) (by kernel_rfl) (by kernel_rfl) (by rfl) (by first | assumption | decide +kernel) (by decide +kernel) ⟨rfl, rfl, rfl, rfl, rfl, by decide +kernel⟩ ?hw ?hc
  case hw => w_witness2
  case hc =>
    refine Cd.walk_ofBE (l := PySem.Challenge.rw_cardshop_k40_an_asking) (n := 63) (k := 8) (x := "_law_script") (CX := L2.CX0) rfl (by decide) (by kernel_rfl) ⟨rfl, by decide, by decide⟩ ?F (fun _ _ _ _ z => z)
    intro w mg fa h Y G hmg0
    obtain ⟨K, KX, c⟩ := Y
    have hmg : mg ("law" : PySem.Str) = some (.ref fa) := by
      have e : (HandSHeadRun.topDef (OpenLaw.row PySem.Challenge.rw_cardshop_k40_an_asking).prog 40).name = ("law" : PySem.Str) := by kernel_rfl
      rw [← e]
      exact hmg0
    obtain ⟨fd, hb, hF⟩ := Cd.all_mk (l := PySem.Challenge.rw_cardshop_k40_an_asking) (w := w) KX G hmg c
    exact ⟨K, fd, Cd.sp_law K, KX, hb, fun H a ns hl hbt _ hS => Cd.law_end hl hbt hS, hF⟩
#print axioms PySem.Challenge.cw_cardshop_k40_an_asking_holds
