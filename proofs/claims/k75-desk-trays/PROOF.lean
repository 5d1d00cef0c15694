import PyProof.Rows.All
import Wide.All
import OpenK.AllK
import Wide.FinOn
import HandS.ForMost
import HandS.IsInst
import HandS.StrMore
import HandS.Wide
import HandS.TryOnly
import HandS.WordsExc
import HandS.Style
import HandS.More
import HandS.Evl
import KE.IntTextLaws
import HandS.Strs
import HandS.SetKeys
import KE.KIntText
import PyProof.StrBlock2
import HandS.SortRule
import HandS.DictComp
import HandS.WordsDict
import KE.SortData
import HandS.ExcIs
import HandS.ExcOwn
import HandS.HotCalls
import KE.GoesMore
import KE.GoesEnum
import KE.GoesZip
import HandS.Conv
import HandS.Text
import HandS.Codes
import HandS.TupAny
import HandS.Iter
import KE.KEqDict
import PyProof.NeKinds
import HandS.TryElse
import KE.GoesEnumKw
import HandS.ExcInit
import HandS.ExcField
import HandS.ClsMeth
import KE.KExcIs
import KE.DataCmp
import HandS.Defaults
import HandS.Flow
import KE.KRevSl
import HandS.ReplaceLit
import KE.KStateDown
import HandS.Head0
import HandS.Head1
import HandS.Head2
import HandS.HeadEnd
import HandS.HeadHook1
import HandS.HeadHook2
import HandS.EndBits
import KE.KEqNest
import PySem.Challenge.RW_cardshop_k75_desk_trays
set_option Elab.async false
set_option linter.all false
set_option maxRecDepth 100000
set_option maxHeartbeats 4000000
namespace Cd
open PySem L2 PyProof.Rows

abbrev Fr := PySem.W.Frag
/-! ### the facts behind the top, by one look -/
abbrev FaB : Type := Fr → Bool
/-- what the module's names reach, step by step -/
def asB (g : Addr → Option Obj) : Nat → List Addr → List Addr
  | 0, as => as
  | n + 1, as => as ++ asB g n (as.flatMap fun a => match g a with
    | some o => He.refsO o
    | none => [])
def obsB (ok : List FaB) (fn : List He.DefD) (K : Fr) : He.AlD := ((ok.all fun f => f K) && fn.all fun d => d.ok K, fn.map fun d => He.fnW K d.at_)
def SaysB (ok : List FaB) (fn : List He.DefD) (K : Fr) : Prop := obsB ok fn K = He.valD fn
def obsBG (n : Nat) (ok : List FaB) (fn : List He.DefD) (g : Addr → Option Obj) : He.AlD := obsB ok fn (He.frG g (asB g n [mainGlobals] ++ [cStatics]))
def hookB (n : Nat) (ok : List FaB) (fn : List He.DefD) : PySem.W.Hook where
  α := He.AlD
  obs := fun s => obsBG n ok fn s.heap.get?
  val := fun _ => He.valD fn
  says := fun _ h => ∃ K : Fr, K.In h ∧ SaysB ok fn K
  of := fun _ _ e => ⟨_, He.frG_in, e⟩
  keeps := fun _ _ _ ⟨K, hK, c⟩ k => ⟨K, PySem.W.Frag.In.keeps hK k, c⟩
theorem obsBG_eq {n : Nat} {ok : List FaB} {fn : List He.DefD} {g : Addr → Option Obj} {s : Shared} (h : ∀ a, g a = s.heap.get? a) : obsBG n ok fn g = (hookB n ok fn).obs s := by
  have e : g = s.heap.get? := funext h
  rw [e] <;> rfl
def topS (i : Nat) : Stmt := PySem.Challenge.pw_cardshop_k75_desk_trays.main.body.getD i (.Pass ⟨0, 0, 0, 0⟩)
def facts0 : List FaB := [
  fun K => decide (PySem.W.nsIn K mainGlobals "is_card" = some (some (.ref (He.fAd K ("is_card", none))))),
  fun K => decide (PySem.W.nsIn K mainGlobals "card_of" = some (some (.ref (He.fAd K ("card_of", none))))),
  fun K => decide (PySem.W.nsIn K mainGlobals "is_name" = some (some (.ref (He.fAd K ("is_name", none))))),
  fun K => decide (PySem.W.nsIn K mainGlobals "read_cards" = some (some (.ref (He.fAd K ("read_cards", none))))),
  fun K => decide (PySem.W.nsIn K mainGlobals "new_name" = some (some (.ref (He.fAd K ("new_name", none))))),
  fun K => decide (PySem.W.nsIn K mainGlobals "is_row" = some (some (.ref (He.fAd K ("is_row", none))))),
  fun K => decide (PySem.W.nsIn K mainGlobals "_law_cell_at" = some (some (.ref (He.fAd K ("_law_cell_at", none))))),
  fun K => decide (PySem.W.nsIn K mainGlobals "_law_text" = some (some (.ref (He.fAd K ("_law_text", none))))),
  fun K => decide (PySem.W.nsIn K mainGlobals "_law_card" = some (some (.ref (He.fAd K ("_law_card", none))))),
  fun K => decide (PySem.W.nsIn K mainGlobals "_law_names" = some (some (.ref (He.fAd K ("_law_names", none))))),
  fun K => decide (PySem.W.nsIn K mainGlobals "_law_word" = some (some (.ref (He.fAd K ("_law_word", none))))),
  fun K => decide (PySem.W.nsIn K mainGlobals "_law_kinds" = some (some (.ref (He.fAd K ("_law_kinds", none))))),
  fun K => decide (PySem.W.nsIn K mainGlobals "_law_no_tray" = some (some (.ref (He.fAd K ("_law_no_tray", none))))),
  fun K => decide (PySem.W.nsIn K mainGlobals "_law_shown" = some (some (.ref (He.fAd K ("_law_shown", none))))),
  fun K => decide (PySem.W.nsIn K mainGlobals "_law_said" = some (some (.ref (He.fAd K ("_law_said", none))))),
  fun K => decide (PySem.W.nsIn K mainGlobals "law" = some (some (.ref (He.fAd K ("law", none))))),
  fun K => decide (PySem.W.findIn K (.ref (He.ga K "Desk")) "__init__" = some (some (.ref (He.fAd K ("Desk", some "__init__"))))),
  fun K => decide (PySem.W.isFn K (.ref (He.fAd K ("Desk", some "__init__"))) = true),
  fun K => decide (PySem.W.findIn K (.ref (He.ga K "Desk")) "there" = some (some (.ref (He.fAd K ("Desk", some "there"))))),
  fun K => decide (PySem.W.isFn K (.ref (He.fAd K ("Desk", some "there"))) = true),
  fun K => decide (PySem.W.findIn K (.ref (He.ga K "Desk")) "say" = some (some (.ref (He.fAd K ("Desk", some "say"))))),
  fun K => decide (PySem.W.isFn K (.ref (He.fAd K ("Desk", some "say"))) = true),
  fun K => decide (PySem.W.nsIn K mainGlobals "ValueError" = some none),
  fun K => decide (PySem.W.nsIn K mainGlobals "isinstance" = some none),
  fun K => decide (PySem.W.nsIn K mainGlobals "len" = some none),
  fun K => decide (PySem.W.nsIn K mainGlobals "list" = some none),
  fun K => decide (PySem.W.nsIn K mainGlobals "range" = some none),
  fun K => decide (PySem.W.nsIn K mainGlobals "str" = some none),
  fun K => (He.Fa.str "LETTERS" ("abcdefghijklmnopqrstuvwxyz" : Str)).ok K,
  fun K => (He.Fa.str "SIGNS" (" 0123456789ABCDEFGHIJKLMNOPQRSTUVWXYZ" : Str)).ok K,
  fun K => (He.Fa.int "WIDTH" 40).ok K,
  fun K => decide (PySem.W.nsIn K mainGlobals "Meet" = some (some (.ref (He.ga K "Meet")))),
  fun K => decide (PySem.W.nsIn K mainGlobals "NoAsking" = some (some (.ref (He.ga K "NoAsking")))),
  fun K => decide (PySem.W.nsIn K mainGlobals "NoBoard" = some (some (.ref (He.ga K "NoBoard")))),
  fun K => decide (PySem.W.nsIn K mainGlobals "NoCard" = some (some (.ref (He.ga K "NoCard")))),
  fun K => decide (PySem.W.nsIn K mainGlobals "NoField" = some (some (.ref (He.ga K "NoField")))),
  fun K => decide (PySem.W.nsIn K mainGlobals "NoOrder" = some (some (.ref (He.ga K "NoOrder")))),
  fun K => decide (PySem.W.nsIn K mainGlobals "NoPlan" = some (some (.ref (He.ga K "NoPlan")))),
  fun K => decide (PySem.W.nsIn K mainGlobals "NoRow" = some (some (.ref (He.ga K "NoRow")))),
  fun K => decide (PySem.W.nsIn K mainGlobals "NoTray" = some (some (.ref (He.ga K "NoTray"))))]
def facts1 : List FaB := [
  fun K => decide (PySem.W.nsIn K mainGlobals "ShopError" = some (some (.ref (He.ga K "ShopError")))),
  fun K => decide (PySem.W.subIn K (.ref (He.ga K "NoTray")) (.type "BaseException") = some true),
  fun K => decide (PySem.W.typeIn K (.ref (He.ga K "NoTray")) = some (.type "type")),
  fun K => decide (PySem.W.hasDictIn K (He.ga K "NoTray") = true),
  fun K => decide (PySem.W.subIn K (.ref (He.ga K "NoTray")) (.ref (He.ga K "NoTray")) = some true),
  fun K => decide (PySem.W.excIn K (He.ga K "NoTray") [.type "ValueError", .type "Exception", .type "BaseException", .type "object"] "ValueError.__new__" = true),
  fun K => decide (PySem.W.typeIn K (.ref (He.ga K "Meet")) = some (.type "type")),
  fun K => decide (PySem.W.hasDictIn K (He.ga K "Meet") = true),
  fun K => decide (PySem.W.subIn K (.ref (He.ga K "Meet")) (.ref (He.ga K "Meet")) = some true),
  fun K => decide (PySem.W.subIn K (.ref (He.ga K "NoTray")) (.ref (He.ga K "Meet")) = some false),
  fun K => decide (PySem.W.typeIn K (.ref (He.ga K "NoAsking")) = some (.type "type")),
  fun K => decide (PySem.W.hasDictIn K (He.ga K "NoAsking") = true),
  fun K => decide (PySem.W.subIn K (.ref (He.ga K "NoAsking")) (.ref (He.ga K "NoAsking")) = some true),
  fun K => decide (PySem.W.subIn K (.ref (He.ga K "NoTray")) (.ref (He.ga K "NoAsking")) = some false),
  fun K => decide (PySem.W.typeIn K (.ref (He.ga K "NoBoard")) = some (.type "type")),
  fun K => decide (PySem.W.hasDictIn K (He.ga K "NoBoard") = true),
  fun K => decide (PySem.W.subIn K (.ref (He.ga K "NoBoard")) (.ref (He.ga K "NoBoard")) = some true),
  fun K => decide (PySem.W.subIn K (.ref (He.ga K "NoTray")) (.ref (He.ga K "NoBoard")) = some false),
  fun K => decide (PySem.W.typeIn K (.ref (He.ga K "NoCard")) = some (.type "type")),
  fun K => decide (PySem.W.hasDictIn K (He.ga K "NoCard") = true),
  fun K => decide (PySem.W.subIn K (.ref (He.ga K "NoCard")) (.ref (He.ga K "NoCard")) = some true),
  fun K => decide (PySem.W.subIn K (.ref (He.ga K "NoTray")) (.ref (He.ga K "NoCard")) = some false),
  fun K => decide (PySem.W.typeIn K (.ref (He.ga K "NoField")) = some (.type "type")),
  fun K => decide (PySem.W.hasDictIn K (He.ga K "NoField") = true),
  fun K => decide (PySem.W.subIn K (.ref (He.ga K "NoField")) (.ref (He.ga K "NoField")) = some true),
  fun K => decide (PySem.W.subIn K (.ref (He.ga K "NoTray")) (.ref (He.ga K "NoField")) = some false),
  fun K => decide (PySem.W.typeIn K (.ref (He.ga K "NoOrder")) = some (.type "type")),
  fun K => decide (PySem.W.hasDictIn K (He.ga K "NoOrder") = true),
  fun K => decide (PySem.W.subIn K (.ref (He.ga K "NoOrder")) (.ref (He.ga K "NoOrder")) = some true),
  fun K => decide (PySem.W.subIn K (.ref (He.ga K "NoTray")) (.ref (He.ga K "NoOrder")) = some false),
  fun K => decide (PySem.W.typeIn K (.ref (He.ga K "NoPlan")) = some (.type "type")),
  fun K => decide (PySem.W.hasDictIn K (He.ga K "NoPlan") = true),
  fun K => decide (PySem.W.subIn K (.ref (He.ga K "NoPlan")) (.ref (He.ga K "NoPlan")) = some true),
  fun K => decide (PySem.W.subIn K (.ref (He.ga K "NoTray")) (.ref (He.ga K "NoPlan")) = some false),
  fun K => decide (PySem.W.typeIn K (.ref (He.ga K "NoRow")) = some (.type "type")),
  fun K => decide (PySem.W.hasDictIn K (He.ga K "NoRow") = true),
  fun K => decide (PySem.W.subIn K (.ref (He.ga K "NoRow")) (.ref (He.ga K "NoRow")) = some true),
  fun K => decide (PySem.W.subIn K (.ref (He.ga K "NoTray")) (.ref (He.ga K "NoRow")) = some false),
  fun K => decide (PySem.W.typeIn K (.ref (He.ga K "ShopError")) = some (.type "type")),
  fun K => decide (PySem.W.hasDictIn K (He.ga K "ShopError") = true)]
def facts2 : List FaB := [
  fun K => decide (PySem.W.subIn K (.ref (He.ga K "ShopError")) (.ref (He.ga K "ShopError")) = some true),
  fun K => decide (PySem.W.subIn K (.ref (He.ga K "NoTray")) (.ref (He.ga K "ShopError")) = some true),
  fun K => decide (PySem.W.subIn K (.ref (He.ga K "NoTray")) (.type "ValueError") = some true),
  fun K => decide (PySem.W.keepIn K (.ref (He.ga K "NoTray")) = true),
  fun K => decide (PySem.W.findIn K (.ref (He.ga K "NoTray")) "__getattribute__" = some (some (.builtin "BaseException.__getattribute__"))),
  fun K => decide (PySem.W.findIn K (.ref (He.ga K "NoTray")) "__getattr__" = some none),
  fun K => decide (PySem.W.subIn K (.ref (He.ga K "NoTray")) (.type "BaseException") = some true),
  fun K => decide (PySem.W.hasDictIn K (He.ga K "NoTray") = true),
  fun K => decide (PySem.W.findIn K (.ref (He.ga K "NoTray")) "__class__" = some (some (.builtin "object.__class__"))),
  fun K => decide (PySem.W.specialIn K (.builtin "object.__class__") "__get__" = some (some (.builtin "getset_descriptor.__get__"))),
  fun K => decide (PySem.W.takesIn K (.builtin "object.__class__") = some true),
  fun K => decide (PySem.W.mroIn K (He.ga K "NoTray") (.type "object") = some true),
  fun K => decide (PySem.W.nsIn K mainGlobals "Desk" = some (some (.ref (He.ga K "Desk")))),
  fun K => decide (PySem.W.plainGet K (He.ga K "Desk") Str.empty = true),
  fun K => decide (PySem.W.hasDictIn K (He.ga K "Desk") = true),
  fun K => decide (PySem.W.plainOver K (He.ga K "Desk") = true),
  fun K => decide (PySem.W.findIn K (.ref (He.ga K "Desk")) "__setattr__" = some (some (.builtin "object.__setattr__"))),
  fun K => decide (PySem.W.makesIn K (He.ga K "Desk") = true),
  fun K => decide (PySem.W.keepIn K (.ref (He.ga K "Desk")) = true),
  fun K => decide (PySem.W.findIn K (.ref (He.ga K "Desk")) "trays" = some none)]
def fnds0 : List He.DefD := [
  { at_ := ("is_card", none), name := "is_card", qual := "is_card", params := defArgs (topS 16), body := defBody (topS 16), scope := defScope (topS 16), dfl := [] },
  { at_ := ("card_of", none), name := "card_of", qual := "card_of", params := defArgs (topS 17), body := defBody (topS 17), scope := defScope (topS 17), dfl := [] },
  { at_ := ("is_name", none), name := "is_name", qual := "is_name", params := defArgs (topS 37), body := defBody (topS 37), scope := defScope (topS 37), dfl := [] },
  { at_ := ("read_cards", none), name := "read_cards", qual := "read_cards", params := defArgs (topS 125), body := defBody (topS 125), scope := defScope (topS 125), dfl := [] },
  { at_ := ("new_name", none), name := "new_name", qual := "new_name", params := defArgs (topS 126), body := defBody (topS 126), scope := defScope (topS 126), dfl := [] },
  { at_ := ("is_row", none), name := "is_row", qual := "is_row", params := defArgs (topS 128), body := defBody (topS 128), scope := defScope (topS 128), dfl := [] },
  { at_ := ("_law_cell_at", none), name := "_law_cell_at", qual := "_law_cell_at", params := defArgs (topS 131), body := defBody (topS 131), scope := defScope (topS 131), dfl := [] },
  { at_ := ("_law_text", none), name := "_law_text", qual := "_law_text", params := defArgs (topS 132), body := defBody (topS 132), scope := defScope (topS 132), dfl := [] },
  { at_ := ("_law_card", none), name := "_law_card", qual := "_law_card", params := defArgs (topS 133), body := defBody (topS 133), scope := defScope (topS 133), dfl := [] },
  { at_ := ("_law_names", none), name := "_law_names", qual := "_law_names", params := defArgs (topS 134), body := defBody (topS 134), scope := defScope (topS 134), dfl := [] },
  { at_ := ("_law_word", none), name := "_law_word", qual := "_law_word", params := defArgs (topS 135), body := defBody (topS 135), scope := defScope (topS 135), dfl := [] },
  { at_ := ("_law_kinds", none), name := "_law_kinds", qual := "_law_kinds", params := defArgs (topS 136), body := defBody (topS 136), scope := defScope (topS 136), dfl := [] },
  { at_ := ("_law_no_tray", none), name := "_law_no_tray", qual := "_law_no_tray", params := defArgs (topS 137), body := defBody (topS 137), scope := defScope (topS 137), dfl := [] },
  { at_ := ("_law_shown", none), name := "_law_shown", qual := "_law_shown", params := defArgs (topS 138), body := defBody (topS 138), scope := defScope (topS 138), dfl := [] },
  { at_ := ("_law_said", none), name := "_law_said", qual := "_law_said", params := defArgs (topS 139), body := defBody (topS 139), scope := defScope (topS 139), dfl := [] },
  { at_ := ("law", none), name := "law", qual := "law", params := defArgs (topS 140), body := defBody (topS 140), scope := defScope (topS 140), dfl := [] },
  { at_ := ("Desk", some "__init__"), name := "__init__", qual := "Desk.__init__", params := defArgs (inClass (topS 129) 0), body := defBody (inClass (topS 129) 0), scope := defScope (inClass (topS 129) 0), dfl := [] },
  { at_ := ("Desk", some "there"), name := "there", qual := "Desk.there", params := defArgs (inClass (topS 129) 1), body := defBody (inClass (topS 129) 1), scope := defScope (inClass (topS 129) 1), dfl := [] },
  { at_ := ("Desk", some "say"), name := "say", qual := "Desk.say", params := defArgs (inClass (topS 129) 2), body := defBody (inClass (topS 129) 2), scope := defScope (inClass (topS 129) 2), dfl := [] }]
def names0 : List PySem.Str := [
  "_wall",
  "ShopError",
  "NoCard",
  "NoField",
  "NoOrder",
  "NoBoard",
  "Meet",
  "NoAsking",
  "NoTray",
  "NoPlan",
  "NoRow",
  "SIGNS"]
def names1 : List PySem.Str := [
  "WIDTH",
  "rank_of",
  "is_card",
  "card_of",
  "mark_of",
  "make_board",
  "lay_out",
  "copy_deck",
  "FIGURES_fields",
  "HIGHEST",
  "field_of",
  "columns_of"]
def names2 : List PySem.Str := [
  "are_apart",
  "part_of",
  "number_of",
  "punch_in",
  "column_in",
  "read_field",
  "shown_field",
  "LETTERS",
  "is_name",
  "is_field",
  "is_wide",
  "is_board"]
def names3 : List PySem.Str := [
  "are_picks",
  "is_middle",
  "main_field",
  "are_works",
  "Asking",
  "FIGURES_boardtexts",
  "read_column",
  "read_side",
  "read_piece",
  "read_board",
  "FIGURES_asktexts",
  "read_number"]
def names4 : List PySem.Str := [
  "rest_of",
  "words_of",
  "read_fields",
  "read_pick",
  "read_middle",
  "read_work",
  "read_order",
  "read_sums",
  "read_print",
  "read_run",
  "asking_of",
  "read_asking"]
def names5 : List PySem.Str := [
  "power_of_ten",
  "Wheel",
  "Counter",
  "lines_of",
  "comes_ahead",
  "out_at",
  "work_card",
  "gather",
  "put_back",
  "Machine",
  "Dealer",
  "Picker"]
def names6 : List PySem.Str := [
  "Rower",
  "Mater",
  "Firster",
  "Puncher",
  "Printer",
  "mater_of",
  "machine_of",
  "ASIDE",
  "copied_going",
  "Clerk",
  "look_at",
  "look_at_both"]
def names7 : List PySem.Str := [
  "pour_decks",
  "columns_without",
  "columns_once",
  "signs_picked",
  "has_first",
  "other_name",
  "middle_fields",
  "middle_columns",
  "cut_behind",
  "wanted_columns",
  "late_deals",
  "deals_by"]
def names8 : List PySem.Str := [
  "middle_goings",
  "other_deals",
  "last_goings",
  "plan_of",
  "deck_in",
  "in_order",
  "is_picked",
  "first_of_each",
  "behind_middle",
  "chosen_deck",
  "told_lines",
  "read_cards"]
def names9 : List PySem.Str := [
  "new_name",
  "shown_going",
  "is_row",
  "Desk",
  "_law_cell_at",
  "_law_text",
  "_law_card",
  "_law_names",
  "_law_word",
  "_law_kinds",
  "_law_no_tray",
  "_law_shown"]
def names10 : List PySem.Str := [
  "_law_said"]
def factsA : List FaB := facts0 ++ facts1 ++ facts2
def fndsA : List He.DefD := fnds0
def namesA : List PySem.Str := names0 ++ names1 ++ names2 ++ names3 ++ names4 ++ names5 ++ names6 ++ names7 ++ names8 ++ names9 ++ names10
abbrev RR : PySem.W.OpenRow := PySem.W.OpenLaw.row PySem.Challenge.rw_cardshop_k75_desk_trays
abbrev hkA : PySem.W.Hook := hookB 5 factsA fndsA
def obA (s : PySem.W.SharedT) : He.AlD := obsBG 5 factsA fndsA (HandSHeadRun.getT s)
theorem obA_eq (s : PySem.W.SharedT) : obA s = hkA.obs s.abs := obsBG_eq (HandSHeadRun.getT_eq s)
theorem runA (w : World) : HandSHeadRun.RunEq RR (PySem.W.view RR.prog [140]) hkA obA 20000 namesA w := by
  intro os
  kernel_rfl
end Cd
set_option Elab.async false
set_option linter.all false
set_option maxRecDepth 100000
set_option maxHeartbeats 4000000
/-! ## The ground: data told by heaps, with a ghost heap of what stays -/
namespace PySem
theorem Paired.pImp {α β : Type} {F G : α → β → Prop} (f : ∀ a b, F a b → G a b) : ∀ {l : List α} {m : List β}, Paired F l m → Paired G l m
  | _, _, .nil => .nil
  | _, _, .cons r t => .cons (f _ _ r) (Paired.pImp f t)
theorem Paired.pLen {α β : Type} {F : α → β → Prop} : ∀ {l : List α} {m : List β}, Paired F l m → l.length = m.length
  | _, _, .nil => rfl
  | _, _, .cons _ t => congrArg (· + 1) (Paired.pLen t)
theorem Paired.pApp {α β : Type} {F : α → β → Prop} : ∀ {l : List α} {m : List β} {l' : List α} {m' : List β}, Paired F l m → Paired F l' m' → Paired F (l ++ l') (m ++ m')
  | _, _, _, _, .nil, h => h
  | _, _, _, _, .cons r t, h => .cons r (Paired.pApp t h)
theorem Paired.pDrop {α β : Type} {F : α → β → Prop} : ∀ {l : List α} {m : List β} (n : Nat), Paired F l m → Paired F (l.drop n) (m.drop n)
  | _, _, 0, h => h
  | _, _, _ + 1, .nil => .nil
  | _, _, n + 1, .cons _ t => Paired.pDrop n t
theorem Paired.pTake {α β : Type} {F : α → β → Prop} : ∀ {l : List α} {m : List β} (n : Nat), Paired F l m → Paired F (l.take n) (m.take n)
  | _, _, 0, _ => .nil
  | _, _, _ + 1, .nil => .nil
  | _, _, n + 1, .cons r t => .cons r (Paired.pTake n t)
theorem Paired.pAt {α β : Type} {F : α → β → Prop} : ∀ {l : List α} {m : List β} {i : Nat} {b : β}, Paired F l m → m[i]? = some b → ∃ a, l[i]? = some a ∧ F a b
  | _, _, _, _, .nil, h => by simp at h
  | _, _, 0, _, .cons r _, h => by simp at h; subst h; exact ⟨_, rfl, r⟩
  | _, _, i + 1, _, .cons _ t, h => by
    obtain ⟨a, h1, h2⟩ := Paired.pAt (i := i) t (by simpa using h)
    exact ⟨a, by simpa using h1, h2⟩
end PySem
namespace Cd
open PySem L2
/-! ### what a value tells -/
class Py (α : Type) where
  R : Fr → Hp → V → α → Prop
  mono : ∀ {K : Fr} {Z Z' : Hp} {v : V} {a : α}, Same Z Z' → R K Z v a → R K Z' v a
/-- a value that needs no heap -/
class Sc (α : Type) where
  emb : α → V
instance : Sc Int := ⟨V.int⟩
instance : Sc Bool := ⟨V.bl⟩
instance : Sc Str := ⟨V.str⟩
instance : Sc Unit := ⟨fun _ => V.non⟩
instance (priority := low) {α : Type} [Sc α] : Py α := ⟨fun _ _ v a => v = Sc.emb a, fun _ h => h⟩
instance {α : Type} [Py α] : Py (Option α) where
  R K Z v o := match o with
    | none => v = .non
    | some a => Py.R K Z v a
  mono := fun {K Z Z' v a} s h => by
    cases a with
    | none => exact h
    | some a => exact Py.mono s h
instance {α : Type} [Py α] : Py (List α) where
  R K Z v l := ∃ a xs, v = .ref a ∧ Z a = some (.lst xs) ∧ Paired (Py.R K Z) xs l
  mono := fun {K Z Z' v l} s h => by
    obtain ⟨a, xs, e, hz, p⟩ := h
    exact ⟨a, xs, e, s _ _ hz, Paired.pImp (fun _ _ r => Py.mono s r) p⟩
instance {α β : Type} [Py α] [Py β] : Py (α × β) where
  R K Z v p := ∃ a x y, v = .ref a ∧ Z a = some (.tup [x, y]) ∧ Py.R K Z x p.1 ∧ Py.R K Z y p.2
  mono := fun {K Z Z' v l} s h => by
    obtain ⟨a, x, y, e, hz, p, q⟩ := h
    exact ⟨a, x, y, e, s _ _ hz, Py.mono s p, Py.mono s q⟩
/-- the script -/
structure Scr where
  ns : List Int
instance : Py Scr where
  R K Z v l := ∃ a, v = .ref a ∧ SqL K Z a (l.ns.map V.int)
  mono := fun {K Z Z' v l} s h => by
    obtain ⟨a, e, hz⟩ := h
    exact ⟨a, e, s.seq hz⟩
/-! ### a step of heap and ghost -/
structure Step (Z H Z' H' : Hp) : Prop where
  hh : Same H H'
  zz : Same Z Z'
  zh : Same Z' H'
  fr : ∀ a o, H a = some o → Z' a = Z a
section
variable {K : Fr} {Z H Z' H' Z2 H2 Z0 H0 : Hp}
theorem Step.refl (s : Same Z H) : Step Z H Z H := ⟨Same.refl _, Same.refl _, s, fun _ _ _ => rfl⟩
theorem Step.trans (a : Step Z H Z' H') (b : Step Z' H' Z2 H2) : Step Z H Z2 H2 :=
  ⟨a.hh.trans b.hh, a.zz.trans b.zz, b.zh, fun x o e => (b.fr x o (a.hh x o e)).trans (a.fr x o e)⟩
/-- a new object, told -/
theorem Step.new {p : Addr} {o : HO} (s : Same Z H) (hp : H p = none) : Step Z H (upd Z p o) (upd H p o) := by
  have hz : Z p = none := s.free hp
  refine ⟨fun b u e => ?_, fun b u e => ?_, fun b u e => ?_, fun b u e => ?_⟩
  · rw [upd_ne (ne_of_none e hp)]; exact e
  · rw [upd_ne (ne_of_none e hz)]; exact e
  · by_cases q : b = p
    · subst q; rw [upd_same] at e ⊢; exact e
    · rw [upd_ne q] at e ⊢; exact s b u e
  · rw [upd_ne (ne_of_none e hp)]
/-- a new object, kept for oneself -/
theorem Step.own {p : Addr} {o : HO} (s : Same Z H) (hp : H p = none) : Step Z H Z (upd H p o) := by
  refine ⟨fun b u e => ?_, Same.refl _, fun b u e => ?_, fun _ _ _ => rfl⟩
  · rw [upd_ne (ne_of_none e hp)]; exact e
  · have q := s b u e
    rw [upd_ne (ne_of_none q hp)]; exact q
/-- one's own object, told from now on -/
theorem Step.tell {p : Addr} {o : HO} (c : Step Z0 H0 Z H) (hp : H p = some o) (hz : Z p = none) (h0 : H0 p = none) : Step Z0 H0 (upd Z p o) H ∧ Same Z (upd Z p o) := by
  have s2 : Same Z (upd Z p o) := fun b u e => by rw [upd_ne (ne_of_none e hz)]; exact e
  refine ⟨⟨c.hh, c.zz.trans s2, fun b u e => ?_, fun b u e => ?_⟩, s2⟩
  · by_cases q : b = p
    · subst q; rw [upd_same] at e; rw [hp]; exact e
    · rw [upd_ne q] at e; exact c.zh b u e
  · rw [upd_ne (ne_of_none e h0)]; exact c.fr b u e
/-- one's own object is changed -/
theorem Step.mut {p : Addr} {o : HO} (c : Step Z0 H0 Z H) (hz : Z p = none) (h0 : H0 p = none) : Step Z0 H0 Z (upd H p o) := by
  refine ⟨fun b u e => ?_, c.zz, fun b u e => ?_, c.fr⟩
  · rw [upd_ne (ne_of_none e h0)]; exact c.hh b u e
  · rw [upd_ne (ne_of_none e hz)]; exact c.zh b u e
/-- a list of one's own: it stands in the heap, the ghost knows nothing of it -/
structure Own {α : Type} [Py α] (K : Fr) (H0 Z H : Hp) (l : Addr) (m : List α) : Prop where
  ex : ∃ xs, H l = some (.lst xs) ∧ Paired (Py.R K Z) xs m
  nz : Z l = none
  n0 : H0 l = none
theorem Own.step {α : Type} [Py α] {l : Addr} {m : List α} (o : Own K H0 Z H l m) (st : Step Z H Z' H') : Own K H0 Z' H' l m := by
  obtain ⟨⟨xs, h, p⟩, nz, n0⟩ := o
  exact ⟨⟨xs, st.hh _ _ h, Paired.pImp (fun _ _ r => Py.mono st.zz r) p⟩, (st.fr _ _ h).trans nz, n0⟩
theorem Own.far {α : Type} [Py α] {l q : Addr} {u : HO} {m : List α} (o : Own K H0 Z H l m) (ne : l ≠ q) : Own K H0 Z (upd H q u) l m := by
  obtain ⟨⟨xs, h, p⟩, nz, n0⟩ := o
  exact ⟨⟨xs, by rw [upd_ne ne]; exact h, p⟩, nz, n0⟩
theorem Own.tell {α : Type} [Py α] {l : Addr} {m : List α} (o : Own K H0 Z H l m) (c : Step Z0 H0 Z H) : ∃ Z', Step Z0 H0 Z' H ∧ Same Z Z' ∧ Py.R K Z' (.ref l) m ∧ ∀ q, q ≠ l → Z' q = Z q := by
  obtain ⟨⟨xs, h, p⟩, nz, n0⟩ := o
  obtain ⟨c', s⟩ := c.tell h nz n0
  exact ⟨_, c', s, ⟨l, xs, rfl, upd_same, Paired.pImp (fun _ _ r => Py.mono s r) p⟩, fun q hq => upd_ne hq⟩
theorem Own.zfar {α : Type} [Py α] {l : Addr} {m : List α} (o : Own K H0 Z H l m) (s : Same Z Z') (hz : Z' l = Z l) : Own K H0 Z' H l m := by
  obtain ⟨⟨xs, h, p⟩, nz, n0⟩ := o
  exact ⟨⟨xs, h, Paired.pImp (fun _ _ r => Py.mono s r) p⟩, hz.trans nz, n0⟩
theorem Own.at {α : Type} [Py α] {l : Addr} {m : List α} (o : Own K H0 Z H l m) : ∃ u, H l = some u := let ⟨⟨_, h, _⟩, _, _⟩ := o; ⟨_, h⟩
theorem Own.ne_new {α : Type} [Py α] {l p : Addr} {m : List α} (o : Own K H0 Z H l m) (h : H p = none) : l ≠ p := let ⟨_, h1⟩ := o.at; ne_of_none h1 h
/-- a new list comes: told at once, or kept -/
def New {α : Type} [Py α] (K : Fr) (Z H : Hp) (Q : VK) (m : List α) : Prop :=
  ∀ p xs Z' H', Step Z H Z' H' → H p = none → H' p = some (.lst xs) → Z' p = none → Paired (Py.R K Z') xs m → Q (.ref p) H'
/-- something comes -/
def Tel {α : Type} [Py α] (K : Fr) (Z H : Hp) (Q : VK) (m : α) : Prop :=
  ∀ v Z' H', Step Z H Z' H' → Py.R K Z' v m → Q v H'
theorem New.tel {α : Type} [Py α] {Q : VK} {m : List α} (k : Tel K Z H Q m) : New K Z H Q m := fun p xs Z' H' st hp hl hz pr => by
  obtain ⟨c', s⟩ := st.tell hl hz hp
  exact k _ _ _ c' ⟨p, xs, rfl, upd_same, Paired.pImp (fun _ _ r => Py.mono s r) pr⟩
theorem New.own {α : Type} [Py α] {Q : VK} {m : List α} (c : Step Z0 H0 Z H) (k : ∀ p Z' H', Step Z H Z' H' → H p = none → Own K H0 Z' H' p m → Q (.ref p) H') : New K Z H Q m := fun p xs Z' H' st hp hl hz pr =>
  k p Z' H' st hp ⟨⟨xs, hl, pr⟩, hz, c.hh.free hp⟩
/-- a list laid anew -/
theorem New.lay {α : Type} [Py α] {Q : VK} {m : List α} {xs : List V} (s : Same Z H) (pr : Paired (Py.R K Z) xs m) (k : New K Z H Q m) : ∀ p, H p = none → Q (.ref p) (upd H p (.lst xs)) := fun p hp =>
  k p xs Z _ (Step.own s hp) hp upd_same (s.free hp) pr
end
/-! ### lists of plain values -/
theorem paired_emb {α : Type} [Sc α] {K : Fr} {Z : Hp} : ∀ {xs : List V} {m : List α}, Paired (Py.R K Z) xs m → xs = m.map Sc.emb
  | _, _, .nil => rfl
  | _, _, .cons r t => by
    rw [List.map_cons, ← paired_emb t, show _ = Sc.emb _ from r]
theorem paired_of {α : Type} [Sc α] {K : Fr} {Z : Hp} : ∀ (m : List α), Paired (Py.R K Z) (m.map Sc.emb) m
  | [] => .nil
  | _ :: r => .cons rfl (paired_of r)
end Cd

set_option Elab.async false
set_option linter.all false
set_option maxRecDepth 100000
set_option maxHeartbeats 4000000
namespace Cd
open PySem L2
/-! ### items and pieces -/
def inR (n : Nat) (i : Int) : Prop := -(n : Int) ≤ i ∧ i < n
theorem ixN_some {n : Nat} {i : Int} (h : inR n i) : ∃ j, ixN n i = some j ∧ j < n := by
  obtain ⟨h1, h2⟩ := h
  unfold ixN
  by_cases h0 : 0 ≤ i
  · rw [if_pos h0, if_pos h2]
    exact ⟨_, rfl, by omega⟩
  · rw [if_neg h0, if_pos h1]
    exact ⟨_, rfl, by omega⟩
def getI {α : Type} [Inhabited α] (l : List α) (i : Int) : α := (atI l i).getD default
theorem atI_get {α : Type} [Inhabited α] {l : List α} {i : Int} (h : inR l.length i) : atI l i = some (getI l i) := by
  obtain ⟨j, hj, hl⟩ := ixN_some h
  have e : atI l i = some l[j] := by
    unfold atI
    rw [hj]
    exact List.getElem?_eq_getElem hl
  unfold getI
  rw [e]
  rfl
/-- the sign at a place -/
def chS (z : Str) (i : Int) : Str := ⟨#[(atI z.cps.toList i).getD 0]⟩
def cutL {α : Type} (xs : List α) (lo hi : Option Int) : List α := (xs.drop (HT.sIx xs.length 0 lo)).take (HT.sIx xs.length xs.length hi - HT.sIx xs.length 0 lo)
end Cd
namespace PySem
open L2 Cd
theorem Paired.pCut {α : Type} {F : V → α → Prop} {xs : List V} {m : List α} (p : Paired F xs m) (lo hi : Option Int) : Paired F (cutV xs lo hi) (cutL m lo hi) := by
  unfold cutV cutL
  rw [p.pLen]
  exact (p.pDrop _).pTake _
end PySem
namespace Cd
open PySem L2
theorem atI_paired {α : Type} {F : V → α → Prop} {xs : List V} {m : List α} {i : Int} {a : α} (p : Paired F xs m) (h : atI m i = some a) : ∃ x, atI xs i = some x ∧ F x a := by
  unfold atI at h ⊢
  rw [p.pLen]
  cases e : ixN m.length i with
  | none => rw [e] at h; cases h
  | some j =>
    rw [e] at h
    exact p.pAt h
section
variable {K : Fr} {Z H Z0 H0 : Hp} {Q : VK}
theorem pyL {α : Type} [Py α] {v : V} {l : List α} (h : Py.R K Z v l) : ∃ a xs, v = .ref a ∧ Z a = some (.lst xs) ∧ Paired (Py.R K Z) xs l := h
/-! ### what the operations ask, over data -/
theorem k_eqI {i j : Int} (k : Q (.bl (decide (i = j))) H) : rEq (.int i) (.int j) H Q := by
  refine ⟨rfl, ?_⟩
  have e : decide ((V.int i) = V.int j) = decide (i = j) := decide_eq_decide.mpr ⟨V.int.inj, fun h => by rw [h]⟩
  rw [e]; exact k
theorem k_neI {i j : Int} (k : Q (.bl (!decide (i = j))) H) : rNe (.int i) (.int j) H Q := by
  refine ⟨rfl, ?_⟩
  have e : decide ((V.int i) = V.int j) = decide (i = j) := decide_eq_decide.mpr ⟨V.int.inj, fun h => by rw [h]⟩
  rw [e]; exact k
theorem k_eqS {i j : Str} (k : Q (.bl (decide (i = j))) H) : rEq (.str i) (.str j) H Q := by
  refine ⟨rfl, ?_⟩
  have e : decide ((V.str i) = V.str j) = decide (i = j) := decide_eq_decide.mpr ⟨V.str.inj, fun h => by rw [h]⟩
  rw [e]; exact k
theorem k_neS {i j : Str} (k : Q (.bl (!decide (i = j))) H) : rNe (.str i) (.str j) H Q := by
  refine ⟨rfl, ?_⟩
  have e : decide ((V.str i) = V.str j) = decide (i = j) := decide_eq_decide.mpr ⟨V.str.inj, fun h => by rw [h]⟩
  rw [e]; exact k
theorem k_ixS {z : Str} {i : Int} (hs : z.length ≤ sizeLine) (hi : inR z.length i) (k : Q (.str (chS z i)) H) : rIxS (.str z) (.int i) H Q := by
  have e : z.length = z.cps.toList.length := by unfold Str.length; simp
  have h : atI z.cps.toList i = some (getI z.cps.toList i) := atI_get (by rw [← e]; exact hi)
  refine ⟨z, i, getI z.cps.toList i, rfl, rfl, hs, h, ?_⟩
  have e2 : chS z i = ⟨#[getI z.cps.toList i]⟩ := by unfold chS; rw [h]; rfl
  rw [← e2]; exact k
theorem k_ixL {α : Type} [Py α] [Inhabited α] {v : V} {l : List α} {i : Int} (zh : Same Z H) (h : Py.R K Z v l) (hi : inR l.length i) (k : ∀ y, Py.R K Z y (getI l i) → Q y H) : rIxL K v (.int i) H Q := by
  obtain ⟨a, xs, rfl, hz, p⟩ := h
  obtain ⟨x, hx, hf⟩ := atI_paired p (atI_get hi)
  exact ⟨a, xs, i, x, rfl, rfl, SqL.of (zh _ _ hz), hx, k x hf⟩
theorem k_ixLs {α : Type} [Sc α] [Inhabited α] {v : V} {l : List α} {i : Int} (zh : Same Z H) (h : Py.R K Z v l) (hi : inR l.length i) (k : Q (Sc.emb (getI l i)) H) : rIxL K v (.int i) H Q :=
  k_ixL zh h hi fun y hy => by
    obtain rfl := (show y = Sc.emb (getI l i) from hy)
    exact k
/-- an item of the script -/
theorem k_ixR {v : V} {l : Scr} {i : Int} (zh : Same Z H) (h : Py.R K Z v l) (hi : inR l.ns.length i) (k : Q (.int (getI l.ns i)) H) : rIxL K v (.int i) H Q := by
  obtain ⟨a, rfl, hz⟩ := h
  refine ⟨a, l.ns.map V.int, i, .int (getI l.ns i), rfl, rfl, zh.seq hz, ?_, k⟩
  have h1 := atI_get hi
  unfold atI at h1 ⊢
  rw [List.length_map]
  cases e : ixN l.ns.length i with
  | none => rw [e] at h1; cases h1
  | some j =>
    rw [e] at h1
    show (l.ns.map V.int)[j]? = _
    have h2 : l.ns[j]? = some (getI l.ns i) := h1
    rw [List.getElem?_map, h2]
    rfl
theorem k_len {α : Type} [Py α] {v : V} {l : List α} (zh : Same Z H) (h : Py.R K Z v l) (k : Q (.int (l.length : Int)) H) : ∃ p ys, [v] = [V.ref p] ∧ (SqL K H p ys ∨ SqT K H p ys) ∧ Q (.int ys.length) H := by
  obtain ⟨a, xs, rfl, hz, p⟩ := h
  exact ⟨a, xs, rfl, .inl (SqL.of (zh _ _ hz)), by rw [p.pLen]; exact k⟩
theorem k_lenR {v : V} {l : Scr} (zh : Same Z H) (h : Py.R K Z v l) (k : Q (.int (l.ns.length : Int)) H) : ∃ p ys, [v] = [V.ref p] ∧ (SqL K H p ys ∨ SqT K H p ys) ∧ Q (.int ys.length) H := by
  obtain ⟨a, rfl, hz⟩ := h
  exact ⟨a, _, rfl, .inl (zh.seq hz), by rw [List.length_map]; exact k⟩
/-- a new pair -/
theorem k_pair {α β : Type} [Py α] [Py β] {x y : V} {a : α} {b : β} (zh : Same Z H) (hx : Py.R K Z x a) (hy : Py.R K Z y b) (k : Tel K Z H Q (a, b)) : ([x, y] : List V).length ≤ sizeLine ∧ ∀ p, H p = none → Q (.ref p) (upd H p (.tup [x, y])) := by
  refine ⟨by show 2 ≤ sizeLine; decide, fun p hp => ?_⟩
  have st := Step.new (o := .tup [x, y]) zh hp
  exact k _ _ _ st ⟨p, x, y, rfl, upd_same, Py.mono st.zz hx, Py.mono st.zz hy⟩
/-- a new list of written items -/
theorem k_list {α : Type} [Py α] {xs : List V} {m : List α} (zh : Same Z H) (pr : Paired (Py.R K Z) xs m) (hs : xs.length ≤ sizeLine) (k : New K Z H Q m) : xs.length ≤ sizeLine ∧ ∀ p, H p = none → Q (.ref p) (upd H p (.lst xs)) :=
  ⟨hs, New.lay zh pr k⟩
theorem k_slL {α : Type} [Py α] {v : V} {l : List α} {lo hi : Option Int} (zh : Same Z H) (h : Py.R K Z v l) (k : New K Z H Q (cutL l lo hi)) : rSlL K v lo hi H Q := by
  obtain ⟨a, xs, rfl, hz, p⟩ := h
  exact ⟨a, xs, rfl, SqL.of (zh _ _ hz), New.lay zh (p.pCut lo hi) k⟩
theorem cutV_map (f : Int → V) (ns : List Int) (lo hi : Option Int) : cutV (ns.map f) lo hi = (cutL ns lo hi).map f := by
  unfold cutV cutL
  rw [List.length_map, List.map_take, List.map_drop]
theorem k_slR {v : V} {l : Scr} {lo hi : Option Int} (zh : Same Z H) (h : Py.R K Z v l) (k : New K Z H Q (cutL l.ns lo hi)) : rSlL K v lo hi H Q := by
  obtain ⟨a, rfl, hz⟩ := h
  refine ⟨a, _, rfl, zh.seq hz, ?_⟩
  rw [cutV_map]
  exact New.lay zh (paired_of (α := Int) _) k
/-- list(..) -/
theorem k_listL {α : Type} [Py α] {v : V} {l : List α} (zh : Same Z H) (h : Py.R K Z v l) (k : New K Z H Q l) : ∃ p ys, [v] = [V.ref p] ∧ (SqL K H p ys ∨ SqT K H p ys) ∧ ∀ q, H q = none → Q (.ref q) (upd H q (.lst ys)) := by
  obtain ⟨a, xs, rfl, hz, p⟩ := h
  exact ⟨a, xs, rfl, .inl (SqL.of (zh _ _ hz)), New.lay zh p k⟩
/-- l.append(x) -/
theorem k_append {α : Type} [Py α] {q : Addr} {v : V} {l : List α} {a : α} (o : Own K H0 Z H q l) (h : Py.R K Z v a) (hs : l.length < sizeLine) (k : ∀ u, Own K H0 Z (upd H q u) q (l ++ [a]) → Q .non (upd H q u)) : rAppend (.ref q) [v] H Q := by
  obtain ⟨⟨xs, hz, pr⟩, nz, n0⟩ := o
  exact ⟨q, xs, v, rfl, rfl, hz, by rw [pr.pLen]; exact hs, k _ ⟨⟨_, upd_same, pr.pApp (.cons h .nil)⟩, nz, n0⟩⟩
/-- l[i] = x -/
def setI {α : Type} (l : List α) (i : Int) (a : α) : List α := match ixN l.length i with | some j => l.set j a | none => l
theorem tyO {α : Type} [Py α] {q : Addr} {l : List α} (o : Own K H0 Z H q l) : tyV K "list" (.ref q) H := let ⟨⟨xs, hz, _⟩, _, _⟩ := o; .inl ⟨rfl, xs, SqL.of hz⟩
theorem tyL {α : Type} [Py α] {v : V} {l : List α} (zh : Same Z H) (h : Py.R K Z v l) : tyV K "list" v H := by
  obtain ⟨a, xs, rfl, hz, p⟩ := h
  exact .inl ⟨rfl, xs, SqL.of (zh _ _ hz)⟩
end
/-! ### tests and values with an open wish -/
theorem ansAnd {t u : TT} {σ : St} {H : Hp} {b1 b2 : Bool} {Q : Bool → Hp → Prop} (h1 : ∀ Q' : Bool → Hp → Prop, Q' b1 H → t σ H Q') (h2 : b1 = true → ∀ Q' : Bool → Hp → Prop, Q' b2 H → u σ H Q') (k : Q (b1 && b2) H) : tAnd t u σ H Q := by
  refine h1 _ ?_
  cases b1 with
  | true => exact iteT (h2 rfl _ k)
  | false => exact iteF k
theorem ansOr {t u : TT} {σ : St} {H : Hp} {b1 b2 : Bool} {Q : Bool → Hp → Prop} (h1 : ∀ Q' : Bool → Hp → Prop, Q' b1 H → t σ H Q') (h2 : b1 = false → ∀ Q' : Bool → Hp → Prop, Q' b2 H → u σ H Q') (k : Q (b1 || b2) H) : tOr t u σ H Q := by
  refine h1 _ ?_
  cases b1 with
  | true => exact iteT k
  | false => exact iteF (h2 rfl _ k)
theorem valAnd {ta tb : TE} {σ : St} {H : Hp} {b1 b2 : Bool} {Q : VK} (h1 : ∀ Q' : VK, Q' (.bl b1) H → ta σ H Q') (h2 : b1 = true → ∀ Q' : VK, Q' (.bl b2) H → tb σ H Q') (k : Q (.bl (b1 && b2)) H) : tAndV ta tb σ H Q := by
  refine h1 _ ⟨b1, rfl, ?_⟩
  cases b1 with
  | true => exact iteT (h2 rfl _ k)
  | false => exact iteF k
/-! ### names -/
theorem storeI {i : Nat} {a : Int} {σ : St} {H : Hp} {Q : St → Hp → Prop} (k : ∀ x, x = a → Q (σ.set i (some (.int x))) H) : gName i (.int a) σ H Q := k a rfl
theorem storeS {i : Nat} {a : Str} {σ : St} {H : Hp} {Q : St → Hp → Prop} (k : ∀ x, x = a → Q (σ.set i (some (.str x))) H) : gName i (.str a) σ H Q := k a rfl
theorem storeB {i : Nat} {a : Bool} {σ : St} {H : Hp} {Q : St → Hp → Prop} (k : ∀ x, x = a → Q (σ.set i (some (.bl x))) H) : gName i (.bl a) σ H Q := k a rfl
end Cd

set_option Elab.async false
set_option linter.all false
set_option maxRecDepth 100000
set_option maxHeartbeats 4000000
namespace Cd
open PySem L2
/-! ### loops: what is walked, as a list -/
/-- J walks L while the ghost's Z stands; Y tells what a turn hands out -/
structure Src {γ : Type} (J : It) (Z : Hp) (L : List γ) (Y : γ → V → Hp → Hp → Prop) : Prop where
  go : ∀ i a H, L[i]? = some a → Same Z H → J.go i H
  yld : ∀ i a H x H', L[i]? = some a → Same Z H → J.yld i H x H' → Y a x H H'
  stop : ∀ H, Same Z H → J.stop L.length H
def forRest (J : It) (g : TG) (tb : TS) (D : Ends) (σ : St) (H : Hp) : Prop := ∃ W : Nat → Nat → St → Hp → Prop, (∃ m, W 0 m σ H) ∧ ∀ i m σ H, W i m σ H →
  (J.stop i H ∧ D.nx σ H) ∨ (J.go i H ∧ ∃ N : St → Hp → Prop, (∀ σ' H', N σ' H' → ∃ m', m' < m ∧ W (i + 1) m' σ' H') ∧ ∀ x H', J.yld i H x H' → g x σ H' fun σ2 H2 => tb { D with nx := N, ct := N, bk := D.nx } σ2 H2)
section
variable {γ : Type} {J : It} {g : TG} {tb : TS} {D : Ends} {σ : St} {H Z : Hp} {L : List γ} {Y : γ → V → Hp → Hp → Prop}
theorem forK (src : Src J Z L Y) (Pv : List γ → St → Hp → Hp → Prop) (keep : ∀ r σ H' Z', Pv r σ H' Z' → Same Z Z' ∧ Same Z' H') (h0 : ∃ Z', Pv L σ H Z')
    (turn : ∀ a r x σ H' H2 Z', a ∈ L → (∃ d, L = d ++ a :: r) → Pv (a :: r) σ H' Z' → Y a x H' H2 → g x σ H2 fun σ2 H3 => tb { D with nx := fun σ' H' => ∃ Z2, Pv r σ' H' Z2, ct := fun σ' H' => ∃ Z2, Pv r σ' H' Z2, bk := D.nx } σ2 H3)
    (done : ∀ σ H' Z', Pv [] σ H' Z' → D.nx σ H') : forRest J g tb D σ H := by
  refine ⟨fun i m σ H' => i ≤ L.length ∧ m = L.length - i ∧ ∃ Z', Pv (L.drop i) σ H' Z', ⟨L.length, Nat.zero_le _, by omega, h0⟩, ?_⟩
  rintro i m σ H' ⟨hi, rfl, Z', hp⟩
  obtain ⟨k1, k2⟩ := keep _ _ _ _ hp
  have zs : Same Z H' := k1.trans k2
  by_cases hlt : i < L.length
  · have e : L.drop i = L[i] :: L.drop (i + 1) := List.drop_eq_getElem_cons hlt
    have ea : L[i]? = some L[i] := List.getElem?_eq_getElem hlt
    rw [e] at hp
    refine .inr ⟨src.go i _ H' ea zs, fun σ' H' => ∃ Z2, Pv (L.drop (i + 1)) σ' H' Z2, fun σ' H2 q => ⟨L.length - (i + 1), by omega, hlt, rfl, q⟩, fun x H2 y => ?_⟩
    exact turn _ _ x σ H' H2 Z' (List.getElem_mem hlt) ⟨L.take i, by rw [← e, List.take_append_drop]⟩ hp (src.yld i _ H' x H2 ea zs y)
  · have e : i = L.length := by omega
    subst e
    rw [List.drop_length] at hp
    exact .inl ⟨src.stop H' zs, done σ H' Z' hp⟩
end
section
variable {K : Fr} {Z H : Hp}
/-- a list's items -/
theorem src_list {α : Type} [Py α] {a : Addr} {xs : List V} {l : List α} (hz : Z a = some (.lst xs)) (p : Paired (Py.R K Z) xs l) : Src (Itl K a) Z l (fun b x H H' => H' = H ∧ Py.R K Z x b) := by
  refine ⟨fun i b H' e s => ?_, fun i b H' x H2 e s y => ?_, fun H' s => ?_⟩
  · obtain ⟨x, h1, h2⟩ := p.pAt e
    exact ⟨xs, x, SqL.of (s _ _ hz), h1⟩
  · obtain ⟨rfl, y⟩ := y
    obtain ⟨x', h1, h2⟩ := p.pAt e
    have h3 := y xs (SqL.of (s _ _ hz))
    rw [h1] at h3
    cases h3
    exact ⟨rfl, h2⟩
  · exact ⟨xs, SqL.of (s _ _ hz), by rw [p.pLen]; exact Nat.le_refl _⟩
/-- lo, lo + 1, .. -/
def rangeL (lo : Int) (n : Nat) : List Int := (List.range n).map fun (i : Nat) => lo + (i : Int)
theorem rangeL_len (lo : Int) (n : Nat) : (rangeL lo n).length = n := by unfold rangeL; rw [List.length_map, List.length_range]
theorem rangeL_at {lo : Int} {n i : Nat} {a : Int} (h : (rangeL lo n)[i]? = some a) : i < n ∧ a = lo + (i : Int) := by
  unfold rangeL at h
  rw [List.getElem?_map] at h
  by_cases hi : i < n
  · rw [List.getElem?_range hi] at h
    cases h
    exact ⟨hi, rfl⟩
  · rw [List.getElem?_eq_none (by rw [List.length_range]; omega)] at h
    cases h
theorem src_range (lo : Int) (n : Nat) : Src (Itr lo n) Z (rangeL lo n) (fun b x H H' => H' = H ∧ x = V.int b) := by
  refine ⟨fun i b H' e s => (rangeL_at e).1, fun i b H' x H2 e s y => ?_, fun H' s => ?_⟩
  · obtain ⟨rfl, rfl⟩ := y
    rw [(rangeL_at e).2]
    exact ⟨rfl, rfl⟩
  · rw [rangeL_len]
    exact Nat.le_refl n
/-- range with a step -/
def rangeC (lo c : Int) (n : Nat) : List Int := (List.range n).map fun (i : Nat) => lo + (i : Int) * c
/-- a text's signs -/
def chars (z : Str) : List Str := z.cps.toList.map fun c => ⟨#[c]⟩
theorem chars_len (z : Str) : (chars z).length = z.cps.size := by unfold chars; rw [List.length_map]; simp
theorem src_str (z : Str) : Src (Its z) Z (chars z) (fun b x H H' => H' = H ∧ x = V.str b) := by
  refine ⟨fun i b H' e s => ?_, fun i b H' x H2 e s y => ?_, fun H' s => ?_⟩
  · have h := (List.getElem?_eq_some_iff.mp e).1
    rw [chars_len] at h
    exact h
  · obtain ⟨rfl, c, hc, rfl⟩ := y
    unfold chars at e
    rw [List.getElem?_map] at e
    have h2 : z.cps.toList[i]? = some c := by rw [← hc]; simp
    rw [h2] at e
    cases e
    exact ⟨rfl, rfl⟩
  · rw [chars_len]
    exact Nat.le_refl _
/-- pairs: a turn lays a new tuple -/
def YP {α β : Type} (RA : V → α → Prop) (RB : V → β → Prop) : (α × β) → V → Hp → Hp → Prop := fun p x H H' => ∃ T u v, x = V.ref T ∧ H T = none ∧ H' = upd H T (.tup [u, v]) ∧ RA u p.1 ∧ RB v p.2
def enumL {α : Type} (k : Int) (l : List α) : List (Int × α) := (rangeL k l.length).zip l
/-! ### one turn's target -/
theorem tgt1 {i : Nat} {x : V} {σ : St} {H : Hp} {Q : St → Hp → Prop} (k : Q (σ.set i (some x)) H) : gName i x σ H Q := k
end
/-! ### the mirrors' loops -/
inductive LR (S R : Type) where
  | nxt (s : S) | brk (s : S) | ret (r : R)
def LR.bind {S R : Type} (x : LR S R) (k : S → R) : R := match x with
  | .nxt s => k s
  | .brk s => k s
  | .ret r => r
def loopR {α S R : Type} (f : S → α → LR S R) : S → List α → LR S R
  | s, [] => .nxt s
  | s, x :: r => match f s x with
    | .nxt s' => loopR f s' r
    | .brk s' => .brk s'
    | .ret v => .ret v
def loopS {α S : Type} (f : S → α → S) : S → List α → S
  | s, [] => s
  | s, x :: r => loopS f (f s x) r
/-! ### comprehensions -/
section
variable {γ β : Type} [Py β] {K : Fr} {J : It} {g : TG} {tt : TT} {te : TE} {σ : St} {H Z : Hp} {L : List γ} {Y : γ → V → Hp → Hp → Prop} {vs : List Nat} {Q : VK}
theorem lcK (src : Src J Z L Y) (zh : Same Z H) (f : γ → β) (p : γ → Bool) (hs : L.length < sizeLine)
    (el : ∀ a x Z' H' H2 (C : VK) (N : Hp → Prop), a ∈ L → Step Z H Z' H' → Y a x H' H2 →
      (∀ y Z2 H3, Step Z' H' Z2 H3 → p a = true → Py.R K Z2 y (f a) → C y H3) → (∀ Z2 H3, Step Z' H' Z2 H3 → p a = false → N H3) →
      g x (wipe σ vs) H2 fun σ2 H3 => wipe σ2 vs = wipe σ vs ∧ tt σ2 H3 fun b H4 => if b = true then te σ2 H4 C else N H4)
    (k : New K Z H Q ((L.filter p).map f)) :
    ∀ D, H D = none → ∃ W : Nat → Nat → Hp → Prop, (∃ m, W 0 m (upd H D (.lst []))) ∧ ∀ i m H, W i m H →
      (J.stop i H ∧ Q (.ref D)  H) ∨ (J.go i H ∧ ∃ Nx : Hp → Prop, (∀ H', Nx H' → ∃ m', m' < m ∧ W (i + 1) m' H') ∧ ∀ x H', J.yld i H x H' → g x (wipe σ vs) H' fun σ2 H2 => wipe σ2 vs = wipe σ vs ∧ tt σ2 H2 fun b H3 =>
        if b = true then te σ2 H3 fun y H4 => ∃ acc, H4 D = some (.lst acc) ∧ acc.length < sizeLine ∧ Nx (upd H4 D (.lst (acc ++ [y]))) else Nx H3) := by
  intro D hD
  let Pv : Nat → Hp → Prop := fun i H' => i ≤ L.length ∧ ∃ Z', Step Z H Z' H' ∧ Own K H Z' H' D (((L.take i).filter p).map f)
  have s0 : Step Z H Z (upd H D (.lst [])) := Step.own zh hD
  refine ⟨fun i m H' => m = L.length - i ∧ Pv i H', ⟨L.length, by omega, Nat.zero_le _, Z, s0, ⟨[], upd_same, .nil⟩, zh.free hD, hD⟩, ?_⟩
  rintro i m H' ⟨rfl, hi, Z', st, ow⟩
  have zs : Same Z H' := st.zz.trans st.zh
  by_cases hlt : i < L.length
  · have ea : L[i]? = some L[i] := List.getElem?_eq_getElem hlt
    refine .inr ⟨src.go i _ H' ea zs, Pv (i + 1), fun H2 q => ⟨L.length - (i + 1), by omega, rfl, q⟩, fun x H2 y => ?_⟩
    have et : L.take (i + 1) = L.take i ++ [L[i]] := by rw [List.take_add_one, ea]; rfl
    refine el L[i] x Z' H' H2 _ _ (List.getElem_mem hlt) st (src.yld i _ H' x H2 ea zs y) (fun y Z2 H3 st2 hp hr => ?_) (fun Z2 H3 st2 hp => ?_)
    · have ow2 := ow.step st2
      obtain ⟨⟨acc, h1, p1⟩, nz, n0⟩ := ow2
      refine ⟨acc, h1, ?_, hlt, Z2, (st.trans st2).mut nz n0, ⟨acc ++ [y], upd_same, ?_⟩, nz, n0⟩
      · rw [p1.pLen, List.length_map]
        have := List.length_filter_le p (L.take i)
        rw [List.length_take] at this
        omega
      · rw [et, List.filter_append, List.map_append, List.filter_cons_of_pos hp]
        exact p1.pApp (.cons hr .nil)
    · refine ⟨hlt, Z2, st.trans st2, ?_⟩
      have e : ((L.take (i + 1)).filter p).map f = ((L.take i).filter p).map f := by
        rw [et, List.filter_append, List.filter_cons_of_neg (by rw [hp]; exact Bool.false_ne_true)]
        simp
      rw [e]
      exact ow.step st2
  · have e : i = L.length := by omega
    subst e
    rw [List.take_length] at ow
    refine .inl ⟨src.stop H' zs, ?_⟩
    obtain ⟨⟨acc, h1, p1⟩, nz, n0⟩ := ow
    exact k D acc Z' H' st hD h1 nz p1
end
/-! ### a def of the text, as it is called -/
structure Cal (P : Program) (w : World) (K : Fr) (mg : Str → Option Value) (base : Heap) (CX : CXT) (x : Str) (k : Nat) (ps : List Str) (sp : Sp) : Prop where
  ex : ∃ f fd, FnOk P w K mg base CX k f fd ps sp ∧ mg x = some (.ref f) ∧ PySem.W.keepIn K (.ref f) = true ∧ Binds K fd ps []
section
variable {X : Cx} {CX : CXT} {x : Str} {k : Nat} {ps : List Str} {sp : Sp} {E : XK} {t : TA} {e : Expr} {es : List Expr} {p pos : Pos}
theorem pe_cal (c : Cal X.prog X.w X.K X.mg X.base CX x k ps sp) (hr : Room k X.A) (hx : Passes CX X E) (ha : PA X (e :: es) t) (hg : Gl X x := by rfl) (hdb : (x == ("__debug__" : Str)) = false := by decide)
    (he : starEach (e :: es) X.env = (false, eval e X.env) :: starEach es X.env := by rfl) (hpl : (backTo pos (starEach es X.env)).any (·.1) = false := by rfl) : PE X (.Call (.Name x p) (e :: es) [] pos) (tCall sp [] E t) := by
  obtain ⟨f, fd, F, hm, hk, hb⟩ := c.ex
  exact pe_call F hr hg hm hk hb .nil hx ha hdb he hpl
end
end Cd

set_option Elab.async false
set_option linter.all false
set_option maxRecDepth 100000
set_option maxHeartbeats 4000000
namespace Cd
open PySem L2
section
variable {K : Fr} {Z H Z0 H0 Z' H' : Hp} {Q : VK}
/-! ### wishes handed on -/
theorem Tel.sc {α : Type} [Sc α] {m : α} (k : ∀ Z' H', Step Z H Z' H' → Q (Sc.emb m) H') : Tel K Z H Q m := fun v Z' H' st h => by
  obtain rfl := (show v = Sc.emb m from h)
  exact k Z' H' st
theorem Tel.gen {α : Type} [Py α] {m : α} (k : ∀ n, n = m → Tel K Z H Q n) : Tel K Z H Q m := k m rfl
theorem New.gen {α : Type} [Py α] {m : List α} (k : ∀ n, n = m → New K Z H Q n) : New K Z H Q m := k m rfl
theorem New.after {α : Type} [Py α] {m : List α} (c : Step Z0 H0 Z H) (k : New K Z0 H0 Q m) : New K Z H Q m := fun p xs Z' H' st hp hl hz pr => k p xs Z' H' (c.trans st) (c.hh.free hp) hl hz pr
theorem Own.ret {α : Type} [Py α] {p : Addr} {m : List α} (o : Own K H0 Z H p m) (c : Step Z0 H0 Z H) (k : New K Z0 H0 Q m) : Q (.ref p) H := by
  obtain ⟨⟨xs, hl, pr⟩, nz, n0⟩ := o
  exact k p xs Z H c n0 hl nz pr
theorem tgtP {α β : Type} [Py α] [Py β] {v : V} {p : α × β} {i j : Nat} {σ : St} {R : St → Hp → Prop} (zh : Same Z H) (h : Py.R K Z v p) (k : ∀ a, a = p.1 → ∀ b, b = p.2 → ∀ x y, Py.R K Z x a → Py.R K Z y b → R ((σ.set i (some x)).set j (some y)) H) :
    gTup K 2 (gCons (gName i) (gCons (gName j) gNil)) v σ H R := by
  obtain ⟨a, x, y, rfl, hz, hx, hy⟩ := h
  exact ⟨a, [x, y], rfl, SqT.of (zh _ _ hz), rfl, x, [y], rfl, y, [], rfl, rfl, k _ rfl _ rfl x y hx hy⟩
/-- readings that begin with a pair, so that what follows is seen at once -/
def tK (v : V) : TE := fun _ H Q => True ∧ Q v H
theorem pcK {X : Cx} {e : Expr} {v : V} (h : PE X e (tC v)) : PE X e (tK v) := ⟨fun pins s σ H Q I q => h.run pins s σ H Q I q.2⟩
def tNilK : TA := fun _ H Q => True ∧ Q [] H
theorem pnK {X : Cx} : PA X [] tNilK := ⟨fun p pins s σ H Q I q => pa_nil.run p pins s σ H Q I q.2⟩
def tU (t : TE) : TE := fun σ H Q => True ∧ t σ H Q
theorem puK {X : Cx} {e : Expr} {t : TE} (h : PE X e t) : PE X e (tU t) := ⟨fun pins s σ H Q I q => h.run pins s σ H Q I q.2⟩
def tUT (t : TT) : TT := fun σ H Q => True ∧ t σ H Q
theorem ptK {X : Cx} {e : Expr} {t : TT} (h : PT X e t) : PT X e (tUT t) := ⟨fun pins s σ H Q I q => h.run pins s σ H Q I q.2⟩
/-! ### None -/
def optB {α R : Type} (o : Option α) (n : R) (s : α → R) : R := match o with
  | none => n
  | some a => s a
/-- a value that is not None -/
class Nn (α : Type) [Py α] where
  nn : ∀ {K : Fr} {Z : Hp} {v : V} {a : α}, Py.R K Z v a → v ≠ .non
instance : Nn Int := ⟨fun h e => by cases (show _ = V.int _ from h); cases e⟩
instance : Nn Bool := ⟨fun h e => by cases (show _ = V.bl _ from h); cases e⟩
instance : Nn Str := ⟨fun h e => by cases (show _ = V.str _ from h); cases e⟩
instance {α : Type} [Py α] : Nn (List α) := ⟨fun h e => by obtain ⟨a, xs, e2, _⟩ := h; rw [e2] at e; cases e⟩
instance {α β : Type} [Py α] [Py β] : Nn (α × β) := ⟨fun h e => by obtain ⟨a, xs, y, e2, _⟩ := h; rw [e2] at e; cases e⟩
/-! ### comparisons -/
def inS (a b : Str) : Bool := !(Builtin.Str.occurrences b a 0 b.length 1).isEmpty
/-- a list read: told, or one's own -/
def RO {α : Type} [Py α] (K : Fr) (Z H : Hp) (v : V) (l : List α) : Prop := ∃ a xs, v = .ref a ∧ H a = some (.lst xs) ∧ Paired (Py.R K Z) xs l
theorem RO.own {α : Type} [Py α] {p : Addr} {l : List α} (o : Own K H0 Z H p l) : RO K Z H (.ref p) l := let ⟨⟨xs, h, pr⟩, _, _⟩ := o; ⟨p, xs, rfl, h, pr⟩
theorem RO.tell {α : Type} [Py α] {v : V} {l : List α} (zh : Same Z H) (h : Py.R K Z v l) : RO K Z H v l := let ⟨a, xs, e, hz, pr⟩ := h; ⟨a, xs, e, zh _ _ hz, pr⟩
theorem inV_int {ns : List Int} {i : Int} : inV (.int i) (ns.map V.int) = decide (i ∈ ns) := by
  unfold inV
  induction ns with
  | nil => simp
  | cons n r ih =>
    rw [List.map_cons, List.any_cons, ih]
    show ((n == i) || decide (i ∈ r)) = decide (i ∈ n :: r)
    by_cases e : n = i
    · subst e; simp
    · have e2 : ¬ i = n := fun z => e z.symm
      simp [e, e2]
theorem inV_str {ns : List Str} {i : Str} : inV (.str i) (ns.map V.str) = decide (i ∈ ns) := by
  unfold inV
  induction ns with
  | nil => simp
  | cons n r ih =>
    rw [List.map_cons, List.any_cons, ih]
    show ((n == i) || decide (i ∈ r)) = decide (i ∈ n :: r)
    by_cases e : n = i
    · subst e; simp
    · have e2 : ¬ i = n := fun z => e z.symm
      simp [e, e2]
/-- values that stand in lists and are compared plainly -/
class Fl (α : Type) [Sc α] [DecidableEq α] where
  flat : ∀ a : α, flatV (Sc.emb a) = true
  isIn : ∀ (l : List α) (a : α), inV (Sc.emb a) (l.map Sc.emb) = decide (a ∈ l)
instance : Fl Int := ⟨fun _ => rfl, fun l a => inV_int⟩
instance : Fl Str := ⟨fun _ => rfl, fun l a => inV_str⟩
theorem allFlat {α : Type} [Sc α] [DecidableEq α] [Fl α] : ∀ l : List α, (l.map Sc.emb).all flatV = true
  | [] => rfl
  | a :: r => by rw [List.map_cons, List.all_cons, Fl.flat, allFlat r]; rfl
theorem k_inL {α : Type} [Sc α] [DecidableEq α] [Fl α] {v : V} {a : α} {l : List α} (h : RO K Z H v l) (k : Q (.bl (decide (a ∈ l))) H) : rIn K false (Sc.emb a) v H Q := by
  obtain ⟨p, xs, rfl, hl, pr⟩ := h
  obtain rfl := paired_emb pr
  refine ⟨p, _, rfl, .inl (SqL.of hl), Fl.flat a, allFlat l, ?_⟩
  rw [Fl.isIn]
  exact k
theorem k_ninL {α : Type} [Sc α] [DecidableEq α] [Fl α] {v : V} {a : α} {l : List α} (h : RO K Z H v l) (k : Q (.bl (!decide (a ∈ l))) H) : rIn K true (Sc.emb a) v H Q := by
  obtain ⟨p, xs, rfl, hl, pr⟩ := h
  obtain rfl := paired_emb pr
  refine ⟨p, _, rfl, .inl (SqL.of hl), Fl.flat a, allFlat l, ?_⟩
  rw [Fl.isIn]
  exact k
/-! ### == of data -/
class PyD (α : Type) [Py α] [DecidableEq α] where
  d : α → PyData
  dp : ∀ {K : Fr} {Z H : Hp} {v : V} {a : α}, Same Z H → Py.R K Z v a → Dp K H v (d a)
  eqv : ∀ a b : α, PyData.eqv (d a) (d b) = decide (a = b)
  dep : Nat
  depth : ∀ a : α, (d a).depth ≤ dep
instance : PyD Int := ⟨.int, fun _ h => by cases (show _ = V.int _ from h); exact .int _, fun a b => by simp [PyData.eqv]; rfl, 0, fun _ => by simp [PyData.depth]⟩
instance : PyD Bool := ⟨.bool, fun _ h => by cases (show _ = V.bl _ from h); exact .bl _, fun a b => by cases a <;> cases b <;> simp [PyData.eqv], 0, fun _ => by simp [PyData.depth]⟩
instance : PyD Str := ⟨.str, fun _ h => by cases (show _ = V.str _ from h); exact .str _, fun a b => by
  show (a == b) = decide (a = b)
  by_cases e : a = b
  · subst e; simp
  · simp [e], 0, fun _ => by simp [PyData.depth]⟩
theorem dpAll {α : Type} [Py α] [DecidableEq α] [PyD α] (zh : Same Z H) : ∀ {xs : List V} {l : List α}, Paired (Py.R K Z) xs l → DpAll K H xs (l.map PyD.d)
  | _, _, .nil => .nil
  | _, _, .cons r t => .cons (PyD.dp zh r) (dpAll zh t)
theorem eqvAll_map {α : Type} [Py α] [DecidableEq α] [PyD α] : ∀ l m : List α, PyData.eqvAll (l.map PyD.d) (m.map PyD.d) = decide (l = m)
  | [], [] => by simp [PyData.eqvAll]
  | [], _ :: _ => by simp [PyData.eqvAll]
  | _ :: _, [] => by simp [PyData.eqvAll]
  | a :: r, b :: s => by
    rw [List.map_cons, List.map_cons]
    show (PyData.eqv (PyD.d a) (PyD.d b) && PyData.eqvAll (r.map PyD.d) (s.map PyD.d)) = _
    rw [PyD.eqv, eqvAll_map r s]
    by_cases e : a = b
    · subst e; by_cases e2 : r = s
      · subst e2; simp
      · simp [e2]
    · simp [e]
theorem depthAll_map {α : Type} [Py α] [DecidableEq α] [PyD α] : ∀ l : List α, PyData.depthAll (l.map PyD.d) ≤ PyD.dep α
  | [] => Nat.zero_le _
  | a :: r => by
    rw [List.map_cons]
    show max (PyD.d a).depth (PyData.depthAll (r.map PyD.d)) ≤ _
    exact Nat.max_le.mpr ⟨PyD.depth a, depthAll_map r⟩
instance {α : Type} [Py α] [DecidableEq α] [PyD α] : PyD (List α) where
  d l := .list (l.map PyD.d)
  dp := fun zh h => by
    obtain ⟨a, xs, rfl, hz, p⟩ := h
    exact .lst (SqL.of (zh _ _ hz)) (dpAll zh p)
  eqv := fun l m => eqvAll_map l m
  dep := PyD.dep α + 1
  depth := fun l => Nat.succ_le_succ (depthAll_map l)
instance {α β : Type} [Py α] [DecidableEq α] [PyD α] [Py β] [DecidableEq β] [PyD β] : PyD (α × β) where
  d p := .tuple [PyD.d p.1, PyD.d p.2]
  dp := fun zh h => by
    obtain ⟨a, x, y, rfl, hz, hx, hy⟩ := h
    exact .tup (SqT.of (zh _ _ hz)) (.cons (PyD.dp zh hx) (.cons (PyD.dp zh hy) .nil))
  eqv := fun p q => by
    show (PyData.eqv (PyD.d p.1) (PyD.d q.1) && (PyData.eqv (PyD.d p.2) (PyD.d q.2) && PyData.eqvAll [] [])) = _
    rw [PyD.eqv, PyD.eqv]
    obtain ⟨a, b⟩ := p
    obtain ⟨a', b'⟩ := q
    by_cases e : a = a'
    · subst e; by_cases e2 : b = b'
      · subst e2; simp [PyData.eqvAll]
      · simp [e2]
    · simp [e]
  dep := max (PyD.dep α) (PyD.dep β) + 1
  depth := fun p => by
    show max (PyD.d p.1).depth (max (PyD.d p.2).depth 0) + 1 ≤ _
    have h1 := PyD.depth p.1
    have h2 := PyD.depth p.2
    omega
/-- a value that may be None, beside data that is never None -/
class PyN (α : Type) [Py α] [DecidableEq α] [PyD α] where
  n1 : ∀ a : α, PyData.eqv .none (PyD.d a) = false
  n2 : ∀ a : α, PyData.eqv (PyD.d a) .none = false
instance : PyN Int := ⟨fun _ => by simp [PyD.d, PyData.eqv], fun _ => by simp [PyD.d, PyData.eqv]⟩
instance : PyN Bool := ⟨fun _ => by simp [PyD.d, PyData.eqv], fun _ => by simp [PyD.d, PyData.eqv]⟩
instance : PyN Str := ⟨fun _ => by simp [PyD.d, PyData.eqv], fun _ => by simp [PyD.d, PyData.eqv]⟩
instance {α : Type} [Py α] [DecidableEq α] [PyD α] : PyN (List α) := ⟨fun _ => by simp [PyD.d, PyData.eqv], fun _ => by simp [PyD.d, PyData.eqv]⟩
instance {α β : Type} [Py α] [DecidableEq α] [PyD α] [Py β] [DecidableEq β] [PyD β] : PyN (α × β) := ⟨fun _ => by simp [PyD.d, PyData.eqv], fun _ => by simp [PyD.d, PyData.eqv]⟩
instance {α : Type} [Py α] [DecidableEq α] [PyD α] [PyN α] : PyD (Option α) where
  d o := match o with
    | none => .none
    | some a => PyD.d a
  dp := fun {K Z H v a} zh h => by
    cases a with
    | none => cases (show v = V.non from h); exact .non
    | some a => exact PyD.dp zh (show Py.R K Z v a from h)
  eqv := fun a b => by
    cases a with
    | none => cases b with
      | none => simp [PyData.eqv]
      | some b => simp [PyN.n1]
    | some a => cases b with
      | none => simp [PyN.n2]
      | some b => show PyData.eqv (PyD.d a) (PyD.d b) = _; rw [PyD.eqv]; simp
  dep := PyD.dep α
  depth := fun a => by
    cases a with
    | none => simp [PyData.depth]
    | some a => exact PyD.depth a
/-- x tells the data a -/
def Pd {α : Type} [Py α] [DecidableEq α] [PyD α] (K : Fr) (H : Hp) (x : V) (a : α) : Prop := Dp K H x (PyD.d a)
theorem Pd.ref {α : Type} [Py α] [DecidableEq α] [PyD α] {v : V} {a : α} (zh : Same Z H) (h : Py.R K Z v a) : Pd K H v a := PyD.dp zh h
theorem Pd.int (i : Int) : Pd K H (.int i) i := Dp.int i
theorem Pd.str (i : Str) : Pd K H (.str i) i := Dp.str i
theorem Pd.bl (i : Bool) : Pd K H (.bl i) i := Dp.bl i
theorem Pd.none {α : Type} [Py α] [DecidableEq α] [PyD α] [PyN α] : Pd K H .non (none : Option α) := .non
theorem Pd.some {α : Type} [Py α] [DecidableEq α] [PyD α] [PyN α] {v : V} {a : α} (h : Pd K H v a) : Pd K H v (some a) := h
theorem Pd.own {α : Type} [Py α] [DecidableEq α] [PyD α] {p : Addr} {l : List α} (c : Step Z0 H0 Z H) (o : Own K H0 Z H p l) : Pd K H (.ref p) l := by
  obtain ⟨⟨xs, h, pr⟩, _, _⟩ := o
  exact .lst (SqL.of h) (dpAll c.zh pr)
def okD {α : Type} [Py α] [DecidableEq α] [PyD α] (a : α) : Bool := (PyD.d a).canLay0
@[simp] theorem okD_int (i : Int) : okD i = true := by simp [okD, PyD.d, PyData.canLay0]
@[simp] theorem okD_bool (i : Bool) : okD i = true := by simp [okD, PyD.d, PyData.canLay0]
@[simp] theorem okD_none {α : Type} [Py α] [DecidableEq α] [PyD α] [PyN α] : okD (none : Option α) = true := by simp [okD, PyD.d, PyData.canLay0]
@[simp] theorem okD_some {α : Type} [Py α] [DecidableEq α] [PyD α] [PyN α] (a : α) : okD (some a) = okD a := rfl
/-! ### isinstance of a built-in class -/
inductive Pt (K : Fr) (H : Hp) : V → String → Prop where
  | of {v : V} {t : String} (h : TyX K H v (.type t)) : Pt K H v t
theorem Pt.int (i : Int) : Pt K H (.int i) "int" := .of (.base (.int i))
theorem Pt.bl (i : Bool) : Pt K H (.bl i) "bool" := .of (.base (.bl i))
theorem Pt.str (i : Str) : Pt K H (.str i) "str" := .of (.base (.str i))
theorem Pt.non (i : Unit) : Pt K H .non "NoneType" := .of (.base .non)
theorem Pt.own {α : Type} [Py α] {p : Addr} {l : List α} (o : Own K H0 Z H p l) : Pt K H (.ref p) "list" := let ⟨⟨_, h, _⟩, _, _⟩ := o; .of (.base (.lst h))
theorem Pt.list {α : Type} [Py α] {v : V} {l : List α} (zh : Same Z H) (h : Py.R K Z v l) : Pt K H v "list" := by
  obtain ⟨a, xs, rfl, hz, p⟩ := h
  exact .of (.base (.lst (zh _ _ hz)))
theorem Pt.tuple {α β : Type} [Py α] [Py β] {v : V} {l : α × β} (zh : Same Z H) (h : Py.R K Z v l) : Pt K H v "tuple" := by
  obtain ⟨a, x, y, rfl, hz, p⟩ := h
  exact .of (.base (.tup (zh _ _ hz)))
theorem k_isi {v : V} {t c : String} {b : Bool} (h : Pt K H v t) (hk : kitB t c = some b) (k : Q (.bl b) H) : rIsi K [v, .ty c] H Q := by
  obtain ⟨h⟩ := h
  exact ⟨v, .ty c, .type t, .type c, b, rfl, .ty c, h, kit_ty hk, k⟩
/-! ### relations by name -/
def rLenQ (K : Fr) : List V → Hp → VK → Prop := fun xs H Q => ∃ p ys, xs = [V.ref p] ∧ (SqL K H p ys ∨ SqT K H p ys) ∧ Q (.int ys.length) H
def rListQ (K : Fr) : List V → Hp → VK → Prop := fun xs H Q => ∃ p ys, xs = [V.ref p] ∧ (SqL K H p ys ∨ SqT K H p ys) ∧ ∀ l, H l = none → Q (.ref l) (upd H l (.lst ys))
def rIntQ : List V → Hp → VK → Prop := fun xs H Q => ∃ a n, xs = [V.str a] ∧ PySem.intText? a = some n ∧ a.length ≤ 640 ∧ Q (.int n) H
def rJoinQ (K : Fr) : V → List V → Hp → VK → Prop := fun x xs H Q => ∃ a p, ∃ ys : List Str, x = .str a ∧ xs = [.ref p] ∧ (SqL K H p (ys.map V.str) ∨ SqT K H p (ys.map V.str)) ∧ (ys.map (·.length)).sum + ys.length * a.length ≤ 16777216 ∧ Q (.str (Txt.join a ys)) H
def rLstQ : List V → Hp → VK → Prop := fun xs H Q => xs.length ≤ sizeLine ∧ ∀ p, H p = none → Q (.ref p) (upd H p (.lst xs))
def rTupQ : List V → Hp → VK → Prop := fun xs H Q => xs.length ≤ sizeLine ∧ ∀ p, H p = none → Q (.ref p) (upd H p (.tup xs))
def tLstQ (t : TA) : TE := fun σ H Q => t σ H fun xs H1 => rLstQ xs H1 Q
def tTupQ (t : TA) : TE := fun σ H Q => t σ H fun xs H1 => rTupQ xs H1 Q
section
variable {X : Cx} {es : List Expr} {t : TA} {pos : Pos}
theorem call_lenQ : CallR X (.builtin "len") (rLenQ X.K) := call_len_seq
theorem call_listQ : CallR X (.type "list") (rListQ X.K) := call_list_of
theorem mt_joinQ : MtR X "str.join" (rJoinQ X.K) := mt_join
theorem pe_lstQ (h : PA X es t) : PE X (.List es pos) (tLstQ t) := pe_lst h
theorem pe_tupQ {x1} (h : PA X es t) : PE X (.Tuple es x1 pos) (tTupQ t) := pe_tup h
end
theorem k_lenQ {α : Type} [Py α] {v : V} {l : List α} (zh : Same Z H) (h : Py.R K Z v l) (k : Q (.int (l.length : Int)) H) : rLenQ K [v] H Q := k_len zh h k
theorem k_lenRQ {v : V} {l : Scr} (zh : Same Z H) (h : Py.R K Z v l) (k : Q (.int (l.ns.length : Int)) H) : rLenQ K [v] H Q := k_lenR zh h k
theorem k_listQ {α : Type} [Py α] {v : V} {l : List α} (zh : Same Z H) (h : Py.R K Z v l) (k : New K Z H Q l) : rListQ K [v] H Q := k_listL zh h k
theorem k_lst {α : Type} [Py α] {xs : List V} {m : List α} (zh : Same Z H) (pr : Paired (Py.R K Z) xs m) (hs : xs.length ≤ sizeLine) (k : New K Z H Q m) : rLstQ xs H Q := k_list zh pr hs k
theorem k_tup {α β : Type} [Py α] [Py β] {x y : V} {a : α} {b : β} (zh : Same Z H) (hx : Py.R K Z x a) (hy : Py.R K Z y b) (k : Tel K Z H Q (a, b)) : rTupQ [x, y] H Q := k_pair zh hx hy k
/-! ### more operations -/
def min2 (i j : Int) : Int := if j < i then j else i
def max2 (i j : Int) : Int := if j > i then j else i
def intS (s : Str) : Int := (PySem.intText? s).getD 0
def toStr (i : Int) : Str := (toString i : String)
theorem k_join {v : V} {a : Str} {l : List Str} (zh : Same Z H) (h : Py.R K Z v l) (hs : (l.map (·.length)).sum + l.length * a.length ≤ 16777216) (k : Q (.str (Txt.join a l)) H) : rJoinQ K (.str a) [v] H Q := by
  obtain ⟨p, xs, rfl, hz, pr⟩ := h
  obtain rfl := paired_emb pr
  exact ⟨a, p, l, rfl, rfl, .inl (SqL.of (zh _ _ hz)), hs, k⟩
def insI {α : Type} (l : List α) (i : Int) (a : α) : List α := l.take i.toNat ++ [a] ++ l.drop i.toNat
end
/-! ### loops by their kinds -/
section
variable {K : Fr} {J : It} {tb : TS} {D : Ends} {σ : St} {H Z : Hp}
end
end Cd

set_option Elab.async false
set_option linter.all false
set_option maxRecDepth 100000
set_option maxHeartbeats 4000000
/-! ## Plain facts of texts, lists and loops -/
namespace Cd
open PySem L2
def codes (s : Str) : List Nat := s.cps.toList
def sg (c : Nat) : Str := ⟨#[c]⟩
def mk (l : List Nat) : Str := ⟨l.toArray⟩
theorem codes_mk (l : List Nat) : codes (mk l) = l := by simp [codes, mk]
theorem mk_codes (s : Str) : mk (codes s) = s := by simp [codes, mk]
theorem codes_inj {a b : Str} (h : codes a = codes b) : a = b := by rw [← mk_codes a, h, mk_codes]
theorem len_codes (s : Str) : s.length = (codes s).length := by simp [codes, Str.length]
theorem codes_app (a b : Str) : codes (a ++ b) = codes a ++ codes b := by
  show ((a.cps ++ b.cps).toList) = _
  simp [codes]
theorem codes_sg (c : Nat) : codes (sg c) = [c] := rfl
theorem len_app (a b : Str) : (a ++ b).length = a.length + b.length := Str.length_append a b
theorem len_chS (z : Str) (i : Int) : (chS z i).length = 1 := rfl
/-! ### places -/
theorem atI_nat {α : Type} {l : List α} {i : Int} (h0 : 0 ≤ i) (h1 : i < l.length) : atI l i = l[i.toNat]? := by
  unfold atI ixN
  rw [if_pos h0, if_pos h1]
  rfl
theorem getI_nat {α : Type} [Inhabited α] {l : List α} {i : Int} (h0 : 0 ≤ i) (h1 : i < l.length) : getI l i = l[i.toNat]'(by omega) := by
  unfold getI
  rw [atI_nat h0 h1, List.getElem?_eq_getElem (by omega)]
  rfl
theorem getI_eq {α : Type} [Inhabited α] {l : List α} {i : Int} {a : α} (h0 : 0 ≤ i) (h : l[i.toNat]? = some a) : getI l i = a := by
  have h1 := (List.getElem?_eq_some_iff.mp h).1
  rw [getI_nat h0 (by omega)]
  exact (List.getElem?_eq_some_iff.mp h).2
theorem getI_mem {α : Type} [Inhabited α] {l : List α} {i : Int} (h : inR l.length i) : getI l i ∈ l := by
  have e := atI_get h
  unfold atI at e
  obtain ⟨j, hj, hl⟩ := ixN_some h
  rw [hj] at e
  exact List.mem_of_getElem? e
theorem chS_nat {z : Str} {i : Int} (h0 : 0 ≤ i) (h1 : i < (z.length : Int)) : chS z i = sg ((codes z)[i.toNat]'(by rw [← len_codes]; omega)) := by
  have h2 : i < ((codes z).length : Int) := by rw [← len_codes]; exact h1
  unfold chS sg
  rw [show z.cps.toList = codes z from rfl, atI_nat h0 h2, List.getElem?_eq_getElem (by omega)]
  rfl
theorem chS_mem {z : Str} {i : Int} (h0 : 0 ≤ i) (h1 : i < (z.length : Int)) : ∃ c ∈ codes z, chS z i = sg c := ⟨_, List.getElem_mem _, chS_nat h0 h1⟩
theorem chars_codes (z : Str) : chars z = (codes z).map sg := rfl
theorem mem_chars {z x : Str} (h : x ∈ chars z) : ∃ c ∈ codes z, x = sg c := by
  rw [chars_codes, List.mem_map] at h
  obtain ⟨c, hc, e⟩ := h
  exact ⟨c, hc, e.symm⟩
/-! ### pieces -/
theorem sIx_some {n d : Nat} {i : Int} (h : 0 ≤ i) : HT.sIx n d (some i) = min i.toNat n := by
  obtain ⟨k, rfl⟩ := Int.eq_ofNat_of_zero_le h
  rw [HT.sIx_nat]
  rfl
theorem codes_cut (z : Str) (lo hi : Option Int) : codes (cutS z lo hi) = cutL (codes z) lo hi := by
  unfold cutS cutL codes
  simp [Str.length]
theorem cutL_from {α : Type} {l : List α} {i : Int} (hi : 0 ≤ i) : cutL l (some i) none = l.drop i.toNat := by
  unfold cutL
  rw [sIx_some hi, HT.sIx_none]
  by_cases h1 : i.toNat ≤ l.length
  · rw [Nat.min_eq_left h1, List.take_of_length_le (by rw [List.length_drop]; exact Nat.le_refl _)]
  · rw [Nat.min_eq_right (by omega), List.drop_length, List.drop_eq_nil_of_le (by omega)]
    simp
theorem cutL_to {α : Type} {l : List α} {j : Int} (hj : 0 ≤ j) : cutL l none (some j) = l.take j.toNat := by
  unfold cutL
  rw [sIx_some hj, HT.sIx_none]
  show (l.drop 0).take (min j.toNat l.length - 0) = _
  rw [List.drop_zero, Nat.sub_zero]
  by_cases h1 : j.toNat ≤ l.length
  · rw [Nat.min_eq_left h1]
  · rw [Nat.min_eq_right (by omega), List.take_length, List.take_of_length_le (by omega)]
theorem cutL_len_le {α : Type} (l : List α) (lo hi : Option Int) : (cutL l lo hi).length ≤ l.length := by
  unfold cutL
  rw [List.length_take, List.length_drop]
  omega
theorem cutL_mem {α : Type} {l : List α} {lo hi : Option Int} {x : α} (h : x ∈ cutL l lo hi) : x ∈ l := List.mem_of_mem_drop (List.mem_of_mem_take h)
/-! ### one sign in a text -/
theorem inS_sg (c : Nat) (z : Str) : inS (sg c) z = decide (c ∈ codes z) := PySem.StrLaws.found_one z c
/-! ### loops -/
end Cd

set_option Elab.async false
set_option linter.all false
set_option maxRecDepth 100000
set_option maxHeartbeats 4000000
/-! ## Comprehensions by their kinds, more operations -/
namespace Cd
open PySem L2 PyProof.Rows
def lcRest (J : It) (g : TG) (tt : TT) (te : TE) (vs : List Nat) (Q : VK) (σ : L2.St) (H1 : Hp) : Prop := ∀ D, H1 D = none → ∃ W : Nat → Nat → Hp → Prop, (∃ m, W 0 m (upd H1 D (.lst []))) ∧ ∀ i m H, W i m H →
  (J.stop i H ∧ Q (.ref D) H) ∨ (J.go i H ∧ ∃ Nx : Hp → Prop, (∀ H', Nx H' → ∃ m', m' < m ∧ W (i + 1) m' H') ∧ ∀ x H', J.yld i H x H' → g x (wipe σ vs) H' fun σ2 H2 => wipe σ2 vs = wipe σ vs ∧ tt σ2 H2 fun b H3 =>
    if b = true then te σ2 H3 fun y H4 => ∃ acc, H4 D = some (.lst acc) ∧ acc.length < sizeLine ∧ Nx (upd H4 D (.lst (acc ++ [y]))) else Nx H3)
def tLcQ (wi : TI) (g : TG) (tt : TT) (te : TE) (vs : List Nat) : TE := fun σ H Q => wi σ H fun J H1 => lcRest J g tt te vs Q σ H1
section
variable {X : Cx}
theorem pe_lcQ {elt tg iter : Expr} {ifs : List Expr} {scope : Scope} {own : List (Str × Nat)} {pos : Pos} {wi : TI} {g : TG} {tt : TT} {te : TE} (hc : X.calm = true) (hN : X.N.Nodup) (hi : PI X tg iter wi) (ok : BlkOk X.N X.env.scope scope own)
    (hg : ∀ (s : Shared) (H : Hp) (C : Addr) (cl : List (Str × Addr)) (fp : List Addr), PG (X.blk s H scope (compEnvC scope cl C X.env) fp) tg g) (ht : ∀ (s : Shared) (H : Hp) (C : Addr) (cl : List (Str × Addr)) (fp : List Addr), PTs (X.blk s H scope (compEnvC scope cl C X.env) fp) ifs tt)
    (he : ∀ (s : Shared) (H : Hp) (C : Addr) (cl : List (Str × Addr)) (fp : List Addr), PE (X.blk s H scope (compEnvC scope cl C X.env) fp) elt te) (hs : ∀ x, foldedSetIterable iter X.env x = pure x := by intro _; rfl) :
    PE X (.ListComp elt [⟨tg, iter, ifs, 0⟩] scope pos) (tLcQ wi g tt te (own.map (·.2))) := pe_lc hc hN hi ok hg ht he hs
theorem ps_setLcQ {i : Nat} {y : Str} {py : Pos} {elt tg iter : Expr} {ifs : List Expr} {scope : Scope} {own : List (Str × Nat)} {pos spos : Pos} {wi : TI} {g : TG} {tt : TT} {te : TE} (hc : X.calm = true) (hN : X.N.Nodup) (hy : X.N[i]? = some y) (hyl : X.env.scope.names.lookup y = some .local)
    (hsw : swapsWith (.ListComp elt [⟨tg, iter, ifs, 0⟩] scope pos) (some (.Name y py)) spos.line X.env = pure true) (hi : PI X tg iter wi) (ok : BlkOk X.N X.env.scope scope own)
    (hg : ∀ (s : Shared) (H : Hp) (C : Addr) (cl : List (Str × Addr)) (fp : List Addr), PG (X.blk s H scope (compEnvC scope cl C X.env) fp) tg g) (ht : ∀ (s : Shared) (H : Hp) (C : Addr) (cl : List (Str × Addr)) (fp : List Addr), PTs (X.blk s H scope (compEnvC scope cl C X.env) fp) ifs tt)
    (he : ∀ (s : Shared) (H : Hp) (C : Addr) (cl : List (Str × Addr)) (fp : List Addr), PE (X.blk s H scope (compEnvC scope cl C X.env) fp) elt te) (hs : ∀ x, foldedSetIterable iter X.env x = pure x := by intro _; rfl) :
    PS X (.Assign [.Name y py] (.ListComp elt [⟨tg, iter, ifs, 0⟩] scope pos) spos) (tAsg (tLcQ wi g tt te (own.map (·.2))) (gName i)) := ps_setLc hc hN hy hyl hsw hi ok hg ht he hs
end
section
variable {K : Fr} {J : It} {tt : TT} {te : TE} {σ : L2.St} {H Z : Hp} {vs : List Nat} {Q : VK}
theorem New.all {γ β : Type} [Py β] {L : List γ} {f : γ → β} (k : New K Z H Q (L.map f)) : New K Z H Q ((L.filter fun _ => true).map f) := by
  rw [show (L.filter fun _ => true) = L from List.filter_eq_self.mpr fun _ _ => rfl]
  exact k
end
section
variable {K : Fr} {Z H Z0 H0 : Hp} {Q : VK}
theorem join_ok {l : List Str} {a : Str} {n : Nat} (h : ∀ x ∈ l, x.length ≤ n) (h2 : l.length * n + l.length * a.length ≤ 16777216) : (l.map (·.length)).sum + l.length * a.length ≤ 16777216 := by
  have := PySem.StrLaws.sumLen_le l h
  omega
theorem eqF {b : Bool} (h : ¬ b = true) : b = false := by cases b with | true => exact absurd rfl h | false => rfl
theorem yesK {te : TE} {σ : L2.St} {H : Hp} {C : VK} {N : Hp → Prop} (h : te σ H C) : tYes σ H fun b H4 => if b = true then te σ H4 C else N H4 := by
  show (if true = true then te σ H C else N H)
  rw [if_pos rfl]
  exact h
theorem setI_nat {α : Type} {l : List α} {i : Int} {a : α} (h0 : 0 ≤ i) (h1 : i < l.length) : setI l i a = l.set i.toNat a := by
  unfold setI ixN
  rw [if_pos h0, if_pos h1]
/-! ### join -/
theorem join_nil : ∀ l : List Str, codes (Txt.join "" l) = (l.map codes).flatten := by
  have e : codes "" = [] := by decide +kernel
  have key : ∀ l : List Str, codes (Str.join "" l) = (l.map codes).flatten := by
    intro l
    induction l with
    | nil => rfl
    | cons x r ih =>
      cases r with
      | nil => simp [Str.join]
      | cons y r =>
        show codes (x ++ "" ++ Str.join "" (y :: r)) = _
        rw [codes_app, codes_app, ih, e, List.append_nil]
        simp
  intro l
  rw [show Txt.join "" l = Str.join "" l from PySem.StrLaws.glued_eq_join "" l]
  exact key l
theorem join_sg (l : List Nat) : Txt.join "" (l.map sg) = mk l := by
  apply codes_inj
  rw [join_nil, codes_mk, List.map_map]
  induction l with
  | nil => rfl
  | cons c r ih => rw [List.map_cons, List.flatten_cons, ih]; rfl
/-! ### xs[::-1] -/
def rRevQ (K : Fr) : V → Hp → VK → Prop := fun x H Q => ∃ a xs, x = .ref a ∧ SqL K H a xs ∧ ∀ p, H p = none → Q (.ref p) (upd H p (.lst xs.reverse))
def tRevQ (K : Fr) (te : TE) : TE := fun σ H Q => te σ H fun x H1 => rRevQ K x H1 Q
/-! ### divmod -/
def rDmQ : List V → Hp → VK → Prop := fun xs H Q => ∃ i j, xs = [.int i, .int j] ∧ CDiv i j ∧ ∀ p, H p = none → Q (.ref p) (upd H p (.tup [.int (i / j), .int (i % j)]))
/-! ### str(n) -/
def rStrQ : List V → Hp → VK → Prop := fun xs H Q => ∃ i, xs = [V.int i] ∧ i.natAbs.log2 < 1920 ∧ Q (.str (toStr i)) H
theorem call_strQ {X : Cx} : CallR X (.type "str") rStrQ := call_str_int
theorem toStr_codes (m : Nat) : codes (toStr (m : Int)) = (Nat.toDigits 10 m).map Char.toNat := PySem.W.KIN.signs_num m
theorem toDigits_len : ∀ (k m : Nat), m < 10 ^ (k + 1) → (Nat.toDigits 10 m).length ≤ k + 1 := fun k m h => by
  rw [Nat.length_toDigits_le_iff (by decide) (Nat.succ_pos k)]
  exact h
theorem toStr_len {i : Int} (k : Nat) (h0 : 0 ≤ i) (h1 : i < 10 ^ (k + 1)) : (toStr i).length ≤ k + 1 := by
  obtain ⟨m, rfl⟩ := Int.eq_ofNat_of_zero_le h0
  rw [len_codes, toStr_codes, List.length_map]
  exact toDigits_len k m (by
    have : ((10 ^ (k + 1) : Nat) : Int) = (10 : Int) ^ (k + 1) := by simp
    omega)
/-! ### great numbers -/
/-! ### [x] * n -/
def repL {α : Type} (l : List α) (n : Int) : List α := (List.replicate n.toNat l).flatten
theorem Paired.rep {α β : Type} {F : α → β → Prop} {l : List α} {m : List β} (p : Paired F l m) : ∀ n : Nat, Paired F (List.replicate n l).flatten (List.replicate n m).flatten
  | 0 => .nil
  | n + 1 => by
    rw [List.replicate_succ, List.replicate_succ, List.flatten_cons, List.flatten_cons]
    exact p.pApp (Paired.rep p n)
theorem k_rep {α : Type} [Py α] {v : V} {l : List α} {n : Int} (zh : Same Z H) (h : RO K Z H v l) (h0 : -(2 ^ 63) ≤ n) (h1 : n < 2 ^ 63) (hs : l.length * n.toNat ≤ sizeLine) (k : New K Z H Q (repL l n)) : rRep v (.int n) H Q := by
  obtain ⟨a, xs, rfl, hl, pr⟩ := h
  exact ⟨a, n, xs, rfl, rfl, hl, h0, h1, by rw [pr.pLen]; exact hs, New.lay zh (Paired.rep pr _) k⟩
/-! ### insert, pop, l[i] += x -/
end
/-! ### while -/
/-- the mirror's while: n bounds the turns -/
def whileS {S : Type} (c : S → Bool) (f : S → S) : Nat → S → S
  | 0, s => s
  | n + 1, s => if c s = true then whileS c f n (f s) else s
def whRest (c : TT) (tb : TS) (D : Ends) (σ : L2.St) (H : Hp) : Prop := ∃ W : Nat → L2.St → Hp → Prop, (∃ m, W m σ H) ∧ ∀ m σ H, W m σ H →
  c σ H fun b H1 => if b = true then ∃ N : L2.St → Hp → Prop, (∀ σ' H', N σ' H' → ∃ m', m' < m ∧ W m' σ' H') ∧ tb { D with nx := N, ct := N, bk := D.nx } σ H1 else D.nx σ H1
end Cd
namespace Cd
open PySem L2 PyProof.Rows
section
variable {K : Fr} {J : It} {tb : TS} {D : Ends} {σ : L2.St} {H Z : Hp}
end
section
variable {K : Fr} {J : It} {tt : TT} {te : TE} {σ : L2.St} {H Z : Hp} {vs : List Nat} {Q : VK}
end
end Cd
namespace Cd
open PySem L2
end Cd

set_option Elab.async false
set_option linter.all false
set_option maxRecDepth 100000
set_option maxHeartbeats 4000000
namespace Cd
open PySem L2 PyProof.Rows
/-! ### times -/
theorem op_mulC {X : Cx} : OpR X (binaryOp .Mult) (rI IntMulOk fun i j => .int (i * j)) := opI fun _ _ _ _ _ _ _ hc q => mul_int q hc
theorem mulL {i j : Int} (h : -(2 ^ 64) < i ∧ i < 2 ^ 64) : IntMulOk i j := CMul.ok (.inl h)
theorem mulR {i j : Int} (h : -(2 ^ 64) < j ∧ j < 2 ^ 64) : IntMulOk i j := CMul.ok (.inr h)
/-- a text times a number -/
def rMulS : R2 := fun x y H Q => ∃ (a : Str) (n : Int), x = .str a ∧ y = .int n ∧ -(2 ^ 31) ≤ n ∧ n < 2 ^ 31 ∧ a.length * n.toNat ≤ 16777216 ∧ Q (.str (Txt.mul a n)) H
theorem mulOk {a : Str} {n : Int} (h0 : -(2 ^ 31) ≤ n) (h1 : n < 2 ^ 31) (h2 : a.length * n.toNat ≤ 16777216) : MulOk a n := by
  refine ⟨?_, fun hn hc => ?_, fun hn hc => ?_⟩
  · rw [decide_eq_false (by omega), decide_eq_false (by omega)]; rfl
  · have hp : 0 < n := by omega
    intro hg
    have h3 : ((a.length : Int)) ≤ 16777216 := by
      have : a.length * 1 ≤ a.length * n.toNat := Nat.mul_le_mul_left _ (by omega)
      omega
    have h4 : (16777216 : Int) ≤ (2 ^ 63 - 1) / n := by
      rw [Int.le_ediv_iff_mul_le hp]
      omega
    omega
  · have e : sizeLine = 16777216 := by decide
    exact decide_eq_false (by omega)
theorem op_mul_str {X : Cx} : OpR X (binaryOp .Mult) rMulS := by
  intro pins s σ H x y v u Q I rx ry h
  obtain ⟨a, n, rfl, rfl, h0, h1, h2, q⟩ := h
  obtain ⟨t, rfl⟩ := rx
  obtain ⟨t', rfl⟩ := ry
  exact SB.mul (mulOk h0 h1 h2) fun t' k => ⟨.str (Txt.mul a n), H, I.tok _, ⟨_, rfl⟩, q⟩
theorem foldl_app {α : Type} : ∀ (l : List (Array α)) (z : Array α), (l.foldl (· ++ ·) z).toList = z.toList ++ (l.map Array.toList).flatten
  | [], z => by simp
  | a :: r, z => by rw [List.foldl_cons, foldl_app r]; simp
theorem codes_mul (a : Str) (n : Int) : codes (Txt.mul a n) = (List.replicate n.toNat (codes a)).flatten := by
  unfold Txt.mul
  by_cases h1 : n < 1
  · rw [if_pos h1, show n.toNat = 0 by omega]; rfl
  · rw [if_neg h1]
    by_cases h2 : (n == 1 || a.length == 0) = true
    · rw [if_pos h2]
      rw [Bool.or_eq_true] at h2
      rcases h2 with h2 | h2
      · have : n = 1 := by simpa using h2
        subst this
        simp
      · have h3 : (codes a).length = 0 := by rw [← len_codes]; simpa using h2
        have h4 := List.eq_nil_of_length_eq_zero h3
        rw [h4]
        simp
    · rw [if_neg h2]
      show (List.foldl (· ++ ·) #[] _).toList = _
      rw [foldl_app, List.map_replicate]
      simp [codes]
theorem len_mul (a : Str) (n : Int) : (Txt.mul a n).length = n.toNat * a.length := by
  rw [len_codes, codes_mul, len_codes]
  induction n.toNat with
  | zero => simp
  | succ m ih => rw [List.replicate_succ, List.flatten_cons, List.length_append, ih, Nat.add_mul]; omega
/-! ### int(true) -/
def b2i (b : Bool) : Int := if b then 1 else 0
def rIntB : List V → Hp → VK → Prop := fun xs H Q => ∃ k, xs = [.bl k] ∧ Q (.int (b2i k)) H
section
variable {K : Fr} {Z H Z0 H0 : Hp} {Q : VK}
/-! ### pop -/
def delI {α : Type} (l : List α) (i : Int) : List α := match ixN l.length i with | some j => l.eraseIdx j | none => l
end
end Cd
namespace PySem
open L2 Cd
end PySem
namespace Cd
open PySem L2 PyProof.Rows
section
variable {K : Fr} {Z H Z0 H0 : Hp} {Q : VK}
end
/-! ### tuples of three and four -/
structure T3 (α β γ : Type) where
  x1 : α
  x2 : β
  x3 : γ
deriving DecidableEq, Inhabited
structure T4 (α β γ δ : Type) where
  x1 : α
  x2 : β
  x3 : γ
  x4 : δ
deriving DecidableEq, Inhabited
instance {α β γ : Type} [Py α] [Py β] [Py γ] : Py (T3 α β γ) where
  R K Z v p := ∃ a x y z, v = .ref a ∧ Z a = some (.tup [x, y, z]) ∧ Py.R K Z x p.x1 ∧ Py.R K Z y p.x2 ∧ Py.R K Z z p.x3
  mono := fun {K Z Z' v l} s h => by
    obtain ⟨a, x, y, z, e, hz, p, q, r⟩ := h
    exact ⟨a, x, y, z, e, s _ _ hz, Py.mono s p, Py.mono s q, Py.mono s r⟩
instance {α β γ δ : Type} [Py α] [Py β] [Py γ] [Py δ] : Py (T4 α β γ δ) where
  R K Z v p := ∃ a x y z w, v = .ref a ∧ Z a = some (.tup [x, y, z, w]) ∧ Py.R K Z x p.x1 ∧ Py.R K Z y p.x2 ∧ Py.R K Z z p.x3 ∧ Py.R K Z w p.x4
  mono := fun {K Z Z' v l} s h => by
    obtain ⟨a, x, y, z, w, e, hz, p, q, r, t⟩ := h
    exact ⟨a, x, y, z, w, e, s _ _ hz, Py.mono s p, Py.mono s q, Py.mono s r, Py.mono s t⟩
/-- a pick or a deal: the third item may be lacking -/
structure TO (α β γ : Type) where
  x1 : α
  x2 : β
  x3 : Option γ
deriving DecidableEq, Inhabited
instance {α β γ : Type} [Py α] [Py β] [Py γ] : Py (TO α β γ) where
  R K Z v p := ∃ a x y, v = .ref a ∧ Py.R K Z x p.x1 ∧ Py.R K Z y p.x2 ∧ match p.x3 with
    | none => Z a = some (.tup [x, y])
    | some c => ∃ z, Z a = some (.tup [x, y, z]) ∧ Py.R K Z z c
  mono := fun {K Z Z' v l} s h => by
    obtain ⟨x1, x2, x3⟩ := l
    obtain ⟨a, x, y, e, p, q, r⟩ := h
    refine ⟨a, x, y, e, Py.mono s p, Py.mono s q, ?_⟩
    cases x3 with
    | none => exact s _ _ r
    | some c =>
      obtain ⟨z, hz, h⟩ := r
      exact ⟨z, s _ _ hz, Py.mono s h⟩
section
variable {K : Fr} {Z H Z0 H0 : Hp} {Q : VK} {α β γ δ : Type} [Py α] [Py β] [Py γ] [Py δ]
end
/-! ### data equality of these -/
theorem Pt.t3 {K : Fr} {Z H : Hp} {α β γ : Type} [Py α] [Py β] [Py γ] {v : V} {l : T3 α β γ} (zh : Same Z H) (h : Py.R K Z v l) : Pt K H v "tuple" := by
  obtain ⟨a, x, y, z, rfl, hz, p⟩ := h
  exact .of (.base (.tup (zh _ _ hz)))
theorem Pt.t4 {K : Fr} {Z H : Hp} {α β γ δ : Type} [Py α] [Py β] [Py γ] [Py δ] {v : V} {l : T4 α β γ δ} (zh : Same Z H) (h : Py.R K Z v l) : Pt K H v "tuple" := by
  obtain ⟨a, x, y, z, w, rfl, hz, p⟩ := h
  exact .of (.base (.tup (zh _ _ hz)))
section
variable {α β γ δ : Type} [Py α] [DecidableEq α] [PyD α] [Py β] [DecidableEq β] [PyD β] [Py γ] [DecidableEq γ] [PyD γ] [Py δ] [DecidableEq δ] [PyD δ]
theorem andD {a b : Prop} [Decidable a] [Decidable b] : (decide a && decide b) = decide (a ∧ b) := by simp
instance : PyD (T3 α β γ) where
  d p := .tuple [PyD.d p.x1, PyD.d p.x2, PyD.d p.x3]
  dp := fun zh h => by
    obtain ⟨a, x, y, z, rfl, hz, hx, hy, hw⟩ := h
    exact .tup (SqT.of (zh _ _ hz)) (.cons (PyD.dp zh hx) (.cons (PyD.dp zh hy) (.cons (PyD.dp zh hw) .nil)))
  eqv := fun p q => by
    show (PyData.eqv (PyD.d p.x1) (PyD.d q.x1) && (PyData.eqv (PyD.d p.x2) (PyD.d q.x2) && (PyData.eqv (PyD.d p.x3) (PyD.d q.x3) && PyData.eqvAll [] []))) = _
    rw [PyD.eqv, PyD.eqv, PyD.eqv, show PyData.eqvAll [] [] = true by simp [PyData.eqvAll], Bool.and_true, andD, andD]
    obtain ⟨a, b, c⟩ := p
    obtain ⟨a', b', c'⟩ := q
    simp
  dep := max (PyD.dep α) (max (PyD.dep β) (PyD.dep γ)) + 1
  depth := fun p => by
    show max (PyD.d p.x1).depth (max (PyD.d p.x2).depth (max (PyD.d p.x3).depth 0)) + 1 ≤ _
    have h1 := PyD.depth p.x1
    have h2 := PyD.depth p.x2
    have h3 := PyD.depth p.x3
    omega
instance : PyD (T4 α β γ δ) where
  d p := .tuple [PyD.d p.x1, PyD.d p.x2, PyD.d p.x3, PyD.d p.x4]
  dp := fun zh h => by
    obtain ⟨a, x, y, z, w, rfl, hz, hx, hy, hw, hv⟩ := h
    exact .tup (SqT.of (zh _ _ hz)) (.cons (PyD.dp zh hx) (.cons (PyD.dp zh hy) (.cons (PyD.dp zh hw) (.cons (PyD.dp zh hv) .nil))))
  eqv := fun p q => by
    show (PyData.eqv (PyD.d p.x1) (PyD.d q.x1) && (PyData.eqv (PyD.d p.x2) (PyD.d q.x2) && (PyData.eqv (PyD.d p.x3) (PyD.d q.x3) && (PyData.eqv (PyD.d p.x4) (PyD.d q.x4) && PyData.eqvAll [] [])))) = _
    rw [PyD.eqv, PyD.eqv, PyD.eqv, PyD.eqv, show PyData.eqvAll [] [] = true by simp [PyData.eqvAll], Bool.and_true, andD, andD, andD]
    obtain ⟨a, b, c⟩ := p
    obtain ⟨a', b', c'⟩ := q
    simp
  dep := max (PyD.dep α) (max (PyD.dep β) (max (PyD.dep γ) (PyD.dep δ))) + 1
  depth := fun p => by
    show max (PyD.d p.x1).depth (max (PyD.d p.x2).depth (max (PyD.d p.x3).depth (max (PyD.d p.x4).depth 0))) + 1 ≤ _
    have h1 := PyD.depth p.x1
    have h2 := PyD.depth p.x2
    have h3 := PyD.depth p.x3
    have h4 := PyD.depth p.x4
    omega
instance : PyD (TO α β γ) where
  d p := .tuple (PyD.d p.x1 :: PyD.d p.x2 :: (match p.x3 with | none => [] | some c => [PyD.d c]))
  dp := fun {K Z H v p} zh h => by
    obtain ⟨x1, x2, x3⟩ := p
    obtain ⟨a, x, y, rfl, hx, hy, h3⟩ := h
    cases x3 with
    | none => exact .tup (SqT.of (zh _ _ h3)) (.cons (PyD.dp zh hx) (.cons (PyD.dp zh hy) .nil))
    | some c =>
      obtain ⟨z, hz, hw⟩ := h3
      exact .tup (SqT.of (zh _ _ hz)) (.cons (PyD.dp zh hx) (.cons (PyD.dp zh hy) (.cons (PyD.dp zh hw) .nil)))
  eqv := fun p q => by
    obtain ⟨a, b, c⟩ := p
    obtain ⟨a', b', c'⟩ := q
    cases c with
    | none => cases c' with
      | none =>
        show (PyData.eqv (PyD.d a) (PyD.d a') && (PyData.eqv (PyD.d b) (PyD.d b') && PyData.eqvAll [] [])) = _
        rw [PyD.eqv, PyD.eqv, show PyData.eqvAll [] [] = true by simp [PyData.eqvAll], Bool.and_true, andD]
        simp
      | some c' =>
        show (PyData.eqv (PyD.d a) (PyD.d a') && (PyData.eqv (PyD.d b) (PyD.d b') && PyData.eqvAll [] [PyD.d c'])) = _
        simp [PyData.eqvAll]
    | some c => cases c' with
      | none =>
        show (PyData.eqv (PyD.d a) (PyD.d a') && (PyData.eqv (PyD.d b) (PyD.d b') && PyData.eqvAll [PyD.d c] [])) = _
        simp [PyData.eqvAll]
      | some c' =>
        show (PyData.eqv (PyD.d a) (PyD.d a') && (PyData.eqv (PyD.d b) (PyD.d b') && (PyData.eqv (PyD.d c) (PyD.d c') && PyData.eqvAll [] []))) = _
        rw [PyD.eqv, PyD.eqv, PyD.eqv, show PyData.eqvAll [] [] = true by simp [PyData.eqvAll], Bool.and_true, andD, andD]
        simp
  dep := max (PyD.dep α) (max (PyD.dep β) (PyD.dep γ)) + 1
  depth := fun p => by
    obtain ⟨a, b, c⟩ := p
    have h1 := PyD.depth a
    have h2 := PyD.depth b
    cases c with
    | none =>
      show max (PyD.d a).depth (max (PyD.d b).depth 0) + 1 ≤ _
      omega
    | some c =>
      have h3 := PyD.depth c
      show max (PyD.d a).depth (max (PyD.d b).depth (max (PyD.d c).depth 0)) + 1 ≤ _
      omega
instance : PyN (T3 α β γ) := ⟨fun _ => by simp [PyD.d, PyData.eqv], fun _ => by simp [PyD.d, PyData.eqv]⟩
instance : PyN (T4 α β γ δ) := ⟨fun _ => by simp [PyD.d, PyData.eqv], fun _ => by simp [PyD.d, PyData.eqv]⟩
instance : PyN (TO α β γ) := ⟨fun _ => by simp [PyD.d, PyData.eqv], fun _ => by simp [PyD.d, PyData.eqv]⟩
end
section
variable {K : Fr} {Z H : Hp} {α β γ δ : Type} [Py α] [Py β] [Py γ] [Py δ]
end
end Cd

set_option Elab.async false
set_option linter.all false
set_option maxRecDepth 100000
set_option maxHeartbeats 4000000
namespace Cd
open PySem L2 PyProof.Rows
/-! ### texts that may be laid -/
end Cd
namespace Cd
open PySem L2
/-! ### own lists lent to a call -/
class NoZ (α : Type) [Py α] : Prop where
  back : ∀ {K : Fr} {Z Z' : Hp} {v : V} {a : α}, Py.R K Z v a → Py.R K Z' v a
instance (priority := low) {α : Type} [Sc α] : NoZ α := ⟨fun h => h⟩
instance {α : Type} [Py α] [NoZ α] : NoZ (Option α) := ⟨fun {K Z Z' v a} h => by
  cases a with
  | none => exact h
  | some a => exact NoZ.back (α := α) (Z := Z) h⟩
section
variable {K : Fr} {Z H Zb Z2 H2 : Hp} {Q : VK}
theorem Step.bor (zh : Same Z H) (s : Same Z Zb) (st : Step Zb H Z2 H2) : Step Z H Z H2 := ⟨st.hh, Same.refl _, s.trans (st.zz.trans st.zh), fun _ _ _ => rfl⟩
theorem Tel.bor {α : Type} [Py α] [NoZ α] {m : α} (s : Same Z Zb) (zh : Same Zb H) (k : Tel K Z H Q m) : Tel K Zb H Q m := fun v Z' H' st h =>
  k v Z H' (Step.bor (s.trans zh) s st) (NoZ.back h)
theorem New.bor {α : Type} [Py α] [NoZ α] {m : List α} (s : Same Z Zb) (zh : Same Zb H) (k : New K Z H Q m) : New K Zb H Q m := fun p xs Z' H' st hp hl hz pr =>
  k p xs Z H' (Step.bor (s.trans zh) s st) hp hl ((s.trans zh).free hp) (Paired.pImp (fun _ _ r => NoZ.back r) pr)
end
end Cd
namespace Cd
open PySem L2
section
variable {K : Fr} {Z H : Hp} {Q : VK}
def rIsNQ : R2 := fun x y H Q => y = .non ∧ Q (.bl (decide (x = .non))) H
def rNotNQ : R2 := fun x y H Q => y = .non ∧ Q (.bl (!decide (x = .non))) H
end
end Cd
namespace Cd
open PySem L2
def rInsQ : V → List V → Hp → VK → Prop := fun x vs H Q => ∃ (l : Addr) (xs : List V) (i : Int) (y : V), x = .ref l ∧ vs = [.int i, y] ∧ H l = some (.lst xs) ∧ xs.length < sizeLine ∧ 0 ≤ i ∧ i < 2 ^ 63 ∧ Q .non (upd H l (.lst (xs.take i.toNat ++ [y] ++ xs.drop i.toNat)))
end Cd
namespace Cd
open PySem L2
class PtT (α : Type) [Py α] where
  t : String
  pt : ∀ {K : Fr} {Z H : Hp} {v : V} {a : α}, Same Z H → Py.R K Z v a → Pt K H v t
instance : PtT Int := ⟨"int", fun _ h => by cases (show _ = V.int _ from h); exact Pt.int _⟩
instance : PtT Bool := ⟨"bool", fun _ h => by cases (show _ = V.bl _ from h); exact Pt.bl _⟩
instance : PtT Str := ⟨"str", fun _ h => by cases (show _ = V.str _ from h); exact Pt.str _⟩
instance {α : Type} [Py α] : PtT (List α) := ⟨"list", fun zh h => Pt.list zh h⟩
instance {α β : Type} [Py α] [Py β] : PtT (α × β) := ⟨"tuple", fun zh h => Pt.tuple zh h⟩
instance {α β γ : Type} [Py α] [Py β] [Py γ] : PtT (T3 α β γ) := ⟨"tuple", fun zh h => Pt.t3 zh h⟩
instance {α β γ δ : Type} [Py α] [Py β] [Py γ] [Py δ] : PtT (T4 α β γ δ) := ⟨"tuple", fun zh h => Pt.t4 zh h⟩
section
variable {K : Fr} {Z H : Hp} {Q : VK}
end
end Cd
namespace Cd
end Cd

set_option Elab.async false
set_option linter.all false
set_option maxRecDepth 100000
set_option maxHeartbeats 4000000
namespace Cd
open PySem L2 PyProof.Rows
section
variable {K : Fr} {Z H Z' H' Z2 H2 Z0 H0 : Hp} {Q : VK}
/-- a list of lists of one's own -/
structure OwnN {α : Type} [Py α] (K : Fr) (H0 Z H : Hp) (p : Addr) (ps : List Addr) (m : List (List α)) : Prop where
  top : H p = some (.lst (ps.map V.ref))
  inn : Paired (fun a l => ∃ xs, H a = some (.lst xs) ∧ Paired (Py.R K Z) xs l) ps m
  nd : (p :: ps).Nodup
  nz : ∀ a ∈ p :: ps, Z a = none
  n0 : ∀ a ∈ p :: ps, H0 a = none
theorem OwnN.stands {α : Type} [Py α] {p : Addr} {ps : List Addr} {m : List (List α)} (o : OwnN K H0 Z H p ps m) : ∀ a ∈ p :: ps, ∃ u, H a = some u := by
  intro a ha
  rcases List.mem_cons.mp ha with rfl | ha
  · exact ⟨_, o.top⟩
  · have key : ∀ {ps : List Addr} {m : List (List α)}, Paired (fun a l => ∃ xs, H a = some (.lst xs) ∧ Paired (Py.R K Z) xs l) ps m → ∀ a ∈ ps, ∃ u, H a = some u := by
      intro ps m h
      induction h with
      | nil => intro a ha; cases ha
      | cons r t ih =>
        intro a ha
        rcases List.mem_cons.mp ha with rfl | ha
        · obtain ⟨xs, hx, _⟩ := r; exact ⟨_, hx⟩
        · exact ih a ha
    exact key o.inn a ha
theorem OwnN.step {α : Type} [Py α] {p : Addr} {ps : List Addr} {m : List (List α)} (o : OwnN K H0 Z H p ps m) (st : Step Z H Z' H') : OwnN K H0 Z' H' p ps m :=
  ⟨st.hh _ _ o.top, Paired.pImp (fun a l ⟨xs, h, pr⟩ => ⟨xs, st.hh _ _ h, Paired.pImp (fun _ _ r => Py.mono st.zz r) pr⟩) o.inn, o.nd,
   fun a ha => let ⟨u, hu⟩ := o.stands a ha; (st.fr _ _ hu).trans (o.nz a ha), o.n0⟩
theorem pairFar {α : Type} [Py α] {q : Addr} {u : HO} : ∀ {ps : List Addr} {m : List (List α)}, (∀ a ∈ ps, a ≠ q) → Paired (fun a l => ∃ xs, H a = some (.lst xs) ∧ Paired (Py.R K Z) xs l) ps m → Paired (fun a l => ∃ xs, upd H q u a = some (.lst xs) ∧ Paired (Py.R K Z) xs l) ps m
  | _, _, _, .nil => .nil
  | _, _, h, .cons ⟨xs, h1, h2⟩ t => .cons ⟨xs, by rw [upd_ne (h _ List.mem_cons_self)]; exact h1, h2⟩ (pairFar (fun a ha => h a (List.mem_cons_of_mem _ ha)) t)
theorem OwnN.far {α : Type} [Py α] {p q : Addr} {ps : List Addr} {u : HO} {m : List (List α)} (o : OwnN K H0 Z H p ps m) (ne : ∀ a ∈ p :: ps, a ≠ q) : OwnN K H0 Z (upd H q u) p ps m :=
  ⟨by rw [upd_ne (ne p List.mem_cons_self)]; exact o.top, pairFar (fun a ha => ne a (List.mem_cons_of_mem _ ha)) o.inn, o.nd, o.nz, o.n0⟩
theorem OwnN.len {α : Type} [Py α] {p : Addr} {ps : List Addr} {m : List (List α)} (o : OwnN K H0 Z H p ps m) : ps.length = m.length := o.inn.pLen
theorem pairSet {α : Type} [Py α] {a : Addr} {u : HO} {l' : List α} (hl : ∃ xs, upd H a u a = some (.lst xs) ∧ Paired (Py.R K Z) xs l') : ∀ (ps : List Addr) (m : List (List α)) (j : Nat), ps.Nodup → ps[j]? = some a → Paired (fun a l => ∃ xs, H a = some (.lst xs) ∧ Paired (Py.R K Z) xs l) ps m → Paired (fun b l => ∃ xs, upd H a u b = some (.lst xs) ∧ Paired (Py.R K Z) xs l) ps (m.set j l')
  | _, _, _, _, _, .nil => .nil
  | b :: r, l :: n, 0, hn, hj, .cons h t => by
    have e : b = a := by simpa using hj
    subst e
    exact .cons hl (pairFar (fun c hb e => (List.nodup_cons.mp hn).1 (e ▸ hb)) t)
  | b :: r, l :: n, j + 1, hn, hj, .cons h t => by
    have hj2 : r[j]? = some a := by simpa using hj
    have ne : b ≠ a := fun e => (List.nodup_cons.mp hn).1 (e ▸ List.mem_of_getElem? hj2)
    obtain ⟨xs, h1, h2⟩ := h
    exact .cons ⟨xs, by rw [upd_ne ne]; exact h1, h2⟩ (pairSet hl r n j (List.nodup_cons.mp hn).2 hj2 t)
theorem OwnN.at {α : Type} [Py α] {p : Addr} {ps : List Addr} {m : List (List α)} {i : Int} (o : OwnN K H0 Z H p ps m) (hi : inR m.length i) :
    ∃ a, a ∈ ps ∧ atI (ps.map V.ref) i = some (.ref a) ∧ Own K H0 Z H a (getI m i) ∧ ∀ u l', Own K H0 Z (upd H a u) a l' → OwnN K H0 Z (upd H a u) p ps (setI m i l') := by
  obtain ⟨j, hj, hl⟩ := ixN_some hi
  have hps : j < ps.length := by rw [o.len]; exact hl
  have e1 : ps[j]? = some ps[j] := List.getElem?_eq_getElem hps
  have em : m[j]? = some (getI m i) := by
    have h := atI_get hi
    unfold atI at h
    rw [hj] at h
    exact h
  refine ⟨ps[j], List.getElem_mem hps, ?_, ?_, fun u l' ow => ?_⟩
  · unfold atI
    rw [List.length_map, o.len, hj]
    show (ps.map V.ref)[j]? = _
    rw [List.getElem?_map, e1]
    rfl
  · obtain ⟨b, hb, xs, h1, h2⟩ := o.inn.pAt em
    rw [e1] at hb
    cases hb
    exact ⟨⟨xs, h1, h2⟩, o.nz _ (List.mem_cons_of_mem _ (List.getElem_mem hps)), o.n0 _ (List.mem_cons_of_mem _ (List.getElem_mem hps))⟩
  · have hn := List.nodup_cons.mp o.nd
    have e2 : setI m i l' = m.set j l' := by unfold setI; rw [hj]
    rw [e2]
    exact ⟨by rw [upd_ne (fun e => hn.1 (by rw [e]; exact List.getElem_mem hps))]; exact o.top, pairSet ow.ex ps m j hn.2 e1 o.inn, o.nd, o.nz, o.n0⟩
/-- the inner lists told, the outer one's own -/
def tellL (Z H : Hp) (ps : List Addr) : Hp := fun q => if q ∈ ps then H q else Z q
theorem tellL_same {ps : List Addr} (h : ∀ a ∈ ps, Z a = none) : Same Z (tellL Z H ps) := fun b u e => by
  unfold tellL
  rw [if_neg (fun hb => by rw [h b hb] at e; cases e)]
  exact e
theorem tellL_step {ps : List Addr} (c : Step Z0 H0 Z H) (h : ∀ a ∈ ps, Z a = none) (h0 : ∀ a ∈ ps, H0 a = none) : Step Z0 H0 (tellL Z H ps) H :=
  ⟨c.hh, c.zz.trans (tellL_same h), fun b u e => by
    unfold tellL at e
    split at e
    · exact e
    · exact c.zh b u e, fun a o e => by
    unfold tellL
    rw [if_neg (fun ha => by rw [h0 a ha] at e; cases e)]
    exact c.fr a o e⟩
theorem pairTell {α : Type} [Py α] {qs : List Addr} (s : Same Z (tellL Z H qs)) : ∀ {ps : List Addr} {m : List (List α)}, (∀ a ∈ ps, a ∈ qs) → Paired (fun a l => ∃ xs, H a = some (.lst xs) ∧ Paired (Py.R K Z) xs l) ps m → Paired (Py.R K (tellL Z H qs)) (ps.map V.ref) m
  | _, _, _, .nil => .nil
  | a :: _, _, h, .cons ⟨xs, h1, h2⟩ t => .cons ⟨a, xs, rfl, by unfold tellL; rw [if_pos (h a List.mem_cons_self)]; exact h1, Paired.pImp (fun _ _ r => Py.mono s r) h2⟩ (pairTell s (fun b hb => h b (List.mem_cons_of_mem _ hb)) t)
theorem OwnN.own {α : Type} [Py α] {p : Addr} {ps : List Addr} {m : List (List α)} (o : OwnN K H0 Z H p ps m) (c : Step Z0 H0 Z H) : ∃ Z', Step Z0 H0 Z' H ∧ Same Z Z' ∧ Own K H0 Z' H p m ∧ ∀ q, q ∉ ps → Z' q = Z q := by
  have hz : ∀ a ∈ ps, Z a = none := fun a ha => o.nz a (List.mem_cons_of_mem _ ha)
  have s := tellL_same (H := H) hz
  refine ⟨tellL Z H ps, tellL_step c hz (fun a ha => o.n0 a (List.mem_cons_of_mem _ ha)), s, ⟨⟨_, o.top, pairTell s (fun _ h => h) o.inn⟩, ?_, o.n0 p List.mem_cons_self⟩, fun q hq => ?_⟩
  · unfold tellL
    rw [if_neg (List.nodup_cons.mp o.nd).1]
    exact o.nz p List.mem_cons_self
  · unfold tellL
    rw [if_neg hq]
theorem OwnN.tell {α : Type} [Py α] {p : Addr} {ps : List Addr} {m : List (List α)} (o : OwnN K H0 Z H p ps m) (c : Step Z0 H0 Z H) : ∃ Z', Step Z0 H0 Z' H ∧ Same Z Z' ∧ Py.R K Z' (.ref p) m ∧ ∀ q, q ∉ p :: ps → Z' q = Z q := by
  obtain ⟨Z1, c1, s1, o1, f1⟩ := o.own c
  obtain ⟨Z2, c2, s2, r, f2⟩ := o1.tell c1
  refine ⟨Z2, c2, s1.trans s2, r, fun q hq => ?_⟩
  rw [List.mem_cons, not_or] at hq
  rw [f2 q hq.1, f1 q hq.2]
theorem OwnN.ret {α : Type} [Py α] {p : Addr} {ps : List Addr} {m : List (List α)} (o : OwnN K H0 Z H p ps m) (c : Step Z0 H0 Z H) (k : New K Z0 H0 Q m) : Q (.ref p) H := by
  obtain ⟨Z1, c1, s1, o1, f1⟩ := o.own c
  exact o1.ret c1 k
/-- a new list of new lists comes -/
def NewN {α : Type} [Py α] (K : Fr) (Z H : Hp) (Q : VK) (m : List (List α)) : Prop :=
  ∀ p ps Z' H', Step Z H Z' H' → (∀ a ∈ p :: ps, H a = none) → OwnN K H Z' H' p ps m → Q (.ref p) H'
theorem NewN.own {α : Type} [Py α] {m : List (List α)} (c : Step Z0 H0 Z H) (k : ∀ p ps Z' H', Step Z H Z' H' → (∀ a ∈ p :: ps, H a = none) → OwnN K H0 Z' H' p ps m → Q (.ref p) H') : NewN K Z H Q m := fun p ps Z' H' st hn o =>
  k p ps Z' H' st hn ⟨o.top, o.inn, o.nd, o.nz, fun a ha => c.hh.free (hn a ha)⟩
theorem NewN.new {α : Type} [Py α] {m : List (List α)} (zh : Same Z H) (k : New K Z H Q m) : NewN K Z H Q m := fun p ps Z' H' st hn o => o.ret st k
theorem NewN.gen {α : Type} [Py α] {m : List (List α)} (k : ∀ n, n = m → NewN K Z H Q n) : NewN K Z H Q m := k m rfl
theorem NewN.after {α : Type} [Py α] {m : List (List α)} (c : Step Z0 H0 Z H) (k : NewN K Z0 H0 Q m) : NewN K Z H Q m := fun p ps Z' H' st hn o =>
  k p ps Z' H' (c.trans st) (fun a ha => c.hh.free (hn a ha)) ⟨o.top, o.inn, o.nd, o.nz, fun a ha => c.hh.free (hn a ha)⟩
theorem OwnN.ne_old {α : Type} [Py α] {p q : Addr} {ps : List Addr} {m : List (List α)} {u : HO} (o : OwnN K H0 Z H p ps m) (h : H q = none) : ∀ a ∈ p :: ps, a ≠ q := fun a ha e => by
  obtain ⟨u, hu⟩ := o.stands a ha
  rw [e, h] at hu; cases hu
end
/-! ### [[] for ..] : a comprehension of new lists -/
section
variable {γ β : Type} [Py β] {K : Fr} {J : It} {g : TG} {te : TE} {σ : L2.St} {H Z : Hp} {L : List γ} {Y : γ → V → Hp → Hp → Prop} {vs : List Nat} {Q : VK}
end
end Cd
namespace Cd
open PySem L2
theorem OwnN.zfar {K : Fr} {Z H Z' H0 : Hp} {α : Type} [Py α] {p : Addr} {ps : List Addr} {m : List (List α)} (o : OwnN K H0 Z H p ps m) (s : Same Z Z') (hz : ∀ a ∈ p :: ps, Z' a = Z a) : OwnN K H0 Z' H p ps m :=
  ⟨o.top, Paired.pImp (fun a l ⟨xs, h, pr⟩ => ⟨xs, h, Paired.pImp (fun _ _ r => Py.mono s r) pr⟩) o.inn, o.nd, fun a ha => (hz a ha).trans (o.nz a ha), o.n0⟩
end Cd

set_option Elab.async false
set_option linter.all false
set_option maxRecDepth 100000
set_option maxHeartbeats 4000000
namespace Cd
open PySem L2

/-! ### stable sorting -/
section
variable {α : Type} (key : α → List Nat)
def Srt (l : List α) : Prop := l.Pairwise (fun a b => ¬ key b < key a)
def cls (k : List Nat) (l : List α) : List α := l.filter (fun z => decide (key z = k))
end


end Cd
namespace Cd
open PySem L2
section
variable {X : Cx} {K : Fr}
theorem ix_listK (e : X.K = K) : IxR X (rIxL K) := by subst e; exact ix_list
theorem call_lenK (e : X.K = K) : CallR X (.builtin "len") (rLenQ K) := by subst e; exact call_lenQ
theorem call_listK (e : X.K = K) : CallR X (.type "list") (rListQ K) := by subst e; exact call_listQ
theorem mt_joinK (e : X.K = K) : MtR X "str.join" (rJoinQ K) := by subst e; exact mt_joinQ
theorem op_inK (e : X.K = K) : OpR X (compareOp .In) (rIn K false) := by subst e; exact op_in_seq
theorem op_ninK (e : X.K = K) : OpR X (compareOp .NotIn) (rIn K true) := by subst e; exact op_notIn_seq
end
end Cd
namespace Cd
open PySem L2
end Cd
namespace Cd
open PySem L2
def tNoK : L2.TO := fun _ H Q => True ∧ Q none H
theorem po_noK {X : Cx} : PO X none tNoK := ⟨fun pins s σ H Q I h => po_none.run pins s σ H Q I h.2⟩
end Cd
namespace Cd
open PySem L2 PyProof.Rows
/-! ### bits -/
def bitsOk (s : Scr) : Prop := ∀ z ∈ s.ns, Builtin.Int.intBits z ≤ 1048576
end Cd
namespace Cd
end Cd
namespace Cd
open PySem L2 PyProof.Rows
/-! ### // by a divisor of any small length -/
def CDivC (_ j : Int) : Prop := 0 < j ∧ j.natAbs.log2 < 9000
theorem op_fdivC {X : Cx} : OpR X (binaryOp .FloorDiv) (rI CDivC fun i j => .int (i / j)) := opI fun i j _ _ _ _ _ hc q => by
  have h1 : (0 : Int) < j := hc.1
  exact floordiv_int (by omega) (by rw [Int.fdiv_eq_ediv_of_nonneg i (by omega)]; exact q) (.inl (PyProof.noPylong_of_log2 hc.2))
end Cd

set_option Elab.async false
set_option linter.all false
set_option maxRecDepth 100000
set_option maxHeartbeats 4000000
namespace Cd
open PySem L2 PyProof.Rows
/-! ### sorted pairs of whole numbers -/
def leP (p q : Int × Int) : Bool := decide (p.1 < q.1 ∨ (p.1 = q.1 ∧ p.2 ≤ q.2))
def sortP (l : List (Int × Int)) : List (Int × Int) := l.mergeSort leP
section
variable {K : Fr} {Z H : Hp} {Q : VK}
open Classical in
/-- what a pair stands for -/
noncomputable def kOf (K : Fr) (Z : Hp) (v : V) : Int × Int := if h : ∃ p : Int × Int, Py.R K Z v p then h.choose else (0, 0)
end
end Cd

set_option Elab.async false
set_option linter.all false
set_option maxRecDepth 100000
set_option maxHeartbeats 4000000
namespace Cd
open PySem L2 PyProof.Rows
/-! ### lists of a written length whose items are of unlike kinds -/
structure HL2 (α β : Type) where
  x1 : α
  x2 : β
deriving DecidableEq, Inhabited
instance {α β : Type} [Py α] [Py β] : Py (HL2 α β) where
  R K Z v p := ∃ a y1 y2, v = .ref a ∧ Z a = some (.lst [y1, y2]) ∧ Py.R K Z y1 p.x1 ∧ Py.R K Z y2 p.x2
  mono := fun {K Z Z' v l} s h => by
    obtain ⟨a, y1, y2, e, hz, h1, h2⟩ := h
    exact ⟨a, y1, y2, e, s _ _ hz, Py.mono s h1, Py.mono s h2⟩
section
variable {K : Fr} {Z H : Hp} {Q : VK} {α β : Type} [Py α] [Py β]
theorem Pt.hl2 {v : V} {l : HL2 α β} (zh : Same Z H) (h : Py.R K Z v l) : Pt K H v "list" := by
  obtain ⟨a, y1, y2, rfl, hz, _⟩ := h
  exact .of (.base (.lst (zh _ _ hz)))
end
section
variable {α β : Type} [Py α] [DecidableEq α] [PyD α] [Py β] [DecidableEq β] [PyD β]
instance : PyD (HL2 α β) where
  d p := .list [PyD.d p.x1, PyD.d p.x2]
  dp := fun zh h => by
    obtain ⟨a, y1, y2, rfl, hz, h1, h2⟩ := h
    exact .lst (SqL.of (zh _ _ hz)) (.cons (PyD.dp zh h1) (.cons (PyD.dp zh h2) .nil))
  eqv := fun p q => by
    show (PyData.eqv (PyD.d p.x1) (PyD.d q.x1) && (PyData.eqv (PyD.d p.x2) (PyD.d q.x2) && PyData.eqvAll [] [])) = _
    rw [PyD.eqv, PyD.eqv, show PyData.eqvAll [] [] = true by simp [PyData.eqvAll], Bool.and_true, andD]
    obtain ⟨c0, c1⟩ := p
    obtain ⟨e0, e1⟩ := q
    simp
  dep := (max (PyD.dep α) (PyD.dep β)) + 1
  depth := fun p => by
    show (max (PyD.d p.x1).depth (max (PyD.d p.x2).depth 0)) + 1 ≤ _
    have h1 := PyD.depth p.x1
    have h2 := PyD.depth p.x2
    omega
instance : PyN (HL2 α β) := ⟨fun _ => by simp [PyD.d, PyData.eqv], fun _ => by simp [PyD.d, PyData.eqv]⟩
end
instance {α β : Type} [Py α] [Py β] : PtT (HL2 α β) := ⟨"list", fun zh h => Pt.hl2 zh h⟩
structure HL3 (α β γ : Type) where
  x1 : α
  x2 : β
  x3 : γ
deriving DecidableEq, Inhabited
instance {α β γ : Type} [Py α] [Py β] [Py γ] : Py (HL3 α β γ) where
  R K Z v p := ∃ a y1 y2 y3, v = .ref a ∧ Z a = some (.lst [y1, y2, y3]) ∧ Py.R K Z y1 p.x1 ∧ Py.R K Z y2 p.x2 ∧ Py.R K Z y3 p.x3
  mono := fun {K Z Z' v l} s h => by
    obtain ⟨a, y1, y2, y3, e, hz, h1, h2, h3⟩ := h
    exact ⟨a, y1, y2, y3, e, s _ _ hz, Py.mono s h1, Py.mono s h2, Py.mono s h3⟩
section
variable {K : Fr} {Z H : Hp} {Q : VK} {α β γ : Type} [Py α] [Py β] [Py γ]
theorem Pt.hl3 {v : V} {l : HL3 α β γ} (zh : Same Z H) (h : Py.R K Z v l) : Pt K H v "list" := by
  obtain ⟨a, y1, y2, y3, rfl, hz, _⟩ := h
  exact .of (.base (.lst (zh _ _ hz)))
end
section
variable {α β γ : Type} [Py α] [DecidableEq α] [PyD α] [Py β] [DecidableEq β] [PyD β] [Py γ] [DecidableEq γ] [PyD γ]
instance : PyD (HL3 α β γ) where
  d p := .list [PyD.d p.x1, PyD.d p.x2, PyD.d p.x3]
  dp := fun zh h => by
    obtain ⟨a, y1, y2, y3, rfl, hz, h1, h2, h3⟩ := h
    exact .lst (SqL.of (zh _ _ hz)) (.cons (PyD.dp zh h1) (.cons (PyD.dp zh h2) (.cons (PyD.dp zh h3) .nil)))
  eqv := fun p q => by
    show (PyData.eqv (PyD.d p.x1) (PyD.d q.x1) && (PyData.eqv (PyD.d p.x2) (PyD.d q.x2) && (PyData.eqv (PyD.d p.x3) (PyD.d q.x3) && PyData.eqvAll [] []))) = _
    rw [PyD.eqv, PyD.eqv, PyD.eqv, show PyData.eqvAll [] [] = true by simp [PyData.eqvAll], Bool.and_true, andD, andD]
    obtain ⟨c0, c1, c2⟩ := p
    obtain ⟨e0, e1, e2⟩ := q
    simp
  dep := (max (PyD.dep α) (max (PyD.dep β) (PyD.dep γ))) + 1
  depth := fun p => by
    show (max (PyD.d p.x1).depth (max (PyD.d p.x2).depth (max (PyD.d p.x3).depth 0))) + 1 ≤ _
    have h1 := PyD.depth p.x1
    have h2 := PyD.depth p.x2
    have h3 := PyD.depth p.x3
    omega
instance : PyN (HL3 α β γ) := ⟨fun _ => by simp [PyD.d, PyData.eqv], fun _ => by simp [PyD.d, PyData.eqv]⟩
end
instance {α β γ : Type} [Py α] [Py β] [Py γ] : PtT (HL3 α β γ) := ⟨"list", fun zh h => Pt.hl3 zh h⟩
structure HL4 (α β γ δ : Type) where
  x1 : α
  x2 : β
  x3 : γ
  x4 : δ
deriving DecidableEq, Inhabited
instance {α β γ δ : Type} [Py α] [Py β] [Py γ] [Py δ] : Py (HL4 α β γ δ) where
  R K Z v p := ∃ a y1 y2 y3 y4, v = .ref a ∧ Z a = some (.lst [y1, y2, y3, y4]) ∧ Py.R K Z y1 p.x1 ∧ Py.R K Z y2 p.x2 ∧ Py.R K Z y3 p.x3 ∧ Py.R K Z y4 p.x4
  mono := fun {K Z Z' v l} s h => by
    obtain ⟨a, y1, y2, y3, y4, e, hz, h1, h2, h3, h4⟩ := h
    exact ⟨a, y1, y2, y3, y4, e, s _ _ hz, Py.mono s h1, Py.mono s h2, Py.mono s h3, Py.mono s h4⟩
section
variable {K : Fr} {Z H : Hp} {Q : VK} {α β γ δ : Type} [Py α] [Py β] [Py γ] [Py δ]
theorem Pt.hl4 {v : V} {l : HL4 α β γ δ} (zh : Same Z H) (h : Py.R K Z v l) : Pt K H v "list" := by
  obtain ⟨a, y1, y2, y3, y4, rfl, hz, _⟩ := h
  exact .of (.base (.lst (zh _ _ hz)))
end
section
variable {α β γ δ : Type} [Py α] [DecidableEq α] [PyD α] [Py β] [DecidableEq β] [PyD β] [Py γ] [DecidableEq γ] [PyD γ] [Py δ] [DecidableEq δ] [PyD δ]
instance : PyD (HL4 α β γ δ) where
  d p := .list [PyD.d p.x1, PyD.d p.x2, PyD.d p.x3, PyD.d p.x4]
  dp := fun zh h => by
    obtain ⟨a, y1, y2, y3, y4, rfl, hz, h1, h2, h3, h4⟩ := h
    exact .lst (SqL.of (zh _ _ hz)) (.cons (PyD.dp zh h1) (.cons (PyD.dp zh h2) (.cons (PyD.dp zh h3) (.cons (PyD.dp zh h4) .nil))))
  eqv := fun p q => by
    show (PyData.eqv (PyD.d p.x1) (PyD.d q.x1) && (PyData.eqv (PyD.d p.x2) (PyD.d q.x2) && (PyData.eqv (PyD.d p.x3) (PyD.d q.x3) && (PyData.eqv (PyD.d p.x4) (PyD.d q.x4) && PyData.eqvAll [] [])))) = _
    rw [PyD.eqv, PyD.eqv, PyD.eqv, PyD.eqv, show PyData.eqvAll [] [] = true by simp [PyData.eqvAll], Bool.and_true, andD, andD, andD]
    obtain ⟨c0, c1, c2, c3⟩ := p
    obtain ⟨e0, e1, e2, e3⟩ := q
    simp
  dep := (max (PyD.dep α) (max (PyD.dep β) (max (PyD.dep γ) (PyD.dep δ)))) + 1
  depth := fun p => by
    show (max (PyD.d p.x1).depth (max (PyD.d p.x2).depth (max (PyD.d p.x3).depth (max (PyD.d p.x4).depth 0)))) + 1 ≤ _
    have h1 := PyD.depth p.x1
    have h2 := PyD.depth p.x2
    have h3 := PyD.depth p.x3
    have h4 := PyD.depth p.x4
    omega
instance : PyN (HL4 α β γ δ) := ⟨fun _ => by simp [PyD.d, PyData.eqv], fun _ => by simp [PyD.d, PyData.eqv]⟩
end
instance {α β γ δ : Type} [Py α] [Py β] [Py γ] [Py δ] : PtT (HL4 α β γ δ) := ⟨"list", fun zh h => Pt.hl4 zh h⟩
structure HL5 (α β γ δ ε : Type) where
  x1 : α
  x2 : β
  x3 : γ
  x4 : δ
  x5 : ε
deriving DecidableEq, Inhabited
instance {α β γ δ ε : Type} [Py α] [Py β] [Py γ] [Py δ] [Py ε] : Py (HL5 α β γ δ ε) where
  R K Z v p := ∃ a y1 y2 y3 y4 y5, v = .ref a ∧ Z a = some (.lst [y1, y2, y3, y4, y5]) ∧ Py.R K Z y1 p.x1 ∧ Py.R K Z y2 p.x2 ∧ Py.R K Z y3 p.x3 ∧ Py.R K Z y4 p.x4 ∧ Py.R K Z y5 p.x5
  mono := fun {K Z Z' v l} s h => by
    obtain ⟨a, y1, y2, y3, y4, y5, e, hz, h1, h2, h3, h4, h5⟩ := h
    exact ⟨a, y1, y2, y3, y4, y5, e, s _ _ hz, Py.mono s h1, Py.mono s h2, Py.mono s h3, Py.mono s h4, Py.mono s h5⟩
section
variable {K : Fr} {Z H : Hp} {Q : VK} {α β γ δ ε : Type} [Py α] [Py β] [Py γ] [Py δ] [Py ε]
theorem Pt.hl5 {v : V} {l : HL5 α β γ δ ε} (zh : Same Z H) (h : Py.R K Z v l) : Pt K H v "list" := by
  obtain ⟨a, y1, y2, y3, y4, y5, rfl, hz, _⟩ := h
  exact .of (.base (.lst (zh _ _ hz)))
end
section
variable {α β γ δ ε : Type} [Py α] [DecidableEq α] [PyD α] [Py β] [DecidableEq β] [PyD β] [Py γ] [DecidableEq γ] [PyD γ] [Py δ] [DecidableEq δ] [PyD δ] [Py ε] [DecidableEq ε] [PyD ε]
instance : PyD (HL5 α β γ δ ε) where
  d p := .list [PyD.d p.x1, PyD.d p.x2, PyD.d p.x3, PyD.d p.x4, PyD.d p.x5]
  dp := fun zh h => by
    obtain ⟨a, y1, y2, y3, y4, y5, rfl, hz, h1, h2, h3, h4, h5⟩ := h
    exact .lst (SqL.of (zh _ _ hz)) (.cons (PyD.dp zh h1) (.cons (PyD.dp zh h2) (.cons (PyD.dp zh h3) (.cons (PyD.dp zh h4) (.cons (PyD.dp zh h5) .nil)))))
  eqv := fun p q => by
    show (PyData.eqv (PyD.d p.x1) (PyD.d q.x1) && (PyData.eqv (PyD.d p.x2) (PyD.d q.x2) && (PyData.eqv (PyD.d p.x3) (PyD.d q.x3) && (PyData.eqv (PyD.d p.x4) (PyD.d q.x4) && (PyData.eqv (PyD.d p.x5) (PyD.d q.x5) && PyData.eqvAll [] []))))) = _
    rw [PyD.eqv, PyD.eqv, PyD.eqv, PyD.eqv, PyD.eqv, show PyData.eqvAll [] [] = true by simp [PyData.eqvAll], Bool.and_true, andD, andD, andD, andD]
    obtain ⟨c0, c1, c2, c3, c4⟩ := p
    obtain ⟨e0, e1, e2, e3, e4⟩ := q
    simp
  dep := (max (PyD.dep α) (max (PyD.dep β) (max (PyD.dep γ) (max (PyD.dep δ) (PyD.dep ε))))) + 1
  depth := fun p => by
    show (max (PyD.d p.x1).depth (max (PyD.d p.x2).depth (max (PyD.d p.x3).depth (max (PyD.d p.x4).depth (max (PyD.d p.x5).depth 0))))) + 1 ≤ _
    have h1 := PyD.depth p.x1
    have h2 := PyD.depth p.x2
    have h3 := PyD.depth p.x3
    have h4 := PyD.depth p.x4
    have h5 := PyD.depth p.x5
    omega
instance : PyN (HL5 α β γ δ ε) := ⟨fun _ => by simp [PyD.d, PyData.eqv], fun _ => by simp [PyD.d, PyData.eqv]⟩
end
instance {α β γ δ ε : Type} [Py α] [Py β] [Py γ] [Py δ] [Py ε] : PtT (HL5 α β γ δ ε) := ⟨"list", fun zh h => Pt.hl5 zh h⟩
end Cd

set_option Elab.async false
set_option linter.all false
set_option maxRecDepth 100000
set_option maxHeartbeats 4000000
namespace Cd
open PySem L2 PyProof.Rows
theorem repL_len {α : Type} (l : List α) (n : Int) : (repL l n).length = n.toNat * l.length := by
  unfold repL
  rw [List.length_flatten, List.map_replicate, List.sum_replicate_nat]
/-! ### walks over one's own list (the body leaves it) -/
theorem Own.sq {K : Fr} {Z H H0 : Hp} {α : Type} [Py α] {p : Addr} {l : List α} (o : Own K H0 Z H p l) : ∃ xs, SqL K H p xs := let ⟨⟨xs, h, _⟩, _, _⟩ := o; ⟨xs, SqL.of h⟩
section
variable {K : Fr} {tb : TS} {D : Ends} {σ : L2.St} {H Z H0 : Hp}
theorem forKO {γ : Type} [Py γ] {L : List γ} {p : Addr} {g : TG} (Pv : List γ → L2.St → Hp → Hp → Prop) (keep : ∀ r σ H' Z', Pv r σ H' Z' → Same Z Z' ∧ Same Z' H' ∧ Own K H0 Z' H' p L) (h0 : ∃ Z', Pv L σ H Z')
    (turn : ∀ a r x σ H' Z', a ∈ L → (∃ d, L = d ++ a :: r) → Pv (a :: r) σ H' Z' → Py.R K Z' x a → g x σ H' fun σ2 H3 => tb { D with nx := fun σ' H' => ∃ Z2, Pv r σ' H' Z2, ct := fun σ' H' => ∃ Z2, Pv r σ' H' Z2, bk := D.nx } σ2 H3)
    (done : ∀ σ H' Z', Pv [] σ H' Z' → D.nx σ H') : forRest (Itl K p) g tb D σ H := by
  refine ⟨fun i m σ H' => i ≤ L.length ∧ m = L.length - i ∧ ∃ Z', Pv (L.drop i) σ H' Z', ⟨L.length, Nat.zero_le _, by omega, h0⟩, ?_⟩
  rintro i m σ H' ⟨hi, rfl, Z', hp⟩
  obtain ⟨k1, k2, ⟨xs, hl, pr⟩, _, _⟩ := keep _ _ _ _ hp
  by_cases hlt : i < L.length
  · have e : L.drop i = L[i] :: L.drop (i + 1) := List.drop_eq_getElem_cons hlt
    have ea : L[i]? = some L[i] := List.getElem?_eq_getElem hlt
    rw [e] at hp
    obtain ⟨x0, hx, hr⟩ := pr.pAt ea
    refine .inr ⟨⟨xs, x0, SqL.of hl, hx⟩, fun σ' H' => ∃ Z2, Pv (L.drop (i + 1)) σ' H' Z2, fun σ' H2 q => ⟨L.length - (i + 1), by omega, hlt, rfl, q⟩, fun x H2 y => ?_⟩
    obtain ⟨rfl, y⟩ := y
    have h3 := y xs (SqL.of hl)
    rw [hx] at h3
    cases h3
    exact turn _ _ _ σ _ Z' (List.getElem_mem hlt) ⟨L.take i, by rw [← e, List.take_append_drop]⟩ hp hr
  · have e : i = L.length := by omega
    subst e
    rw [List.drop_length] at hp
    exact .inl ⟨⟨xs, SqL.of hl, by rw [pr.pLen]; exact Nat.le_refl _⟩, done σ H' Z' hp⟩
end
end Cd

set_option Elab.async false
set_option linter.all false
set_option maxRecDepth 100000
set_option maxHeartbeats 4000000
namespace Cd
open PySem L2 PyProof.Rows
/-! ### dicts: keys are whole numbers or texts -/
section
variable {κ α : Type} [DecidableEq κ]
def dGet (m : List (κ × α)) (k : κ) : Option α := (m.find? fun p => decide (p.1 = k)).map (·.2)
def dPut (m : List (κ × α)) (k : κ) (a : α) : List (κ × α) := if (m.any fun p => decide (p.1 = k)) = true then m.map (fun p => if p.1 = k then (p.1, a) else p) else m ++ [(k, a)]
def dDrop (m : List (κ × α)) (k : κ) : List (κ × α) := m.filter fun p => decide (p.1 ≠ k)
theorem dGet_pos {p : κ × α} {r : List (κ × α)} {k : κ} (e : p.1 = k) : dGet (p :: r) k = some p.2 := by simp [dGet, List.find?_cons, e]
theorem dGet_neg {p : κ × α} {r : List (κ × α)} {k : κ} (e : ¬ p.1 = k) : dGet (p :: r) k = dGet r k := by simp [dGet, List.find?_cons, e]
theorem dGet_any (k : κ) : ∀ m : List (κ × α), (m.any fun p => decide (p.1 = k)) = (dGet m k).isSome
  | [] => rfl
  | p :: r => by
    rw [List.any_cons]
    by_cases e : p.1 = k
    · simp only [dGet_pos e, decide_eq_true e, Bool.true_or, Option.isSome_some]
    · rw [dGet_neg e, decide_eq_false e, Bool.false_or]; exact dGet_any k r
theorem dGet_isSome (m : List (κ × α)) (k : κ) : (dGet m k).isSome = decide (k ∈ m.map (·.1)) := by
  induction m with
  | nil => simp [dGet]
  | cons p r ih =>
    by_cases e : p.1 = k
    · rw [dGet_pos e]; simp [e]
    · rw [dGet_neg e, ih]
      have e2 : ¬ k = p.1 := fun z => e z.symm
      simp [e2]
theorem dPut_len (m : List (κ × α)) (k : κ) (a : α) : (dPut m k a).length ≤ m.length + 1 := by
  unfold dPut
  split
  · rw [List.length_map]; omega
  · rw [List.length_append]; exact Nat.le_refl _
theorem dGet_mem {m : List (κ × α)} {k : κ} {a : α} (h : dGet m k = some a) : (k, a) ∈ m := by
  induction m with
  | nil => cases h
  | cons p r ih =>
    by_cases e : p.1 = k
    · rw [dGet_pos e] at h
      cases h
      rw [← e]
      exact List.mem_cons_self
    · rw [dGet_neg e] at h
      exact List.mem_cons_of_mem _ (ih h)
theorem dPut_keys (m : List (κ × α)) (k : κ) (a : α) : (dPut m k a).map (·.1) = if k ∈ m.map (·.1) then m.map (·.1) else m.map (·.1) ++ [k] := by
  unfold dPut
  rw [dGet_any, dGet_isSome]
  by_cases h : k ∈ m.map (·.1)
  · rw [if_pos (decide_eq_true h), if_pos h, List.map_map]
    apply List.map_congr_left
    intro p _
    show (if p.1 = k then (p.1, a) else p).1 = p.1
    split <;> rfl
  · rw [if_neg (by simpa using h), if_neg h, List.map_append]
    rfl
theorem dPut_nodup {m : List (κ × α)} {k : κ} {a : α} (h : (m.map (·.1)).Nodup) : ((dPut m k a).map (·.1)).Nodup := by
  rw [dPut_keys]
  split
  · exact h
  · rename_i hk
    rw [List.nodup_append]
    refine ⟨h, by simp, fun x hx y hy => ?_⟩
    rw [List.mem_singleton] at hy
    subst hy
    exact fun e => hk (e ▸ hx)
/-- a dict, its entries by their coming -/
structure Dct (κ α : Type) where
  kv : List (κ × α)
deriving DecidableEq, Inhabited
end
class Kt (κ : Type) [Sc κ] where
  key : κ → Key
  inj : ∀ {a b : κ}, key a = key b → a = b
  emb_is : ∀ k : κ, kV (key k) = Sc.emb k
instance : Kt Int := { key := Sum.inl, inj := fun h => Sum.inl.inj h, emb_is := fun _ => rfl }
instance : Kt Str := { key := Sum.inr, inj := fun h => Sum.inr.inj h, emb_is := fun _ => rfl }
section
variable {κ α : Type} [Sc κ] [DecidableEq κ] [Kt κ] [Py α]
def EntK (K : Fr) (Z : Hp) (p : Key × V) (q : κ × α) : Prop := p.1 = Kt.key q.1 ∧ Py.R K Z p.2 q.2
theorem EntK.mono {K : Fr} {Z Z' : Hp} (s : Same Z Z') {p : Key × V} {q : κ × α} (h : EntK K Z p q) : EntK K Z' p q := ⟨h.1, Py.mono s h.2⟩
instance : Py (Dct κ α) where
  R K Z v d := ∃ a kvs, v = .ref a ∧ Z a = some (.dK kvs) ∧ Paired (EntK K Z) kvs d.kv
  mono := fun {K Z Z' v l} s h => by
    obtain ⟨a, xs, e, hz, p⟩ := h
    exact ⟨a, xs, e, s _ _ hz, Paired.pImp (fun _ _ r => r.mono s) p⟩
theorem ent_get {K : Fr} {Z : Hp} : ∀ {kvs : List (Key × V)} {m : List (κ × α)} (k : κ), Paired (EntK K Z) kvs m → (valV kvs (Kt.key k) = none ∧ dGet m k = none) ∨ ∃ v a, valV kvs (Kt.key k) = some v ∧ dGet m k = some a ∧ Py.R K Z v a
  | _, _, k, .nil => .inl ⟨rfl, rfl⟩
  | p :: _, q :: _, k, .cons r t => by
    by_cases e : q.1 = k
    · exact .inr ⟨p.2, q.2, valV_pos (r.1.trans (by rw [e])), dGet_pos e, r.2⟩
    · rw [valV_neg (fun h => e (Kt.inj (r.1.symm.trans h))), dGet_neg e]
      exact ent_get k t
theorem ent_isSome {K : Fr} {Z : Hp} {kvs : List (Key × V)} {m : List (κ × α)} (k : κ) (p : Paired (EntK K Z) kvs m) : (valV kvs (Kt.key k)).isSome = (dGet m k).isSome := by
  rcases ent_get k p with ⟨h1, h2⟩ | ⟨v, a, h1, h2, _⟩ <;> rw [h1, h2] <;> rfl
theorem ent_set {K : Fr} {Z : Hp} {k : κ} {v : V} {a : α} (hv : Py.R K Z v a) : ∀ {kvs : List (Key × V)} {m : List (κ × α)}, Paired (EntK K Z) kvs m → Paired (EntK K Z) (kvs.map fun p => if p.1 = Kt.key k then (p.1, v) else p) (m.map fun p => if p.1 = k then (p.1, a) else p)
  | _, _, .nil => .nil
  | p :: _, q :: _, .cons r t => by
    rw [List.map_cons, List.map_cons]
    refine .cons ?_ (ent_set hv t)
    by_cases e : q.1 = k
    · rw [if_pos e, if_pos (r.1.trans (by rw [e]))]
      exact ⟨r.1, hv⟩
    · rw [if_neg e, if_neg (fun h => e (Kt.inj (r.1.symm.trans h)))]
      exact r
theorem ent_put {K : Fr} {Z : Hp} {kvs : List (Key × V)} {m : List (κ × α)} {k : κ} {v : V} {a : α} (p : Paired (EntK K Z) kvs m) (hv : Py.R K Z v a) : Paired (EntK K Z) (putK kvs (Kt.key k) v) (dPut m k a) := by
  unfold putK dPut
  rw [valV_any, dGet_any, ent_isSome k p]
  split
  · exact ent_set hv p
  · exact p.pApp (.cons ⟨rfl, hv⟩ .nil)
theorem ent_keys {K : Fr} {Z : Hp} : ∀ {kvs : List (Key × V)} {m : List (κ × α)}, Paired (EntK K Z) kvs m → kvs.map (·.1) = m.map fun q => Kt.key q.1
  | _, _, .nil => rfl
  | _, _, .cons r t => by rw [List.map_cons, List.map_cons, r.1, ent_keys t]
end
/-! ### a dict of one's own -/
section
variable {κ α : Type} [Sc κ] [DecidableEq κ] [Kt κ] [Py α] {K : Fr} {Z H Z0 H0 Z' H' : Hp} {Q : VK}
structure OwnD (K : Fr) (H0 Z H : Hp) (l : Addr) (m : Dct κ α) : Prop where
  ex : ∃ kvs, H l = some (.dK kvs) ∧ Paired (EntK K Z) kvs m.kv
  nz : Z l = none
  n0 : H0 l = none
theorem OwnD.step {l : Addr} {m : Dct κ α} (o : OwnD K H0 Z H l m) (st : Step Z H Z' H') : OwnD K H0 Z' H' l m := by
  obtain ⟨⟨xs, h, p⟩, nz, n0⟩ := o
  exact ⟨⟨xs, st.hh _ _ h, Paired.pImp (fun _ _ r => r.mono st.zz) p⟩, (st.fr _ _ h).trans nz, n0⟩
theorem OwnD.far {l q : Addr} {u : HO} {m : Dct κ α} (o : OwnD K H0 Z H l m) (ne : l ≠ q) : OwnD K H0 Z (upd H q u) l m := by
  obtain ⟨⟨xs, h, p⟩, nz, n0⟩ := o
  exact ⟨⟨xs, by rw [upd_ne ne]; exact h, p⟩, nz, n0⟩
theorem OwnD.tell {l : Addr} {m : Dct κ α} (o : OwnD K H0 Z H l m) (c : Step Z0 H0 Z H) : ∃ Z', Step Z0 H0 Z' H ∧ Same Z Z' ∧ Py.R K Z' (.ref l) m ∧ ∀ q, q ≠ l → Z' q = Z q := by
  obtain ⟨⟨xs, h, p⟩, nz, n0⟩ := o
  obtain ⟨c', s⟩ := c.tell h nz n0
  exact ⟨_, c', s, ⟨l, xs, rfl, upd_same, Paired.pImp (fun _ _ r => r.mono s) p⟩, fun q hq => upd_ne hq⟩
theorem OwnD.zfar {l : Addr} {m : Dct κ α} (o : OwnD K H0 Z H l m) (s : Same Z Z') (hz : Z' l = Z l) : OwnD K H0 Z' H l m := by
  obtain ⟨⟨xs, h, p⟩, nz, n0⟩ := o
  exact ⟨⟨xs, h, Paired.pImp (fun _ _ r => r.mono s) p⟩, hz.trans nz, n0⟩
theorem OwnD.at {l : Addr} {m : Dct κ α} (o : OwnD K H0 Z H l m) : ∃ u, H l = some u := let ⟨⟨_, h, _⟩, _, _⟩ := o; ⟨_, h⟩
theorem OwnD.ne_new {l p : Addr} {m : Dct κ α} (o : OwnD K H0 Z H l m) (h : H p = none) : l ≠ p := let ⟨_, h1⟩ := o.at; ne_of_none h1 h
/-- a new dict comes -/
def NewD (K : Fr) (Z H : Hp) (Q : VK) (m : Dct κ α) : Prop :=
  ∀ p xs Z' H', Step Z H Z' H' → H p = none → H' p = some (.dK xs) → Z' p = none → Paired (EntK K Z') xs m.kv → Q (.ref p) H'
theorem NewD.tel {m : Dct κ α} (k : Tel K Z H Q m) : NewD K Z H Q m := fun p xs Z' H' st hp hl hz pr => by
  obtain ⟨c', s⟩ := st.tell hl hz hp
  exact k _ _ _ c' ⟨p, xs, rfl, upd_same, Paired.pImp (fun _ _ r => r.mono s) pr⟩
theorem NewD.own {m : Dct κ α} (c : Step Z0 H0 Z H) (k : ∀ p Z' H', Step Z H Z' H' → H p = none → OwnD K H0 Z' H' p m → Q (.ref p) H') : NewD K Z H Q m := fun p xs Z' H' st hp hl hz pr =>
  k p Z' H' st hp ⟨⟨xs, hl, pr⟩, hz, c.hh.free hp⟩
theorem NewD.gen {m : Dct κ α} (k : ∀ n, n = m → NewD K Z H Q n) : NewD K Z H Q m := k m rfl
theorem NewD.after {m : Dct κ α} (c : Step Z0 H0 Z H) (k : NewD K Z0 H0 Q m) : NewD K Z H Q m := fun p xs Z' H' st hp hl hz pr => k p xs Z' H' (c.trans st) (c.hh.free hp) hl hz pr
theorem NewD.lay {m : Dct κ α} {xs : List (Key × V)} (s : Same Z H) (pr : Paired (EntK K Z) xs m.kv) (k : NewD K Z H Q m) : ∀ p, H p = none → Q (.ref p) (upd H p (.dK xs)) := fun p hp =>
  k p xs Z _ (Step.own s hp) hp upd_same (s.free hp) pr
theorem OwnD.ret {p : Addr} {m : Dct κ α} (o : OwnD K H0 Z H p m) (c : Step Z0 H0 Z H) (k : NewD K Z0 H0 Q m) : Q (.ref p) H := by
  obtain ⟨⟨xs, hl, pr⟩, nz, n0⟩ := o
  exact k p xs Z H c n0 hl nz pr
/-- a dict read: told, or one's own -/
theorem DGet.r {H : Hp} {a : Addr} {kvs : List (Key × V)} {k : Key} (e : Rd H a (.dK kvs)) : DGet H a (kV k) (valV kvs k) := .inl ⟨kvs, k, e, rfl, rfl⟩
def RD (K : Fr) (Z H : Hp) (v : V) (m : Dct κ α) : Prop := ∃ a kvs, v = .ref a ∧ Rd H a (.dK kvs) ∧ Paired (EntK K Z) kvs m.kv
def RDx (K : Fr) (Z H : Hp) (v : V) (m : Dct κ α) : Prop := ∃ a kvs, v = .ref a ∧ H a = some (.dK kvs) ∧ Paired (EntK K Z) kvs m.kv
theorem RDx.own {p : Addr} {m : Dct κ α} (o : OwnD K H0 Z H p m) : RDx K Z H (.ref p) m := let ⟨⟨xs, h, pr⟩, _, _⟩ := o; ⟨p, xs, rfl, h, pr⟩
theorem RDx.tell {v : V} {m : Dct κ α} (zh : Same Z H) (h : Py.R K Z v m) : RDx K Z H v m := let ⟨a, xs, e, hz, pr⟩ := h; ⟨a, xs, e, zh _ _ hz, pr⟩
theorem RD.own {p : Addr} {m : Dct κ α} (o : OwnD K H0 Z H p m) : RD K Z H (.ref p) m := let ⟨⟨xs, h, pr⟩, _, _⟩ := o; ⟨p, xs, rfl, .inl h, pr⟩
theorem RD.tell {v : V} {m : Dct κ α} (zh : Same Z H) (h : Py.R K Z v m) : RD K Z H v m := let ⟨a, xs, e, hz, pr⟩ := h; ⟨a, xs, e, .inl (zh _ _ hz), pr⟩
/-! what the operations ask -/
def rDNewQ : Hp → VK → Prop := fun H Q => ∀ p, H p = none → Q (.ref p) (upd H p (.dK []))
def tDNewQ : TE := fun _ H Q => rDNewQ H Q
theorem pe_dnewQ {X : Cx} {pos : Pos} : PE X (.Dict [] [] pos) tDNewQ := pe_dnewK
theorem k_dnew (zh : Same Z H) (k : NewD K Z H Q (⟨[]⟩ : Dct κ α)) : rDNewQ H Q := NewD.lay zh .nil k
def rDInQ (neg : Bool) : V → V → Hp → VK → Prop := fun y x H Q => ∃ a o, x = .ref a ∧ DGet H a y o ∧ Q (.bl (if neg = true then !o.isSome else o.isSome)) H
def tDInQ (neg : Bool) (ty td : TE) : TE := fun σ H Q => ty σ H fun y H1 => td σ H1 fun x H2 => rDInQ neg y x H2 Q
theorem pc_dninQ {X : Cx} {i o : Expr} {ty td : TE} (hu : X.A.units + 1 < cLine) (hi : PE X i ty) (ho : PE X o td) : PC X .NotIn i o (tDInQ true ty td) := pc_dnotin hu hi ho
theorem k_dnin {m : Dct κ α} {v : V} {k0 : κ} (h : RD K Z H v m) (k : Q (.bl (!decide (k0 ∈ m.kv.map (·.1)))) H) : rDInQ true (Sc.emb k0) v H Q := by
  obtain ⟨a, kvs, rfl, hl, pr⟩ := h
  refine ⟨a, valV kvs (Kt.key k0), rfl, by rw [← Kt.emb_is]; exact DGet.r hl, ?_⟩
  rw [if_pos rfl, ent_isSome k0 pr, dGet_isSome]
  exact k
def rDGetQ : V → V → Hp → VK → Prop := fun x y H Q => ∃ a v, x = .ref a ∧ DGet H a y (some v) ∧ Q v H
def tDGetQ (td ty : TE) : TE := fun σ H Q => td σ H fun x H1 => ty σ H1 fun y H2 => rDGetQ x y H2 Q
theorem pe_dgetQ {X : Cx} {o i : Expr} {td ty : TE} {pos : Pos} (hu : X.A.units + 1 < cLine) (ho : PE X o td) (hi : PE X i ty) (hs : NoSl i) : PE X (.Subscript o i pos) (tDGetQ td ty) := pe_dget hu ho hi hs
/-- the value at a key that is there -/
def dAt [Inhabited α] (m : Dct κ α) (k : κ) : α := (dGet m.kv k).getD default
theorem k_dget [Inhabited α] {m : Dct κ α} {v : V} {k0 : κ} (h : RD K Z H v m) (hk : k0 ∈ m.kv.map (·.1)) (k : ∀ y, Py.R K Z y (dAt m k0) → Q y H) : rDGetQ v (Sc.emb k0) H Q := by
  obtain ⟨a, kvs, rfl, hl, pr⟩ := h
  have hs : (dGet m.kv k0).isSome = true := by rw [dGet_isSome]; exact decide_eq_true hk
  rcases ent_get k0 pr with ⟨h1, h2⟩ | ⟨w, b, h1, h2, h3⟩
  · rw [h2] at hs; cases hs
  · refine ⟨a, w, rfl, by rw [← Kt.emb_is, ← h1]; exact DGet.r hl, k w ?_⟩
    unfold dAt
    rw [h2]
    exact h3
def rIsD (x : V) (H : Hp) (R : Addr → Prop) : Prop := ∃ a, x = .ref a ∧ IsD H a ∧ R a
def rDGet2Q (a : Addr) : V → V → Hp → VK → Prop := fun y z H Q => ∃ o, DGet H a y o ∧ Q (o.getD z) H
def tDGet2Q (td ty tx : TE) : TE := fun σ H Q => td σ H fun x H1 => rIsD x H1 fun a => ty σ H1 fun y H2 => tx σ H2 fun z H3 => rDGet2Q a y z H3 Q
/-! stores -/
def rDPutQ : V → V → V → Hp → (Hp → Prop) → Prop := fun v x y H R => ∃ a H4, x = .ref a ∧ DPut H a y v H4 ∧ R H4
def sDPutQ (td ty tv : TE) : TS := fun D σ H => tv σ H fun v H1 => td σ H1 fun x H2 => ty σ H2 fun y H3 => rDPutQ v x y H3 fun H4 => D.nx σ H4
theorem ps_dputQ {X : Cx} {o i value : Expr} {td ty tv : TE} {pos' pos : Pos} (hu : X.A.units + 1 < cLine) (ho : PE X o td) (hi : PE X i ty) (hv : PE X value tv) (hs : swapsWith value (some (.Subscript o i pos')) pos.line X.env = pure false) : PS X (.Assign [.Subscript o i pos'] value pos) (sDPutQ td ty tv) := ps_dput hu ho hi hv hs
theorem k_dput {m : Dct κ α} {q : Addr} {v : V} {k0 : κ} {a : α} {R : Hp → Prop} (o : OwnD K H0 Z H q m) (h : Py.R K Z v a) (hs : m.kv.length < sizeLine) (k : ∀ u, OwnD K H0 Z (upd H q u) q (⟨dPut m.kv k0 a⟩ : Dct κ α) → R (upd H q u)) : rDPutQ v (.ref q) (Sc.emb k0) H R := by
  obtain ⟨⟨xs, hz, pr⟩, nz, n0⟩ := o
  exact ⟨q, _, rfl, by rw [← Kt.emb_is]; exact DPut.k hz (by rw [pr.pLen]; exact hs), k _ ⟨⟨_, upd_same, ent_put pr h⟩, nz, n0⟩⟩
def rDSetQ (a : Addr) : V → V → Hp → VK → Prop := fun y z H Q => ∃ (kvs : List (Key × V)) (k : Key), H a = some (.dK kvs) ∧ y = kV k ∧ kvs.length < sizeLine ∧ (∀ v, valV kvs k = some v → Q v H) ∧ (valV kvs k = none → Q z (upd H a (.dK (putK kvs k z))))
def tDSetQ (td ty tx : TE) : TE := fun σ H Q => td σ H fun x H1 => rIsD x H1 fun a => ty σ H1 fun y H2 => tx σ H2 fun z H3 => rDSetQ a y z H3 Q
/-- d.setdefault(k, b): the dict behind it -/
def dSet (m : List (κ × α)) (k : κ) (b : α) : List (κ × α) := if k ∈ m.map (·.1) then m else dPut m k b
/-! len, copies, sorted -/
def rDLenQ : List V → Hp → VK → Prop := fun xs H Q => ∃ a kvs, xs = [V.ref a] ∧ H a = some (.dK kvs) ∧ Q (.int kvs.length) H
def rDCopyQ : List V → Hp → VK → Prop := fun xs H Q => ∃ (a : Addr) (kvs : List (Key × V)), xs = [.ref a] ∧ Rd H a (.dK kvs) ∧ ∀ p, H p = none → Q (.ref p) (upd H p (.dK kvs))
theorem tyD {q : Addr} {m : Dct κ α} (o : OwnD K H0 Z H q m) : IsD H q := let ⟨⟨xs, h, _⟩, _, _⟩ := o; .inl ⟨xs, .inl h⟩
theorem Pt.dct {v : V} {m : Dct κ α} (zh : Same Z H) (h : Py.R K Z v m) : Pt K H v "dict" := by
  obtain ⟨a, xs, rfl, hz, p⟩ := h
  exact .of (.base (.dK (zh _ _ hz)))
instance : PtT (Dct κ α) := ⟨"dict", fun zh h => Pt.dct zh h⟩
instance : Nn (Dct κ α) := ⟨fun h e => by obtain ⟨a, xs, e2, _⟩ := h; rw [e2] at e; cases e⟩
end
/-! sorted(d), keys whole numbers -/
section
variable {α : Type} [Py α] {K : Fr} {Z H Z0 H0 : Hp} {Q : VK}
def sortI (l : List Int) : List Int := l.mergeSort (fun a b => decide (a ≤ b))
def rSortDIQ : List V → Hp → VK → Prop := fun xs H Q => ∃ (a : Addr) (kvs : List (Key × V)) (ks : List Int), xs = [.ref a] ∧ Rd H a (.dK kvs) ∧ kvs.map (·.1) = ks.map Sum.inl ∧ ks.length < 64 ∧ ∀ (ys : List Int) (p : Addr), ys.Perm ks → ys.Pairwise (· ≤ ·) → H p = none → Q (.ref p) (upd H p (.lst (ys.map V.int)))
def rSortIQ (K : Fr) : List V → Hp → VK → Prop := fun vs H Q => ∃ (a : Addr) (ns : List Int), vs = [V.ref a] ∧ SqL K H a (ns.map V.int) ∧ ∀ (ns' : List Int) (p : Addr), ns'.Perm ns → ns'.Pairwise (· ≤ ·) → H p = none → Q (.ref p) (upd H p (.lst (ns'.map V.int)))
end
end Cd

set_option Elab.async false
set_option linter.all false
set_option maxRecDepth 100000
set_option maxHeartbeats 4000000
namespace Cd
open PySem L2 PyProof.Rows
/-! ### own lists and dicts lent to a call: what comes back holds no list and no dict -/
def BrO (Z : Hp) (p : Addr) : Prop := (∃ xs, Z p = some (.lst xs)) ∨ ∃ kvs, Z p = some (.dK kvs)
def delL (Z : Hp) (ps : List Addr) : Hp := fun q => if q ∈ ps then none else Z q
class NL (α : Type) [Py α] : Prop where
  back : ∀ {K : Fr} {Z : Hp} {v : V} {a : α} {ps : List Addr}, (∀ p ∈ ps, BrO Z p) → Py.R K Z v a → Py.R K (delL Z ps) v a
instance (priority := low) {α : Type} [Py α] [NoZ α] : NL α := ⟨fun _ h => NoZ.back h⟩
theorem delL_tup {Z : Hp} {ps : List Addr} {a : Addr} {xs : List V} (h : ∀ p ∈ ps, BrO Z p) (e : Z a = some (.tup xs)) : delL Z ps a = some (.tup xs) := by
  unfold delL
  rw [if_neg]
  · exact e
  · intro hm
    rcases h a hm with ⟨x, h⟩ | ⟨x, h⟩ <;> rw [h] at e <;> cases e
instance {α β : Type} [Py α] [Py β] [NL α] [NL β] : NL (α × β) := ⟨fun h r => by
  obtain ⟨a, x, y, e, hz, h1, h2⟩ := r
  exact ⟨a, x, y, e, delL_tup h hz, NL.back h h1, NL.back h h2⟩⟩
instance {α β γ : Type} [Py α] [Py β] [Py γ] [NL α] [NL β] [NL γ] : NL (T3 α β γ) := ⟨fun h r => by
  obtain ⟨a, x, y, z, e, hz, h1, h2, h3⟩ := r
  exact ⟨a, x, y, z, e, delL_tup h hz, NL.back h h1, NL.back h h2, NL.back h h3⟩⟩
instance {α β γ δ : Type} [Py α] [Py β] [Py γ] [Py δ] [NL α] [NL β] [NL γ] [NL δ] : NL (T4 α β γ δ) := ⟨fun h r => by
  obtain ⟨a, x, y, z, w, e, hz, h1, h2, h3, h4⟩ := r
  exact ⟨a, x, y, z, w, e, delL_tup h hz, NL.back h h1, NL.back h h2, NL.back h h3, NL.back h h4⟩⟩
instance {α β γ : Type} [Py α] [Py β] [Py γ] [NL α] [NL β] [NL γ] : NL (TO α β γ) := ⟨fun {K Z v p ps} h r => by
  obtain ⟨x1, x2, x3⟩ := p
  obtain ⟨a, x, y, e, h1, h2, h3⟩ := r
  refine ⟨a, x, y, e, NL.back h h1, NL.back h h2, ?_⟩
  cases x3 with
  | none => exact delL_tup h h3
  | some c =>
    obtain ⟨z, hz, h4⟩ := h3
    exact ⟨z, delL_tup h hz, NL.back h h4⟩⟩
instance {α : Type} [Py α] [NL α] : NL (Option α) := ⟨fun {K Z v a ps} h r => by
  cases a with
  | none => exact r
  | some a => exact NL.back (α := α) h r⟩
structure Brw (Z Zb : Hp) (ps : List Addr) : Prop where
  s : Same Z Zb
  zf : ∀ q, q ∉ ps → Zb q = Z q
  hl : ∀ p ∈ ps, BrO Zb p
  hz : ∀ p ∈ ps, Z p = none
theorem Brw.nil (Z : Hp) : Brw Z Z [] := ⟨Same.refl _, fun _ _ => rfl, (fun _ h => nomatch h), (fun _ h => nomatch h)⟩
section
variable {K : Fr} {Z Zb Zc H H0 Z2 H2 : Hp} {Q : VK} {ps : List Addr}
theorem BrO.mono {p : Addr} (s : Same Zb Zc) (h : BrO Zb p) : BrO Zc p := by
  rcases h with ⟨x, h⟩ | ⟨x, h⟩
  · exact .inl ⟨x, s _ _ h⟩
  · exact .inr ⟨x, s _ _ h⟩
theorem BrO.lst {α : Type} [Py α] {p : Addr} {m : List α} (h : Py.R K Zc (.ref p) m) : BrO Zc p := by
  obtain ⟨a, xs, e, hz, _⟩ := h
  cases e
  exact .inl ⟨xs, hz⟩
theorem BrO.dct {κ α : Type} [Sc κ] [DecidableEq κ] [Kt κ] [Py α] {p : Addr} {m : Dct κ α} (h : Py.R K Zc (.ref p) m) : BrO Zc p := by
  obtain ⟨a, xs, e, hz, _⟩ := h
  cases e
  exact .inr ⟨xs, hz⟩
theorem Brw.step (b : Brw Z Zb ps) (zh : Same Z H) (st : Step Zb H Z2 H2) : Step Z H (delL Z2 ps) H2 := by
  refine ⟨st.hh, fun q u e => ?_, fun q u e => ?_, fun q u e => ?_⟩
  · unfold delL
    rw [if_neg (fun hm => by rw [b.hz q hm] at e; cases e)]
    exact st.zz _ _ (b.s _ _ e)
  · unfold delL at e
    split at e
    · cases e
    · exact st.zh _ _ e
  · unfold delL
    by_cases hm : q ∈ ps
    · rw [if_pos hm, b.hz q hm]
    · rw [if_neg hm, st.fr q u e, b.zf q hm]
theorem Brw.after (b : Brw Z Zb ps) (st : Step Zb H Z2 H2) : Brw (delL Z2 ps) Z2 ps := by
  refine ⟨fun q u e => ?_, fun q hq => ?_, fun q hq => (b.hl q hq).mono st.zz, fun q hq => ?_⟩
  · unfold delL at e
    split at e
    · cases e
    · exact e
  · unfold delL
    rw [if_neg hq]
  · unfold delL
    rw [if_pos hq]
theorem Brw.fin (b : Brw Z Zb ps) (zh : Same Z H) (st : Step Zb H Z2 H2) : ∃ Z3, Step Z H Z3 H2 ∧ Brw Z3 Z2 ps := ⟨delL Z2 ps, b.step zh st, b.after st⟩
theorem Tel.brw {α : Type} [Py α] [NL α] {m : α} (b : Brw Z Zb ps) (zh : Same Z H) (k : Tel K Z H Q m) : Tel K Zb H Q m := fun v Z' H' st h =>
  k v _ H' (b.step zh st) (NL.back (fun p hp => (b.hl p hp).mono st.zz) h)
theorem New.brw {α : Type} [Py α] [NL α] {m : List α} (b : Brw Z Zb ps) (zh : Same Z H) (k : New K Z H Q m) : New K Zb H Q m := fun p xs Z' H' st hp hl hz pr =>
  k p xs _ H' (b.step zh st) hp hl (by unfold delL; split; rfl; exact hz) (Paired.pImp (fun _ _ r => NL.back (fun q hq => (b.hl q hq).mono st.zz) r) pr)
theorem NewD.brw {κ α : Type} [Sc κ] [DecidableEq κ] [Kt κ] [Py α] [NL α] {m : Dct κ α} (b : Brw Z Zb ps) (zh : Same Z H) (k : NewD K Z H Q m) : NewD K Zb H Q m := fun p xs Z' H' st hp hl hz pr =>
  k p xs _ H' (b.step zh st) hp hl (by unfold delL; split; rfl; exact hz) (Paired.pImp (fun _ _ r => ⟨r.1, NL.back (fun q hq => (b.hl q hq).mono st.zz) r.2⟩) pr)
end
end Cd

set_option Elab.async false
set_option linter.all false
set_option maxRecDepth 100000
set_option maxHeartbeats 4000000
namespace Cd
open PySem L2 PyProof.Rows
/-! ### sorted(..) of data of one shape, of any length -/
def leD {α : Type} [Py α] [DecidableEq α] [PyD α] : α → α → Bool := PySem.W.dataLe false PyD.d
def sortD {α : Type} [Py α] [DecidableEq α] [PyD α] (l : List α) : List α := l.mergeSort leD
/-- data of one shape that can be put in order -/
class SrtD (α : Type) [Py α] [DecidableEq α] [PyD α] : Prop where
  alike : ∀ a b : α, PySem.W.alike (PyD.d a) (PyD.d b) = true
  sortable : ∀ l : List α, PySem.W.Sortable (l.map PyD.d)
instance : SrtD Int := ⟨fun a b => by simp [PyD.d, PySem.W.alike], fun l => PySem.W.Sortable.others fun b => by simp [PyD.d]⟩
instance : SrtD Str := ⟨fun a b => by simp [PyD.d, PySem.W.alike], fun l => PySem.W.Sortable.others fun b => by simp [PyD.d]⟩
instance {α β : Type} [Py α] [DecidableEq α] [PyD α] [Py β] [DecidableEq β] [PyD β] [SrtD α] [SrtD β] : SrtD (α × β) := ⟨fun a b => by
  show PySem.W.alikeAll [PyD.d a.1, PyD.d a.2] [PyD.d b.1, PyD.d b.2] = true
  simp [PySem.W.alikeAll, SrtD.alike], fun l => PySem.W.Sortable.tuples fun b => ⟨_, _, rfl⟩⟩
instance {α β γ : Type} [Py α] [DecidableEq α] [PyD α] [Py β] [DecidableEq β] [PyD β] [Py γ] [DecidableEq γ] [PyD γ] [SrtD α] [SrtD β] [SrtD γ] : SrtD (T3 α β γ) := ⟨fun a b => by
  show PySem.W.alikeAll [PyD.d a.x1, PyD.d a.x2, PyD.d a.x3] [PyD.d b.x1, PyD.d b.x2, PyD.d b.x3] = true
  simp [PySem.W.alikeAll, SrtD.alike], fun l => PySem.W.Sortable.tuples fun b => ⟨_, _, rfl⟩⟩
def rSortDQ (K : Fr) (α : Type) [Py α] [DecidableEq α] [PyD α] : List V → Hp → VK → Prop := fun vs H Q => ∃ (a : Addr) (xs : List V) (l : List α), vs = [V.ref a] ∧ SqL K H a xs ∧ Paired (fun x b => Dp K H x (PyD.d b)) xs l ∧
  ∀ (zs : List (V × α)) (p : Addr), zs = (xs.zip l).mergeSort (PySem.W.dataLe false fun z => PyD.d z.2) → H p = none → Q (.ref p) (upd H p (.lst (zs.map (·.1))))
/-! the order in plain words -/
theorem leD_int (a b : Int) : leD a b = decide (a ≤ b) := by
  show (!PySem.W.dataLt (.int b) (.int a)) = _
  rw [PySem.W.dataLt_int, PySem.W.not_lt_int]
theorem leD_str (a b : Str) : leD a b = decide (a.cps.toList ≤ b.cps.toList) := by
  show (!PySem.W.dataLt (.str b) (.str a)) = _
  rw [PySem.W.dataLt_str, PySem.W.not_lt_str]
theorem leD_refl {α : Type} [Py α] [DecidableEq α] [PyD α] (a : α) : leD a a = true := by
  show (!PySem.W.dataLt (PyD.d a) (PyD.d a)) = true
  unfold PySem.W.dataLt
  rw [PyProof.Rows.lex_irrefl]
  rfl
theorem leD_pair {α β : Type} [Py α] [DecidableEq α] [PyD α] [Py β] [DecidableEq β] [PyD β] [SrtD α] [SrtD β] (p q : α × β) : leD p q = if p.1 = q.1 then leD p.2 q.2 else leD p.1 q.1 := by
  show (!PySem.W.dataLt (.tuple [PyD.d q.1, PyD.d q.2]) (.tuple [PyD.d p.1, PyD.d p.2])) = _
  rw [PySem.W.dataLt_pair (SrtD.alike _ _) (SrtD.alike _ _), PyD.eqv, PyD.eqv]
  by_cases h : q.1 = p.1
  · rw [if_pos (decide_eq_true h), if_pos h.symm]
    by_cases h2 : q.2 = p.2
    · rw [if_pos (decide_eq_true h2), h2, leD_refl]
      rfl
    · rw [if_neg (by simpa using h2)]
      rfl
  · rw [if_neg (by simpa using h), if_neg (fun e => h e.symm)]
    rfl
/-- a total order -/
class OrdD (α : Type) [Py α] [DecidableEq α] [PyD α] : Prop where
  tr : ∀ a b c : α, leD a b = true → leD b c = true → leD a c = true
  tot : ∀ a b : α, leD a b = true ∨ leD b a = true
  anti : ∀ a b : α, leD a b = true → leD b a = true → a = b
instance : OrdD Int := ⟨fun a b c h1 h2 => by rw [leD_int, decide_eq_true_eq] at *; omega, fun a b => by rw [leD_int, leD_int, decide_eq_true_eq, decide_eq_true_eq]; omega, fun a b h1 h2 => by rw [leD_int, decide_eq_true_eq] at *; omega⟩
instance : OrdD Str := ⟨fun a b c h1 h2 => by rw [leD_str, decide_eq_true_eq] at *; exact List.le_trans h1 h2, fun a b => by rw [leD_str, leD_str, decide_eq_true_eq, decide_eq_true_eq]; exact List.le_total _ _, fun a b h1 h2 => by
  rw [leD_str, decide_eq_true_eq] at *
  exact PySem.W.str_of_cps (List.le_antisymm h1 h2)⟩
instance {α β : Type} [Py α] [DecidableEq α] [PyD α] [Py β] [DecidableEq β] [PyD β] [SrtD α] [SrtD β] [OrdD α] [OrdD β] : OrdD (α × β) := ⟨fun a b c h1 h2 => by
  rw [leD_pair] at *
  by_cases q1 : a.1 = b.1
  · rw [if_pos q1] at h1
    by_cases q2 : b.1 = c.1
    · rw [if_pos q2] at h2
      rw [if_pos (q1.trans q2)]
      exact OrdD.tr _ _ _ h1 h2
    · rw [if_neg q2] at h2
      rw [if_neg (fun e => q2 (q1.symm.trans e)), q1]
      exact h2
  · rw [if_neg q1] at h1
    by_cases q2 : b.1 = c.1
    · rw [if_pos q2] at h2
      rw [if_neg (fun e => q1 (e.trans q2.symm)), ← q2]
      exact h1
    · rw [if_neg q2] at h2
      have h3 := OrdD.tr _ _ _ h1 h2
      rw [if_neg (fun e => q1 (OrdD.anti _ _ h1 (by rw [e]; exact h2)))]
      exact h3, fun a b => by
  rw [leD_pair, leD_pair]
  by_cases q : a.1 = b.1
  · rw [if_pos q, if_pos q.symm]
    exact OrdD.tot _ _
  · rw [if_neg q, if_neg (fun e => q e.symm)]
    exact OrdD.tot _ _, fun a b h1 h2 => by
  rw [leD_pair] at *
  by_cases q : a.1 = b.1
  · rw [if_pos q] at h1
    rw [if_pos q.symm] at h2
    exact Prod.ext q (OrdD.anti _ _ h1 h2)
  · rw [if_neg q] at h1
    rw [if_neg (fun e => q e.symm)] at h2
    exact absurd (OrdD.anti _ _ h1 h2) q⟩
end Cd

set_option Elab.async false
set_option linter.all false
set_option maxRecDepth 100000
set_option maxHeartbeats 4000000
namespace Cd
open PySem L2 PyProof.Rows
/-! ### methods of built-ins within a comprehension: K is given -/
theorem pe_bmK {X : Cx} {K : Fr} (eK : X.K = K) {T : String} {name : Str} {id : String} {r : V → List V → Hp → VK → Prop} {o e : Expr} {es : List Expr} {to : TE} {t : TA} {apos cpos : Pos} (pa : PlainAttrs T) (slot : Slot T name id) (hty : typeOf (.builtin id) = pure (.type "method_descriptor")) (hm : MtR X id r) (ho : PE X o to) (ha : PA X (e :: es) t)
    (hbase : attributeBase o name X.env (eval o X.env) = eval o X.env := by rfl)
    (hfew : ((backTo cpos (starEach (e :: es) X.env)).all (fun x => !x.1) && (backToKw cpos (keywordEach [] X.env)).all (fun x => x.1.isSome)
      && decide ((e :: es).length + ([] : List Keyword).length + (if ([] : List Keyword).isEmpty then 0 else 1) < 30)) = true := by rfl)
    (hline : (apos.endLine == cpos.line) = true := by rfl) (hs : starEach (e :: es) X.env = (false, eval e X.env) :: starEach es X.env := by rfl) (hplain : (backTo cpos (starEach es X.env)).any (·.1) = false := by rfl) :
    PE X (.Call (.Attribute o name apos) (e :: es) [] cpos) (tBM K T r to t) := by
  subst eK
  exact pe_bm pa slot hty hm ho ha hbase hfew hline hs hplain
end Cd

set_option Elab.async false
set_option linter.all false
set_option maxRecDepth 100000
set_option maxHeartbeats 4000000
namespace Cd
open PySem L2 PyProof.Rows
/-! ### refusals -/
inductive Er where
  | ShopError | NoCard | NoField | NoOrder (d p : Int) | NoBoard | Meet (a b : Int × Int) | NoAsking | NoTray | NoPlan | NoRow
deriving DecidableEq, Inhabited
structure CA where
  (ShopError NoCard NoField NoOrder NoBoard Meet NoAsking NoTray NoPlan NoRow : Addr)
def exB {α R : Type} (x : Except Er α) (f : Er → R) (g : α → R) : R := match x with
  | .error e => f e
  | .ok a => g a
def exV {α : Type} [Inhabited α] (x : Except Er α) : α := match x with
  | .error _ => default
  | .ok a => a
def exOk {α : Type} (x : Except Er α) : Bool := match x with
  | .error _ => false
  | .ok _ => true
theorem ok_of {α : Type} [Inhabited α] {x : Except Er α} (h : exOk x = true) : x = .ok (exV x) := by
  cases x with
  | error e => cases h
  | ok a => rfl
instance {S R : Type} [Inhabited R] : Inhabited (LR S R) := ⟨.ret default⟩
section
variable {X : Cx} {CX : CXT} {x : Str} {k : Nat} {ps : List Str} {sp : Sp} {E : XK} {t : TA} {e : Expr} {es : List Expr} {p pos : Pos}
/-- a call whose refusal is the def's own -/
theorem passX {W : WX} {E : XK} (tk : Takes X W) (h : ∀ cls d σ H, E cls d H → W cls d σ H) : Passes (L2.CX X.prog X.w) X E := fun pins σ H s e s' I c => passes_call tk h pins σ H s e s' I c
/-- a call that is never refused -/
theorem passN : Passes (L2.CX X.prog X.w) X E0 := fun pins σ H s e s' I c => by
  obtain ⟨_, _, _, _, _, _, _, _, _, _, _, _, z⟩ := c
  exact z.elim
end
/-! ### isinstance of the refusal that an except suite holds -/
def rIsEu (K : Fr) (cls : Value) (d : Option Addr) (a : Addr) : List V → Hp → VK → Prop := fun xs H Q => ∃ (D : Addr) (c : V) (cv : Value) (b : Bool), cls = .ref D ∧ d = none ∧ ExcC K D ∧ xs = [.ref a, c] ∧ (∀ u, RelV c u → u = cv) ∧ PySem.W.kitOne K (.ref D) cv = some b ∧ Q (.bl b) H
theorem kit_cl {K : Fr} {D C : Addr} {b : Bool} (hd : PySem.W.hasDictIn K C = true) (ht : PySem.W.typeIn K (.ref C) = some (.type "type")) (hs : PySem.W.subIn K (.ref C) (.ref C) = some true) (h : PySem.W.subIn K (.ref D) (.ref C) = some b) : PySem.W.kitOne K (.ref D) (.ref C) = some b := by
  obtain ⟨cd, hc, _⟩ := PySem.W.any_some hd
  have e2 : ((PySem.W.clsIn K C).isSome && PySem.W.typeIn K (.ref C) == some (.type "type")) = true := by rw [hc, ht] <;> rfl
  unfold PySem.W.kitOne
  by_cases q : ((Value.ref D) == Value.ref C) = true
  · rw [if_pos q]
    have e : D = C := Value.ref.inj (beq_iff_eq.mp q)
    subst e
    rw [hs] at h
    exact h
  · rw [if_neg q]
    show (if _ then _ else _) = _
    rw [if_pos e2]
    exact h
theorem kit_tp {K : Fr} {D : Addr} {T : String} {b : Bool} (hm : PySem.W.kitMeta T = true) (h : PySem.W.subIn K (.ref D) (.type T) = some b) : PySem.W.kitOne K (.ref D) (.type T) = some b := by
  unfold PySem.W.kitOne
  rw [if_neg (by intro q; cases beq_iff_eq.mp q)]
  show (if _ then _ else _) = _
  rw [if_pos hm]
  exact h
/-! ### a walk over signs that ends early -/
theorem codes_ljust (z : Str) (k : Int) : codes (Txt.ljust z k) = codes z ++ List.replicate (k.toNat - z.length) 32 := by
  unfold Txt.ljust
  by_cases h : k ≤ z.length
  · rw [if_pos h, show k.toNat - z.length = 0 by omega, List.replicate_zero, List.append_nil]
  · rw [if_neg h]
    unfold Builtin.Str.padded codes
    simp
/-! ### a raise within what is mirrored -/
end Cd

set_option Elab.async false
set_option linter.all false
set_option maxRecDepth 100000
set_option maxHeartbeats 4000000
namespace Cd
open PySem L2 PyProof.Rows
/-! ### defs that an except suite calls with the refusal that it holds -/
abbrev Pn := Addr × Obj
/-- such a def's promise: p is the refusal and its object -/
structure FnE (P : Program) (w : World) (K : Fr) (mg : Str → Option Value) (base : Heap) (k : Nat) (f : Addr) (fd : FuncData) (ps : List Str) (sp : Pn → Sp) : Prop where
  len : ∀ p vs H Q E, sp p vs H Q E → vs.length = ps.length
  run : ∀ (p : Pn) (A : Around) (out : List Env) (s : Shared) (H : Hp) (gs : Args) (us : List Value) (vs : List V) (Q : VK) (E : XK), sp p vs H Q E → Vals vs us → BindsTo s fd gs (ps.zip us) → L2H.RoomH k A → L2H.PinOk out H s p → Env0 P w K mg base A out s H →
    codeAny (model P w) A (.call (.ref f) gs) (CR CX0 out P w H s Q E) s
section
variable {P : Program} {w : World} {K : Fr} {mg : Str → Option Value} {base : Heap}
theorem par_kind {N ps : List Str} {sc : Scope} {us : List Value} {n : Nat} (S : FnScope N ps sc) : ∀ z ∈ ps.zip us, sc.names.lookup z.1 = some .local ∨ (sc.names.lookup z.1 = some .cell ∧ ((cellsFrom n sc.names []).lookup z.1).isSome = true) := by
  rintro ⟨y, u⟩ hz
  cases S.par y (List.of_mem_zip hz).1 with
  | inl a => exact .inl a
  | inr a => exact .inr ⟨a, PySem.W.cellsFrom_some _ _ _ (.inl a)⟩
theorem Fun.okE {x qual : Str} {st : Stmt} {f : Addr} {fd : FuncData} {N ps : List Str} {k : Nat} {sp : Pn → Sp} (F : Fun K x qual st f fd) (S : FnScope N ps (defScope st)) (len : ∀ p vs H Q E, sp p vs H Q E → vs.length = ps.length)
    (body : ∀ (cdv : Value) (A : Around) (out : List Env) (s : Shared) (H : Hp) (p : Pn) (vs : List V) (Q : VK) (E : XK), L2H.RoomH k (A.deeper (envOfC qual (defScope st) s.heap.objs.size f cdv)) → sp p vs H Q E →
      ∃ t, PSs (L2H.cxH CX0 P w K mg base N qual (defScope st) f cdv A out s H E p) (defBody st) t ∧ t { nx := fun _ H' => Q .non H', rt := Q } (L2.start N vs) H) : FnE P w K mg base (k + 1) f fd ps sp := by
  obtain ⟨_, _, _, _, _, _, cdv, _, _, rfl, lk, hcd⟩ := F.ex
  refine ⟨len, ?_⟩
  intro p A out s H gs us vs Q E hsp rv hb hr hpin ev
  have hl := len _ _ _ _ _ hsp
  have inK : K.In s.heap := ev.mod.kin.keeps (fun b o z => (ev.bs b o z).1)
  have nolim : s.heap.NoLimit := ev.mod.nolimit.keeps (fun b o z => (ev.bs b o z).1)
  refine codeAny_call_function hr.depth (inK _ _ lk) rfl S.co S.gen rfl (PySem.W.codeRec_of inK hcd) (hb _ _ _ _ ?_)
  refine wpAny_newFunctionEnv_cells S.kind (par_kind S) (fun env henv s1 ic => ?_)
  subst henv
  refine ⟨nolim.keeps ic.toInCall.keep, codeAny_func ?_⟩
  obtain ⟨t, d, q⟩ := body cdv A out s H p vs Q E (hr.deeper _) hsp
  have J := L2H.inv_startH (CX := CX0) (E := E) S hpin ev hl rv ic
  refine wpAny_mono (d.run [] s1 _ H _ J q) ?_ (fun _ _ z => z)
  intro fl s2 hs
  cases fl with
  | next => obtain ⟨_, H2, J2, q2⟩ := hs; exact ⟨.non, H2, J2.os, J2.bare, J2.base, J2.hok, rfl, q2⟩
  | ret u => obtain ⟨v, _, H2, J2, r2, q2⟩ := hs; exact ⟨v, H2, J2.os, J2.bare, J2.base, J2.hok, r2, q2⟩
  | brk => obtain ⟨_, _, _, z⟩ := hs; cases z
  | cont => obtain ⟨_, _, _, z⟩ := hs; cases z
structure CalE (P : Program) (w : World) (K : Fr) (mg : Str → Option Value) (base : Heap) (x : Str) (k : Nat) (ps : List Str) (sp : Pn → Sp) : Prop where
  ex : ∃ f fd, FnE P w K mg base k f fd ps sp ∧ mg x = some (.ref f) ∧ PySem.W.keepIn K (.ref f) = true ∧ Binds K fd ps []
end
/-- what the refusal at a is: its class and its own dict -/
def Rf (cls : Value) (d : Option Addr) (a : Addr) (p : Pn) : Prop := p.1 = a ∧ Zc cls d p.2 ∧ ∃ vs, p.2.data = .fields vs
def tCallE (a : Addr) (cls : Value) (d : Option Addr) (sp : Pn → Sp) (t : TA) : TE := fun σ H Q => t σ H fun vs H1 => ∀ p, Rf cls d a p → sp p vs H1 Q E0
section
variable {X : Cx} {a : Addr} {oe : Obj} {cls : Value} {d : Option Addr} {pn : List Pn} {k : Nat} {x : Str} {ps : List Str} {sp : Pn → Sp} {e : Expr} {es : List Expr} {t : TA} {q pos : Pos}
theorem run_E {f : Addr} {fd : FuncData} {pins : List Pn} {σ : L2.St} {H : Hp} {s : Shared} {Q : VK} {us : List Value} {vs : List V} {p : Pn} (F : FnE X.prog X.w X.K X.mg X.base k f fd ps sp) (hr : L2H.RoomH k X.A) (hp : p ∈ X.pn) (hb : Binds X.K fd ps [])
    (I : Inv X pins σ H s) (r : Vals vs us) (h : sp p vs H Q E0) : wpAny (model X.prog X.w) X.A (call (.ref f) us) (EP X pins σ Q) X.xe s := by
  have hl : us.length = ps.length := r.length.symm.trans (F.len _ _ _ _ _ h)
  have hbs := hb s us I.kIn (by simpa using hl)
  simp only [List.append_nil] at hbs
  have z := I.pin p (List.mem_append_left _ hp)
  have hpin : L2H.PinOk X.stack H s p := by
    refine ⟨z.1, z.2.1, fun hm => ?_, z.2.2.2.2⟩
    cases List.mem_cons.mp (I.stkSub p.1 hm) with
    | inl y => exact z.2.2.1 y
    | inr y => exact z.2.2.2.1 y
  refine wpAny_call (codeAny_mono (F.run p X.A X.stack s H ⟨us, []⟩ us vs Q E0 h r hbs hr hpin I.env0) ?_)
  intro rr s2 hq
  cases rr with
  | error _ => exact False.elim hq
  | ok fl =>
    cases fl with
    | ret u => exact I.after hq
    | next => exact False.elim hq
    | brk => exact False.elim hq
    | cont => exact False.elim hq
theorem pe_calE (c : CalE X.prog X.w X.K X.mg X.base x k ps sp) (hr : Room k X.A) (hz : Zc cls d oe) (hf : ∃ vs, oe.data = .fields vs) (ha : PA (X.suite a ((a, oe) :: pn)) (e :: es) t) (hg : Gl X x := by rfl) (hdb : (x == ("__debug__" : Str)) = false := by decide)
    (he : starEach (e :: es) X.env = (false, eval e X.env) :: starEach es X.env := by rfl) (hpl : (backTo pos (starEach es X.env)).any (·.1) = false := by rfl) :
    PE (X.suite a ((a, oe) :: pn)) (.Call (.Name x q) (e :: es) [] pos) (tCallE a cls d sp t) := by
  obtain ⟨f, fd, F, hm, hk, hb⟩ := c.ex
  refine ⟨fun pins s σ H Q I h => ?_⟩
  refine wpAny_Call_Name_kw (ld_glob I hg hm ?_ hdb)
  refine PySem.W.callWith_K (h₀ := X.base) I.ok.mod.kin hk ?_ he hpl
  refine thn (ha.run pos pins s σ H _ I h) ?_
  rintro us s1 ⟨vs, H1, I1, r, hq⟩
  exact ⟨I1.kIn, run_E F (L2H.roomH_of ⟨hr.hd, hr.dp, hr.un⟩ |> fun z => ⟨z.dp, z.un⟩) List.mem_cons_self hb I1 r (hq (a, oe) ⟨rfl, hz, hf⟩)⟩
end
end Cd

set_option Elab.async false
set_option linter.all false
set_option maxRecDepth 100000
set_option maxHeartbeats 4000000
namespace Cd
open PySem L2
/-! ### enumerate and zip over lists and texts alike -/
/-- an iterator at `it` that walks something of a length told by the heap -/
structure Dx (P : Program) (w : World) (K : Fr) (it : Addr) (fx : List Addr) (stt : Nat → Heap → Prop) (len : Hp → Nat → Prop) (yv : Nat → Hp → V → Prop) : Prop where
  obj : ∀ i h, stt i h → ∃ o, h.get? it = some o ∧ ∀ v, o.data ≠ .cell v
  keep : ∀ i h h', stt i h → (∀ o, h.get? it = some o → h'.get? it = some o) → stt i h'
  draw : ∀ (X : Cx), X.prog = P → X.w = w → X.K = K → X.calm = true → ∀ (i n : Nat) (pins : List (Addr × Obj)) (s : Shared) (σ : St) (H : Hp), Inv X pins σ H s → stt i s.heap → len H n →
    ∃ Pv St, Draws P w X.A.in1 it (it :: fx) n Pv St ∧ St i s.heap ∧ (∀ x, Pv i x → ∃ v, RelV v x ∧ yv i H v) ∧ ∀ j h, St j h → stt j h
section
variable {P : Program} {w : World} {K : Fr} {elts : List Expr} {kk : Nat} {tpos : Pos}
/-- enumerate: counts from k -/
def Iteg (k : Int) (len : Hp → Nat → Prop) (yv : Nat → Hp → V → Prop) : It :=
  ⟨fun i H => ∃ n, len H n ∧ i < n, fun i H v H' => ∃ T x, v = .ref T ∧ H T = none ∧ H' = upd H T (.tup [.int (k + (i : Nat)), x]) ∧ yv i H x, fun i H => len H i⟩
/-- zip of two -/
def Itzg (len len2 : Hp → Nat → Prop) (yv yv2 : Nat → Hp → V → Prop) : It :=
  ⟨fun i H => ∃ n m, len H n ∧ len2 H m ∧ i < n ∧ i < m, fun i H v H' => ∃ T x y, v = .ref T ∧ H T = none ∧ H' = upd H T (.tup [x, y]) ∧ yv i H x ∧ yv2 i H y, fun i H => ∃ n m, len H n ∧ len2 H m ∧ i ≤ n ∧ i ≤ m ∧ (i = n ∨ i = m)⟩
structure Apt (z TI TO i1 i2 : Addr) (fx fx2 : List Addr) : Prop where
  a1 : TI ≠ z
  a2 : TO ≠ z
  a3 : TI ≠ TO
  a4 : TI ≠ i1
  a5 : TI ≠ i2
  a6 : z ≠ i1
  a7 : z ≠ i2
  a8 : TO ≠ i1
  a9 : TO ≠ i2
  b1 : i1 ≠ i2
  c1 : z ∉ fx
  c2 : TO ∉ fx
  c3 : i2 ∉ fx
  d1 : z ∉ fx2
  d2 : TO ∉ fx2
  d3 : i1 ∉ fx2
end
section
variable {X : Cx} {elts : List Expr} {kk : Nat} {tpos : Pos}
/-- enumerate(text) -/
def iEnS (ta : TA) : TI := fun σ H R => ta σ H fun vs H1 => ∃ x, vs = [.str x] ∧ R (Iteg 0 (fun _ n => n = x.cps.size) (fun i _ v => ∃ c, x.cps[i]? = some c ∧ v = .str ⟨#[c]⟩)) H1
/-- zip(list, text) -/
def iZiS (K : Fr) (ta : TA) : TI := fun σ H R => ta σ H fun vs H1 => ∃ a x xs, vs = [.ref a, .str x] ∧ SqL K H1 a xs ∧
  R (Itzg (fun H n => ∃ xs, SqL K H a xs ∧ xs.length = n) (fun _ n => n = x.cps.size) (fun i H v => ∀ xs, SqL K H a xs → xs[i]? = some v) (fun i _ v => ∃ c, x.cps[i]? = some c ∧ v = .str ⟨#[c]⟩)) H1
end
/-! ### their sources -/
section
variable {K : Fr} {Z : Hp}
end
end Cd

set_option Elab.async false
set_option linter.all false
set_option maxRecDepth 100000
set_option maxHeartbeats 4000000
namespace Cd
open PySem L2 PyProof.Rows
/-! ### a < b < c < d -/
def tCh3 (r1 r2 r3 : R2) (ta tb tc td : TE) : TE := fun σ H Q => ta σ H fun x H1 => tb σ H1 fun y H2 => r1 x y H2 fun z H3 => ∃ k, z = .bl k ∧
  (if k = true then (tc σ H3 fun w H4 => r2 y w H4 fun z2 H5 => ∃ k2, z2 = .bl k2 ∧ (if k2 = true then (td σ H5 fun w2 H6 => r3 w w2 H6 Q) else Q (.bl false) H5)) else Q (.bl false) H3)
end Cd
namespace Cd
open PySem L2
/-! ### list(range(..)) -/
end Cd
namespace Cd
open PySem L2
/-! ### len of a tuple -/
section
variable {K : Fr} {Z H : Hp} {Q : VK} {v : V}
end
end Cd
namespace Cd
open PySem L2
end Cd
namespace Cd
open PySem L2
section
variable {ta tb tc td : TE} {σ : L2.St} {H : Hp} {Q : VK} {i j k l : Int} {p1 p2 p3 : Int → Int → Bool}
abbrev rC (p : Int → Int → Bool) : R2 := rI0 fun i j => .bl (p i j)
theorem k_ch2 (ha : ∀ Q : VK, Q (.int i) H → ta σ H Q) (hb : ∀ Q : VK, Q (.int j) H → tb σ H Q) (hc : ∀ Q : VK, Q (.int k) H → tc σ H Q) (kk : Q (.bl (p1 i j && p2 j k)) H) : tChain (rC p1) (rC p2) ta tb tc σ H Q := by
  refine ha _ (hb _ ⟨i, j, rfl, rfl, _, rfl, ?_⟩)
  cases e : p1 i j with
  | false =>
    rw [e] at kk
    rw [if_neg Bool.false_ne_true]
    exact kk
  | true =>
    rw [e] at kk
    rw [if_pos rfl]
    exact hc _ ⟨j, k, rfl, rfl, kk⟩
end
end Cd

set_option Elab.async false
set_option linter.all false
set_option maxRecDepth 100000
set_option maxHeartbeats 4000000
namespace Cd
open PySem L2
/-! ### partition and split -/
def partS (z d : Str) : T3 Str Str Str := ⟨(Txt.partition z d).1, (Txt.partition z d).2.1, (Txt.partition z d).2.2⟩
def rPartQ : V → List V → Hp → VK → Prop := fun x xs H Q => ∃ a b, x = .str a ∧ xs = [.str b] ∧ (b.length == 0) = false ∧ a.length ≤ sizeLine ∧
    ∀ p, H p = none → Q (.ref p) (upd H p (.tup [.str (Txt.partition a b).1, .str (Txt.partition a b).2.1, .str (Txt.partition a b).2.2]))
def rSplitQ : V → List V → Hp → VK → Prop := fun x xs H Q => ∃ a b, x = .str a ∧ xs = [.str b] ∧ (b.length == 0) = false ∧ a.length + 2 ≤ sizeLine ∧ rNewStrs (Txt.split a b) H Q
section
variable {X : Cx}
theorem mt_splitQ : MtR X "str.split" rSplitQ := mt_split
end
section
variable {K : Fr} {Z H : Hp} {Q : VK}
theorem k_split {a b : Str} (zh : Same Z H) (hb : (b.length == 0) = false) (hl : a.length + 2 ≤ sizeLine) (k : New K Z H Q (Txt.split a b)) : rSplitQ (.str a) [.str b] H Q :=
  ⟨a, b, rfl, rfl, hb, hl, New.lay zh (paired_of _) k⟩
end
/-! ### their laws, for a separator of one sign -/
def tilC (c : Nat) : List Nat → List Nat
  | [] => []
  | x :: r => if x = c then [] else x :: tilC c r
def pastC (c : Nat) : List Nat → List Nat
  | [] => []
  | x :: r => if x = c then r else pastC c r
def splC (c : Nat) : List Nat → List (List Nat)
  | [] => [[]]
  | x :: r => if x = c then [] :: splC c r else match splC c r with
    | h :: t => (x :: h) :: t
    | [] => [[x]]
theorem splC_c (c x : Nat) (r : List Nat) : splC c (x :: r) = if x = c then [] :: splC c r else (match splC c r with
    | h :: t => (x :: h) :: t
    | [] => [[x]]) := rfl
theorem nh {c x : Nat} {r : List Nat} (h : c ∉ x :: r) : ¬ x = c := fun e => h (by rw [e]; exact List.mem_cons_self ..)
theorem nt {c x : Nat} {r : List Nat} (h : c ∉ x :: r) : c ∉ r := fun q => h (List.mem_cons_of_mem _ q)
theorem splC_ne (c : Nat) : ∀ l, splC c l ≠ []
  | [] => fun h => nomatch h
  | x :: r => by
    rw [splC_c]
    split
    · exact fun h => nomatch h
    · split
      · exact fun h => nomatch h
      · exact fun h => nomatch h
theorem spl_go (c : Nat) : ∀ (l acc : List Nat), TL.spl [c] 0 acc l = match splC c l with
    | h :: t => (acc ++ h) :: t
    | [] => []
  | [], acc => by rw [TL.spl_nil]; show _ = [acc ++ []]; rw [List.append_nil]
  | x :: r, acc => by
    rw [splC_c]
    by_cases e : x = c
    · subst e
      rw [TL.spl_hit (by unfold TL.pre; simp), if_pos rfl]
      dsimp only
      rw [List.append_nil]
      show acc :: TL.spl [x] 0 [] r = _
      rw [spl_go x r []]
      cases h : splC x r with
      | nil => exact absurd h (splC_ne _ _)
      | cons a b => rfl
    · rw [TL.spl_miss (TL.pre_of_head _ _ fun q => e (by first | exact q | exact q.symm)), if_neg e, spl_go c r (acc ++ [x])]
      cases h : splC c r with
      | nil => exact absurd h (splC_ne _ _)
      | cons a b => dsimp only; rw [List.append_assoc]; rfl
theorem split_sg {z : Str} {c : Nat} (h : c < 256) : Txt.split z (sg c) = (splC c (codes z)).map mk := by
  have e := SX.split_S (a := codes z) (b := [c]) (List.cons_ne_nil _ _) (by simp [h])
  rw [show SX.S (codes z) = z from mk_codes z] at e
  refine e.trans ?_
  rw [spl_go]
  cases h : splC c (codes z) with
  | nil => exact absurd h (splC_ne _ _)
  | cons a b => rfl
theorem splC_out {c : Nat} : ∀ {l : List Nat}, c ∉ l → splC c l = [l]
  | [], _ => rfl
  | x :: r, h => by
    rw [splC_c]
    rw [if_neg (nh h), splC_out (nt h)]
theorem splC_app {c : Nat} {p q : List Nat} (h : c ∉ p) : splC c (p ++ c :: q) = p :: splC c q := by
  induction p with
  | nil => rw [List.nil_append]; show (if c = c then _ else _) = _; rw [if_pos rfl]
  | cons x r ih =>
    rw [List.cons_append]
    show (if x = c then _ else _) = _
    rw [if_neg (nh h), ih (nt h)]
end Cd
namespace Cd
open PySem L2
end Cd

set_option Elab.async false
set_option linter.all false
set_option maxRecDepth 100000
set_option maxHeartbeats 4000000
namespace Cd
open PySem L2 PyProof.Rows
/-! ### for q in xs: q.append(b), xs a list of lists of one's own -/
theorem Own.keep {α : Type} [Py α] {K : Fr} {H0 Z H H' : Hp} {q : Addr} {l : List α} (o : Own K H0 Z H q l) (h : H' q = H q) : Own K H0 Z H' q l := by
  obtain ⟨⟨xs, h1, p⟩, nz, n0⟩ := o
  exact ⟨⟨xs, h.trans h1, p⟩, nz, n0⟩
theorem pairKeep {α : Type} [Py α] {K : Fr} {Z H H' : Hp} : ∀ {ps : List Addr} {m : List (List α)}, (∀ a ∈ ps, H' a = H a) → Paired (fun a l => ∃ xs, H a = some (.lst xs) ∧ Paired (Py.R K Z) xs l) ps m → Paired (fun a l => ∃ xs, H' a = some (.lst xs) ∧ Paired (Py.R K Z) xs l) ps m
  | _, _, _, .nil => .nil
  | _, _, h, .cons ⟨xs, h1, h2⟩ t => .cons ⟨xs, (h _ List.mem_cons_self).trans h1, h2⟩ (pairKeep (fun a ha => h a (List.mem_cons_of_mem _ ha)) t)
theorem OwnN.keep {α : Type} [Py α] {K : Fr} {H0 Z H H' : Hp} {p : Addr} {ps : List Addr} {m : List (List α)} (o : OwnN K H0 Z H p ps m) (h : ∀ a ∈ p :: ps, H' a = H a) : OwnN K H0 Z H' p ps m :=
  ⟨(h p List.mem_cons_self).trans o.top, pairKeep (fun a ha => h a (List.mem_cons_of_mem _ ha)) o.inn, o.nd, o.nz, o.n0⟩
section
variable {K : Fr} {tb : TS} {D : Ends} {σ : L2.St} {H Z H0 : Hp}
end
end Cd

set_option Elab.async false
set_option linter.all false
set_option maxRecDepth 100000
set_option maxHeartbeats 4000000
namespace Cd
open PySem L2 PyProof.Rows
/-! ### xs[i] += v -/
def rGetL (K : Fr) : V → V → Hp → VK → Prop := fun o i H Q => ∃ p xs k v, o = .ref p ∧ i = .int k ∧ SqL K H p xs ∧ 0 ≤ k ∧ k < 2 ^ 63 ∧ xs[k.toNat]? = some v ∧ Q v H
/-- xs[i][j], xs a list of lists of one's own -/
theorem OwnN.el {α : Type} [Py α] {K : Fr} {Z H H0 : Hp} {p : Addr} {ps : List Addr} {m : List (List α)} {i : Int} (o : OwnN K H0 Z H p ps m) (hi : inR m.length i) : ∃ a, atI (ps.map V.ref) i = some (.ref a) ∧ Own K H0 Z H a (getI m i) := by
  obtain ⟨a, _, h, oa, _⟩ := o.at hi
  exact ⟨a, h, oa⟩
end Cd
namespace Cd
open PySem L2
end Cd
namespace Cd
open PySem L2
theorem NewN.brw {α : Type} [Py α] [NL α] {K : Fr} {Z Zb H : Hp} {Q : VK} {ps : List Addr} {m : List (List α)} (b : Brw Z Zb ps) (zh : Same Z H) (k : NewN K Z H Q m) : NewN K Zb H Q m := fun p qs Z' H' st hn o =>
  k p qs _ H' (b.step zh st) hn ⟨o.top, Paired.pImp (fun a l ⟨xs, h, pr⟩ => ⟨xs, h, Paired.pImp (fun _ _ r => NL.back (fun q hq => (b.hl q hq).mono st.zz) r) pr⟩) o.inn, o.nd, fun a ha => by unfold delL; split; rfl; exact o.nz a ha, o.n0⟩
end Cd

set_option Elab.async false
set_option linter.all false
set_option maxRecDepth 100000
set_option maxHeartbeats 4000000
namespace Cd
open PySem L2
/-! ### shapes: what stands at a value, with all that is one's own below it -/
structure Sh (α : Type) where
  R : Fr → Hp → Hp → V → List Addr → α → Prop
  keep : ∀ {K : Fr} {Z Z' H H' : Hp} {v : V} {ps : List Addr} {a : α}, Same Z Z' → (∀ q ∈ ps, H' q = H q) → R K Z H v ps a → R K Z' H' v ps a
  stands : ∀ {K : Fr} {Z H : Hp} {v : V} {ps : List Addr} {a : α}, R K Z H v ps a → ∀ q ∈ ps, ∃ u, H q = some u
/-- the same of a row of values -/
structure ShL (β : Type) where
  R : Fr → Hp → Hp → List V → List Addr → β → Prop
  keep : ∀ {K : Fr} {Z Z' H H' : Hp} {vs : List V} {ps : List Addr} {a : β}, Same Z Z' → (∀ q ∈ ps, H' q = H q) → R K Z H vs ps a → R K Z' H' vs ps a
  stands : ∀ {K : Fr} {Z H : Hp} {vs : List V} {ps : List Addr} {a : β}, R K Z H vs ps a → ∀ q ∈ ps, ∃ u, H q = some u
/-- told data, or a scalar -/
def Sh.told {α : Type} [Py α] : Sh α where
  R := fun K Z _ v ps a => ps = [] ∧ Py.R K Z v a
  keep := fun s _ ⟨e, h⟩ => ⟨e, Py.mono s h⟩
  stands := fun ⟨e, _⟩ q hq => by rw [e] at hq; cases hq
/-- None, or a thing -/
def ShL.nil : ShL Unit where
  R := fun _ _ _ vs ps _ => vs = [] ∧ ps = []
  keep := fun _ _ h => h
  stands := fun ⟨_, e⟩ q hq => by rw [e] at hq; cases hq
def ShL.cons {α β : Type} (S : Sh α) (T : ShL β) : ShL (α × β) where
  R := fun K Z H vs ps p => ∃ v ws qs rs, vs = v :: ws ∧ ps = qs ++ rs ∧ S.R K Z H v qs p.1 ∧ T.R K Z H ws rs p.2
  keep := fun s h ⟨v, ws, qs, rs, e1, e2, h1, h2⟩ => ⟨v, ws, qs, rs, e1, e2, S.keep s (fun q hq => h q (by rw [e2]; exact List.mem_append_left _ hq)) h1, T.keep s (fun q hq => h q (by rw [e2]; exact List.mem_append_right _ hq)) h2⟩
  stands := fun ⟨v, ws, qs, rs, e1, e2, h1, h2⟩ q hq => by
    rw [e2] at hq
    exact (List.mem_append.mp hq).elim (S.stands h1 q) (T.stands h2 q)
def allR {α : Type} (S : Sh α) (K : Fr) (Z H : Hp) : List V → List Addr → List α → Prop
  | vs, ps, [] => vs = [] ∧ ps = []
  | vs, ps, a :: r => ∃ v ws qs rs, vs = v :: ws ∧ ps = qs ++ rs ∧ S.R K Z H v qs a ∧ allR S K Z H ws rs r
theorem allR_keep {α : Type} {S : Sh α} {K : Fr} {Z Z' H H' : Hp} (s : Same Z Z') : ∀ {l : List α} {vs : List V} {ps : List Addr}, (∀ q ∈ ps, H' q = H q) → allR S K Z H vs ps l → allR S K Z' H' vs ps l
  | [], _, _, _, h => h
  | a :: r, _, _, h, ⟨v, ws, qs, rs, e1, e2, h1, h2⟩ => ⟨v, ws, qs, rs, e1, e2, S.keep s (fun q hq => h q (by rw [e2]; exact List.mem_append_left _ hq)) h1, allR_keep s (fun q hq => h q (by rw [e2]; exact List.mem_append_right _ hq)) h2⟩
theorem allR_stands {α : Type} {S : Sh α} {K : Fr} {Z H : Hp} : ∀ {l : List α} {vs : List V} {ps : List Addr}, allR S K Z H vs ps l → ∀ q ∈ ps, ∃ u, H q = some u
  | [], _, _, ⟨_, e⟩, q, hq => by rw [e] at hq; cases hq
  | a :: r, _, _, ⟨v, ws, qs, rs, e1, e2, h1, h2⟩, q, hq => by
    rw [e2] at hq
    exact (List.mem_append.mp hq).elim (S.stands h1 q) (allR_stands h2 q)
theorem allR_len {α : Type} {S : Sh α} {K : Fr} {Z H : Hp} : ∀ {l : List α} {vs : List V} {ps : List Addr}, allR S K Z H vs ps l → vs.length = l.length
  | [], _, _, ⟨e, _⟩ => by rw [e]; rfl
  | a :: r, _, _, ⟨v, ws, qs, rs, e1, e2, h1, h2⟩ => by rw [e1, List.length_cons, List.length_cons, allR_len h2]
/-- any number of things of one kind -/
def ShL.all {α : Type} (S : Sh α) : ShL (List α) where
  R := allR S
  keep := fun s h r => allR_keep s h r
  stands := allR_stands
def Sh.lst {β : Type} (T : ShL β) : Sh β where
  R := fun K Z H v ps b => ∃ p xs qs, v = .ref p ∧ ps = p :: qs ∧ H p = some (.lst xs) ∧ T.R K Z H xs qs b
  keep := fun s h ⟨p, xs, qs, e1, e2, h1, h2⟩ => ⟨p, xs, qs, e1, e2, (h p (by rw [e2]; exact List.mem_cons_self)).trans h1, T.keep s (fun q hq => h q (by rw [e2]; exact List.mem_cons_of_mem _ hq)) h2⟩
  stands := fun ⟨p, xs, qs, e1, e2, h1, h2⟩ q hq => by
    rw [e2] at hq
    rcases List.mem_cons.mp hq with rfl | hq
    · exact ⟨_, h1⟩
    · exact T.stands h2 q hq
def Sh.tup {β : Type} (T : ShL β) : Sh β where
  R := fun K Z H v ps b => ∃ p xs qs, v = .ref p ∧ ps = p :: qs ∧ H p = some (.tup xs) ∧ T.R K Z H xs qs b
  keep := fun s h ⟨p, xs, qs, e1, e2, h1, h2⟩ => ⟨p, xs, qs, e1, e2, (h p (by rw [e2]; exact List.mem_cons_self)).trans h1, T.keep s (fun q hq => h q (by rw [e2]; exact List.mem_cons_of_mem _ hq)) h2⟩
  stands := fun ⟨p, xs, qs, e1, e2, h1, h2⟩ q hq => by
    rw [e2] at hq
    rcases List.mem_cons.mp hq with rfl | hq
    · exact ⟨_, h1⟩
    · exact T.stands h2 q hq
/-- an instance of the class at C: its attributes in their order -/
def Sh.ins {β : Type} (C : Addr) (ns : List Str) (T : ShL β) : Sh β where
  R := fun K Z H v ps b => ∃ p dx xs qs, v = .ref p ∧ ps = p :: dx :: qs ∧ H p = some (.ins C dx (ns.zip xs)) ∧ H dx = some (.own p) ∧ xs.length = ns.length ∧ T.R K Z H xs qs b
  keep := fun s h ⟨p, dx, xs, qs, e1, e2, h1, h2, hl, h3⟩ => ⟨p, dx, xs, qs, e1, e2, (h p (by rw [e2]; exact List.mem_cons_self)).trans h1, (h dx (by rw [e2]; exact List.mem_cons_of_mem _ List.mem_cons_self)).trans h2, hl,
    T.keep s (fun q hq => h q (by rw [e2]; exact List.mem_cons_of_mem _ (List.mem_cons_of_mem _ hq))) h3⟩
  stands := fun ⟨p, dx, xs, qs, e1, e2, h1, h2, hl, h3⟩ q hq => by
    rw [e2] at hq
    rcases List.mem_cons.mp hq with rfl | hq
    · exact ⟨_, h1⟩
    · rcases List.mem_cons.mp hq with rfl | hq
      · exact ⟨_, h2⟩
      · exact T.stands h3 q hq
/-- the same, seen as another type -/
def Sh.via {α β : Type} (S : Sh β) (f : α → β) : Sh α where
  R := fun K Z H v ps a => S.R K Z H v ps (f a)
  keep := fun s h r => S.keep s h r
  stands := fun r => S.stands r
/-! ### owned -/
structure OwnO {α : Type} (S : Sh α) (K : Fr) (H0 Z H : Hp) (v : V) (ps : List Addr) (a : α) : Prop where
  r : S.R K Z H v ps a
  nd : ps.Nodup
  nz : ∀ q ∈ ps, Z q = none
  n0 : ∀ q ∈ ps, H0 q = none
section
variable {α β : Type} {S : Sh α} {SO : Sh β} {K : Fr} {Z H Z' H' Z0 H0 Z2 H2 : Hp} {v u : V} {ps qs : List Addr} {a x : α} {b : β} {put : α → β}
theorem OwnO.stands (o : OwnO S K H0 Z H v ps a) : ∀ q ∈ ps, ∃ w, H q = some w := S.stands o.r
/-- the heap grows, or what is not ours is changed -/
theorem OwnO.keep (o : OwnO S K H0 Z H v ps a) (s : Same Z Z') (h : ∀ q ∈ ps, H' q = H q) (hz : ∀ q ∈ ps, Z' q = Z q) : OwnO S K H0 Z' H' v ps a :=
  ⟨S.keep s h o.r, o.nd, fun q hq => (hz q hq).trans (o.nz q hq), o.n0⟩
theorem OwnO.step (o : OwnO S K H0 Z H v ps a) (st : Step Z H Z' H') : OwnO S K H0 Z' H' v ps a :=
  o.keep st.zz (fun q hq => by obtain ⟨w, hw⟩ := o.stands q hq; rw [hw]; exact st.hh _ _ hw) (fun q hq => by obtain ⟨w, hw⟩ := o.stands q hq; exact st.fr _ _ hw)
theorem OwnO.far {q : Addr} {u : HO} (o : OwnO S K H0 Z H v ps a) (ne : ∀ a ∈ ps, a ≠ q) : OwnO S K H0 Z (upd H q u) v ps a := o.keep (Same.refl _) (fun a ha => upd_ne (ne a ha)) fun _ _ => rfl
theorem OwnO.zfar (o : OwnO S K H0 Z H v ps a) (s : Same Z Z') (hz : ∀ q ∈ ps, Z' q = Z q) : OwnO S K H0 Z' H v ps a := o.keep s (fun _ _ => rfl) hz
/-- a thing within a thing: it may be put in again, changed -/
structure Within (S : Sh α) (SO : Sh β) (K : Fr) (Z H : Hp) (v : V) (ps : List Addr) (u : V) (qs : List Addr) (x : α) (put : α → β) : Prop where
  r : S.R K Z H u qs x
  ex : ∃ ls rs, ps = ls ++ qs ++ rs ∧ ∀ Z' H' qs' x', Same Z Z' → (∀ q ∈ ls ++ rs, H' q = H q) → S.R K Z' H' u qs' x' → SO.R K Z' H' v (ls ++ qs' ++ rs) (put x')
theorem OwnO.sub (o : OwnO SO K H0 Z H v ps b) (w : Within S SO K Z H v ps u qs x put) : OwnO S K H0 Z H u qs x := by
  obtain ⟨r, ls, rs, e, _⟩ := w
  have hs : ∀ q ∈ qs, q ∈ ps := fun q hq => by rw [e]; exact List.mem_append_left _ (List.mem_append_right _ hq)
  refine ⟨r, ?_, fun q hq => o.nz q (hs q hq), fun q hq => o.n0 q (hs q hq)⟩
  have := o.nd
  rw [e] at this
  exact (List.nodup_append.mp (List.nodup_append.mp this).1).2.1
theorem Within.refl (h : SO.R K Z H v ps b) : Within SO SO K Z H v ps v ps b id :=
  ⟨h, [], [], by simp, fun Z' H' qs' x' _ _ r => by simpa using r⟩
end
/-- within a thing within a thing -/
theorem Within.trans {α β γ : Type} {S : Sh α} {M : Sh β} {SO : Sh γ} {K : Fr} {Z H : Hp} {v u t : V} {ps qs rs : List Addr} {x : α} {y : β} {put : α → β} {put2 : β → γ}
    (w : Within M SO K Z H v ps u qs y put2) (w2 : Within S M K Z H u qs t rs x put) : Within S SO K Z H v ps t rs x (fun z => put2 (put z)) := by
  obtain ⟨r, l1, r1, e1, b1⟩ := w
  obtain ⟨r2, l2, r3, e2, b2⟩ := w2
  refine ⟨r2, l1 ++ l2, r3 ++ r1, by rw [e1, e2]; simp, fun Z' H' qs' x' s h hr => ?_⟩
  have h1 := b2 Z' H' qs' x' s (fun q hq => h q (by simp only [List.mem_append] at hq ⊢; rcases hq with hq | hq <;> simp [hq])) hr
  have h2 := b1 Z' H' _ _ s (fun q hq => h q (by simp only [List.mem_append] at hq ⊢; rcases hq with hq | hq <;> simp [hq])) h1
  have e : l1 ++ (l2 ++ qs' ++ r3) ++ r1 = l1 ++ l2 ++ qs' ++ (r3 ++ r1) := by simp
  rw [← e]
  exact h2
/-- the item at a place of a list -/
theorem allR_at {α : Type} {S : Sh α} {K : Fr} {Z H : Hp} : ∀ {l : List α} {vs : List V} {ps : List Addr} {i : Nat} {x : α}, allR S K Z H vs ps l → l[i]? = some x →
    ∃ v qs ls rs, vs[i]? = some v ∧ ps = ls ++ qs ++ rs ∧ S.R K Z H v qs x ∧ ∀ Z' H' qs' x', Same Z Z' → (∀ q ∈ ls ++ rs, H' q = H q) → S.R K Z' H' v qs' x' → allR S K Z' H' vs (ls ++ qs' ++ rs) (l.set i x')
  | a :: r, _, _, 0, x, ⟨v, ws, qs, rs, e1, e2, h1, h2⟩, e => by
    have e' : a = x := by simpa using e
    subst e'
    refine ⟨v, qs, [], rs, by rw [e1]; rfl, by rw [e2]; rfl, h1, fun Z' H' qs' x' s h hr => ⟨v, ws, qs', rs, e1, by simp, hr, allR_keep s (fun q hq => h q (by simpa using hq)) h2⟩⟩
  | a :: r, _, _, i + 1, x, ⟨v, ws, qs, rs, e1, e2, h1, h2⟩, e => by
    obtain ⟨v2, qs2, ls2, rs2, g1, g2, g3, g4⟩ := allR_at h2 (by simpa using e : r[i]? = some x)
    refine ⟨v2, qs2, qs ++ ls2, rs2, by rw [e1]; simpa using g1, by rw [e2, g2]; simp, g3, fun Z' H' qs' x' s h hr => ?_⟩
    refine ⟨v, ws, qs, ls2 ++ qs' ++ rs2, e1, by simp, S.keep s (fun q hq => h q (by simp [hq])) h1, ?_⟩
    exact g4 Z' H' qs' x' s (fun q hq => h q (by simp only [List.mem_append] at hq ⊢; rcases hq with hq | hq <;> simp [hq])) hr
theorem Within.item {α : Type} {S : Sh α} {K : Fr} {Z H : Hp} {v : V} {ps : List Addr} {l : List α} {i : Nat} {x : α} (h : (Sh.lst (ShL.all S)).R K Z H v ps l) (e : l[i]? = some x) :
    ∃ p xs u qs, v = .ref p ∧ H p = some (.lst xs) ∧ xs[i]? = some u ∧ xs.length = l.length ∧ Within S (Sh.lst (ShL.all S)) K Z H v ps u qs x (fun z => l.set i z) := by
  obtain ⟨p, xs, qs, e1, e2, h1, h2⟩ := h
  obtain ⟨u, qs2, ls, rs, g1, g2, g3, g4⟩ := allR_at h2 e
  refine ⟨p, xs, u, qs2, e1, h1, g1, allR_len h2, g3, p :: ls, rs, by rw [e2, g2]; simp, fun Z' H' qs' x' s hk hr => ?_⟩
  refine ⟨p, xs, ls ++ qs' ++ rs, e1, by simp, (hk p (by simp)).trans h1, g4 Z' H' qs' x' s (fun q hq => hk q (by simp only [List.mem_append] at hq; rcases hq with hq | hq <;> simp [hq])) hr⟩
end Cd

set_option Elab.async false
set_option linter.all false
set_option maxRecDepth 100000
set_option maxHeartbeats 4000000
namespace Cd
open PySem L2
/-! ### a def that changes what is its caller's own: ps are the places handed over -/
theorem delL_out {H : Hp} {ps : List Addr} {q : Addr} (h : q ∉ ps) : delL H ps q = H q := by unfold delL; rw [if_neg h]
theorem delL_in {H : Hp} {ps : List Addr} {q : Addr} (h : q ∈ ps) : delL H ps q = none := by unfold delL; rw [if_pos h]
theorem delL_same {H : Hp} {ps : List Addr} : Same (delL H ps) H := fun b u e => by
  by_cases h : b ∈ ps
  · rw [delL_in h] at e; cases e
  · rw [delL_out h] at e; exact e
/-- its own beginning -/
theorem Step.lent {Z H : Hp} {ps : List Addr} (s : Same Z H) : Step Z (delL H ps) Z H := ⟨delL_same, Same.refl _, s, fun _ _ _ => rfl⟩
section
variable {K : Fr} {Z H Z' H' Z0 H0 : Hp} {ps qs : List Addr}
/-- for the caller -/
theorem Step.back (c : Step Z0 H0 Z H) (n0 : ∀ q ∈ qs, H0 q = none) (st : Step Z (delL H qs) Z' H') : Step Z0 H0 Z' H' := by
  refine ⟨fun b u e => ?_, c.zz.trans st.zz, st.zh, fun b u e => ?_⟩
  · have hb : b ∉ qs := fun m => by rw [n0 b m] at e; cases e
    exact st.hh b u (by rw [delL_out hb]; exact c.hh b u e)
  · have hb : b ∉ qs := fun m => by rw [n0 b m] at e; cases e
    exact (st.fr b u (by rw [delL_out hb]; exact c.hh b u e)).trans (c.fr b u e)
theorem Own.stepD {α : Type} [Py α] {p : Addr} {l : List α} (o : Own K H0 Z H p l) (st : Step Z (delL H qs) Z' H') (hn : p ∉ qs) : Own K H0 Z' H' p l := by
  obtain ⟨⟨xs, h, pr⟩, nz, n0⟩ := o
  have e : delL H qs p = some (.lst xs) := by rw [delL_out hn]; exact h
  exact ⟨⟨xs, st.hh _ _ e, Paired.pImp (fun _ _ r => Py.mono st.zz r) pr⟩, (st.fr _ _ e).trans nz, n0⟩
theorem OwnO.stepD {α : Type} {S : Sh α} {v : V} {a : α} (o : OwnO S K H0 Z H v ps a) (st : Step Z (delL H qs) Z' H') (hn : ∀ q ∈ ps, q ∉ qs) : OwnO S K H0 Z' H' v ps a :=
  o.keep st.zz (fun q hq => by
    obtain ⟨w, hw⟩ := o.stands q hq
    rw [hw]
    exact st.hh _ _ (by rw [delL_out (hn q hq)]; exact hw)) fun q hq => by
    obtain ⟨w, hw⟩ := o.stands q hq
    exact st.fr _ _ (by rw [delL_out (hn q hq)]; exact hw)
end
/-! ### an object of one's own, by its attributes' values -/
structure Husk (C : Addr) (H0 Z H : Hp) (p dx : Addr) (fs : List (Str × V)) : Prop where
  at_ : H p = some (.ins C dx fs)
  dc : H dx = some (.own p)
  ne : p ≠ dx
  z1 : Z p = none
  z2 : Z dx = none
  n1 : H0 p = none
  n2 : H0 dx = none
section
variable {C : Addr} {H0 Z0 Z H Z' H' : Hp} {p dx : Addr} {fs fs2 : List (Str × V)}
theorem Husk.step (h : Husk C H0 Z H p dx fs) (st : Step Z H Z' H') : Husk C H0 Z' H' p dx fs :=
  ⟨st.hh _ _ h.at_, st.hh _ _ h.dc, h.ne, (st.fr _ _ h.at_).trans h.z1, (st.fr _ _ h.dc).trans h.z2, h.n1, h.n2⟩
theorem Husk.far {q : Addr} {u : HO} (h : Husk C H0 Z H p dx fs) (h1 : p ≠ q) (h2 : dx ≠ q) : Husk C H0 Z (upd H q u) p dx fs :=
  ⟨by rw [upd_ne h1]; exact h.at_, by rw [upd_ne h2]; exact h.dc, h.ne, h.z1, h.z2, h.n1, h.n2⟩
theorem Husk.set (h : Husk C H0 Z H p dx fs) {fs2 : List (Str × V)} : Husk C H0 Z (upd H p (.ins C dx fs2)) p dx fs2 :=
  ⟨upd_same, by rw [upd_ne h.ne.symm]; exact h.dc, h.ne, h.z1, h.z2, h.n1, h.n2⟩
theorem Husk.mut {f : Str} {v : V} (h : Husk C H0 Z H p dx fs) (c : Step Z0 H0 Z H) (e : putF f v fs = fs2) : Husk C H0 Z (upd H p (.ins C dx (putF f v fs))) p dx fs2 ∧ Step Z0 H0 Z (upd H p (.ins C dx (putF f v fs))) := by
  subst e
  exact ⟨h.set, c.mut h.z1 h.n1⟩
theorem Husk.of (hH : H p = some (.ins C dx fs)) (hD : H dx = some (.own p)) (hz : Same Z (delL H [p, dx])) : Husk C (delL H [p, dx]) Z H p dx fs :=
  ⟨hH, hD, (fun e => by subst e; rw [hH] at hD; cases hD), hz.free (delL_in (by simp)), hz.free (delL_in (by simp)), delL_in (by simp), delL_in (by simp)⟩
end
/-- a new thing of one's own comes -/
def NewO {α : Type} (S : Sh α) (K : Fr) (Z H : Hp) (Q : VK) (m : α) : Prop := ∀ v ps Z' H', Step Z H Z' H' → OwnO S K H Z' H' v ps m → Q v H'
theorem del_new {H : Hp} {x dx : Addr} {o : HO} {u : HO} (nx : H x = none) (ndx : H dx = none) (ne : dx ≠ x) : delL (upd (upd H dx u) x o) [x, dx] = H := by
  funext q
  by_cases h1 : q = x
  · subst h1; rw [delL_in (by simp), nx]
  · by_cases h2 : q = dx
    · subst h2; rw [delL_in (by simp), ndx]
    · rw [delL_out (by simp [h1, h2]), upd_ne h1, upd_ne h2]
end Cd
namespace Cd
open PySem L2
/-- the object classes' places -/
structure CB where
  (Wheel Counter Asking Machine Dealer Picker Rower Mater Firster Puncher Printer Clerk Desk : Addr)
theorem Husk.lent {C : Addr} {Z H : Hp} {p dx : Addr} {fs : List (Str × V)} (hH : H p = some (.ins C dx fs)) (hD : H dx = some (.own p)) (hz : ∀ q ∈ [p, dx], Z q = none) : Husk C (delL H [p, dx]) Z H p dx fs :=
  ⟨hH, hD, (fun e => by subst e; rw [hH] at hD; cases hD), hz _ (by simp), hz _ (by simp), delL_in (by simp), delL_in (by simp)⟩
end Cd
namespace Cd
open PySem L2
end Cd
namespace Cd
open PySem L2 PyProof.Rows
open PySem.Builtin PySem.Builtin.Str
theorem Sh.now {α : Type} (S : Sh α) {K : Fr} {Z0 H0 Z H : Hp} {v : V} {ps : List Addr} {a : α} (c : Step Z0 H0 Z H) (h : S.R K Z0 H0 v ps a) : S.R K Z H v ps a :=
  S.keep c.zz (fun q hq => by obtain ⟨u, hu⟩ := S.stands h q hq; rw [hu]; exact c.hh _ _ hu) h
end Cd

set_option Elab.async false
set_option linter.all false
set_option maxRecDepth 100000
set_option maxHeartbeats 4000000
namespace Cd
open PySem L2
/-! ### new objects -/
section
variable {α : Type} {S : Sh α} {K : Fr} {Z H Z0 H0 : Hp} {Q : VK} {m : α} {C x dx : Addr}
theorem NewO.own (c : Step Z0 H0 Z H) (k : ∀ v ps Z' H', Step Z H Z' H' → (∀ q ∈ ps, H q = none) → OwnO S K H0 Z' H' v ps m → Q v H') : NewO S K Z H Q m := fun v ps Z' H' st o =>
  k v ps Z' H' st o.n0 ⟨o.r, o.nd, o.nz, fun q hq => c.hh.free (o.n0 q hq)⟩
theorem OwnO.ne_old {v : V} {ps : List Addr} {q : Addr} {u : HO} {a : α} (o : OwnO S K H0 Z H v ps a) (h : H q = none) : ∀ b ∈ ps, b ≠ q := fun b hb e => by
  obtain ⟨w, hw⟩ := o.stands b hb
  rw [e, h] at hw; cases hw
/-! ### an item of a list of objects -/
theorem OwnO.at [Inhabited α] {p : Addr} {ps : List Addr} {l : List α} {i : Int} (o : OwnO (Sh.lst (ShL.all S)) K H0 Z H (.ref p) ps l) (h0 : 0 ≤ i) (h1 : i < l.length) :
    ∃ u qs, (∀ Q : VK, Q u H → rIxL K (.ref p) (.int i) H Q) ∧ Within S (Sh.lst (ShL.all S)) K Z H (.ref p) ps u qs (getI l i) (fun z => setI l i z) := by
  have e : l[i.toNat]? = some (getI l i) := by rw [getI_nat h0 h1]; exact List.getElem?_eq_getElem _
  obtain ⟨p', xs, u, qs, ev, hl, hx, hlen, wi⟩ := Within.item o.r e
  cases ev
  refine ⟨u, qs, fun Q hQ => ⟨p, xs, i, u, rfl, rfl, SqL.of hl, ?_, hQ⟩, ?_⟩
  · rw [atI_nat h0 (by rw [hlen]; exact h1)]
    exact hx
  · have : (fun z => setI l i z) = fun z => l.set i.toNat z := by funext z; exact setI_nat h0 h1
    rw [this]
    exact wi
theorem OwnO.rd [Inhabited α] {p : Addr} {ps : List Addr} {l : List α} {i : Int} (o : OwnO (Sh.lst (ShL.all S)) K H0 Z H (.ref p) ps l) (h0 : 0 ≤ i) (h1 : i < l.length) (k : ∀ u qs, S.R K Z H u qs (getI l i) → Q u H) : rIxL K (.ref p) (.int i) H Q := by
  obtain ⟨u, qs, rd, wi⟩ := o.at h0 h1
  exact rd Q (k u qs wi.r)
theorem Within.mem {α β : Type} {S : Sh α} {SO : Sh β} {K : Fr} {Z H : Hp} {v u : V} {ps qs : List Addr} {x : α} {put : α → β} (w : Within S SO K Z H v ps u qs x put) : ∀ q ∈ qs, q ∈ ps := by
  obtain ⟨_, ls, rs, e, _⟩ := w
  intro q hq
  rw [e]
  exact List.mem_append_left _ (List.mem_append_right _ hq)
end
end Cd

set_option Elab.async false
set_option linter.all false
set_option maxRecDepth 100000
set_option maxHeartbeats 4000000
namespace Cd
open PySem L2
/-! ### plain lists as parts of a thing -/
def Sh.lt (α : Type) [Py α] : Sh (List α) where
  R := fun K Z H v ps l => ∃ p xs, v = .ref p ∧ ps = [p] ∧ H p = some (.lst xs) ∧ Paired (Py.R K Z) xs l
  keep := fun s h ⟨p, xs, e1, e2, h1, h2⟩ => ⟨p, xs, e1, e2, (h p (by rw [e2]; simp)).trans h1, Paired.pImp (fun _ _ r => Py.mono s r) h2⟩
  stands := fun ⟨p, xs, e1, e2, h1, h2⟩ q hq => by rw [e2, List.mem_singleton] at hq; rw [hq]; exact ⟨_, h1⟩
section
variable {α : Type} [Py α] {K : Fr} {H0 Z H : Hp} {v : V} {ps : List Addr} {p : Addr} {l : List α}
theorem OwnO.own (o : OwnO (Sh.lt α) K H0 Z H v ps l) : ∃ p, v = .ref p ∧ ps = [p] ∧ Own K H0 Z H p l := by
  obtain ⟨⟨p, xs, e1, e2, h1, h2⟩, nd, nz, n0⟩ := o
  exact ⟨p, e1, e2, ⟨xs, h1, h2⟩, nz p (by rw [e2]; simp), n0 p (by rw [e2]; simp)⟩
theorem Own.shp (o : Own K H0 Z H p l) : OwnO (Sh.lt α) K H0 Z H (.ref p) [p] l := by
  obtain ⟨⟨xs, h1, h2⟩, nz, n0⟩ := o
  exact ⟨⟨p, xs, rfl, rfl, h1, h2⟩, by simp, fun q hq => by rw [List.mem_singleton] at hq; rw [hq]; exact nz, fun q hq => by rw [List.mem_singleton] at hq; rw [hq]; exact n0⟩
end
end Cd
namespace Cd
open PySem L2
/-- a plain dict as a part of a thing -/
def Sh.dc (κ α : Type) [Sc κ] [DecidableEq κ] [Kt κ] [Py α] : Sh (Dct κ α) where
  R := fun K Z H v ps d => ∃ p kvs, v = .ref p ∧ ps = [p] ∧ H p = some (.dK kvs) ∧ Paired (EntK K Z) kvs d.kv
  keep := fun s h ⟨p, xs, e1, e2, h1, h2⟩ => ⟨p, xs, e1, e2, (h p (by rw [e2]; simp)).trans h1, Paired.pImp (fun _ _ r => r.mono s) h2⟩
  stands := fun ⟨p, xs, e1, e2, h1, h2⟩ q hq => by rw [e2, List.mem_singleton] at hq; rw [hq]; exact ⟨_, h1⟩
section
variable {κ α : Type} [Sc κ] [DecidableEq κ] [Kt κ] [Py α] {K : Fr} {H0 Z H : Hp} {v : V} {ps : List Addr} {p : Addr} {d : Dct κ α}
theorem OwnO.ownD (o : OwnO (Sh.dc κ α) K H0 Z H v ps d) : ∃ p, v = .ref p ∧ ps = [p] ∧ OwnD K H0 Z H p d := by
  obtain ⟨⟨p, xs, e1, e2, h1, h2⟩, nd, nz, n0⟩ := o
  exact ⟨p, e1, e2, ⟨xs, h1, h2⟩, nz p (by rw [e2]; simp), n0 p (by rw [e2]; simp)⟩
theorem OwnD.shp (o : OwnD K H0 Z H p d) : OwnO (Sh.dc κ α) K H0 Z H (.ref p) [p] d := by
  obtain ⟨⟨xs, h1, h2⟩, nz, n0⟩ := o
  exact ⟨⟨p, xs, rfl, rfl, h1, h2⟩, by simp, fun q hq => by rw [List.mem_singleton] at hq; rw [hq]; exact nz, fun q hq => by rw [List.mem_singleton] at hq; rw [hq]; exact n0⟩
end
/-- seen, not changed: all of it told for the while -/
theorem Sh.seen {α : Type} (S : Sh α) {K : Fr} {Z H : Hp} {v : V} {ps : List Addr} {a : α} (zh : Same Z H) (h : S.R K Z H v ps a) : ∃ Z', Same Z Z' ∧ Same Z' H ∧ S.R K Z' Z' v ps a := by
  refine ⟨fun q => if q ∈ ps then H q else Z q, fun q u e => ?_, fun q u e => ?_, ?_⟩
  · show (if q ∈ ps then H q else Z q) = some u
    split
    · exact zh _ _ e
    · exact e
  · by_cases m : q ∈ ps
    · have e2 : (if q ∈ ps then H q else Z q) = some u := e
      rw [if_pos m] at e2; exact e2
    · have e2 : (if q ∈ ps then H q else Z q) = some u := e
      rw [if_neg m] at e2; exact zh _ _ e2
  · refine S.keep (fun q u e => ?_) (fun q hq => if_pos hq) h
    show (if q ∈ ps then H q else Z q) = some u
    split
    · exact zh _ _ e
    · exact e
end Cd

set_option Elab.async false
set_option linter.all false
set_option maxRecDepth 100000
set_option maxHeartbeats 4000000
namespace Cd
open PySem L2
/-! ### a row of things of one's own; an object opened and closed -/
structure OwnL {β : Type} (T : ShL β) (K : Fr) (H0 Z H : Hp) (vs : List V) (ps : List Addr) (b : β) : Prop where
  r : T.R K Z H vs ps b
  nd : ps.Nodup
  nz : ∀ q ∈ ps, Z q = none
  n0 : ∀ q ∈ ps, H0 q = none
section
variable {α β : Type} {S : Sh α} {T : ShL β} {K : Fr} {H0 Z H Z0 : Hp} {v : V} {vs : List V} {ps qs rs : List Addr} {a : α} {b : β}
theorem OwnL.nil : OwnL ShL.nil K H0 Z H [] [] () := ⟨⟨rfl, rfl⟩, List.nodup_nil, (fun _ h => nomatch h), (fun _ h => nomatch h)⟩
theorem OwnL.cons (o : OwnO S K H0 Z H v qs a) (l : OwnL T K H0 Z H vs rs b) (hd : ∀ x ∈ qs, ∀ y ∈ rs, x ≠ y) : OwnL (ShL.cons S T) K H0 Z H (v :: vs) (qs ++ rs) (a, b) :=
  ⟨⟨v, vs, qs, rs, rfl, rfl, o.r, l.r⟩, List.nodup_append.mpr ⟨o.nd, l.nd, hd⟩, fun q hq => (List.mem_append.mp hq).elim (o.nz q) (l.nz q), fun q hq => (List.mem_append.mp hq).elim (o.n0 q) (l.n0 q)⟩
theorem OwnO.opn {C : Addr} {ns : List Str} (o : OwnO (Sh.ins C ns T) K H0 Z H v ps b) : ∃ p dx xs qs, v = .ref p ∧ ps = p :: dx :: qs ∧ Husk C H0 Z H p dx (ns.zip xs) ∧ xs.length = ns.length ∧ OwnL T K H0 Z H xs qs b ∧ (∀ x ∈ qs, x ≠ p) ∧ ∀ x ∈ qs, x ≠ dx := by
  obtain ⟨⟨p, dx, xs, qs, rfl, rfl, h1, h2, hl, h3⟩, nd, nz, n0⟩ := o
  obtain ⟨m1, nd2⟩ := List.nodup_cons.mp nd
  obtain ⟨m2, nd3⟩ := List.nodup_cons.mp nd2
  refine ⟨p, dx, xs, qs, rfl, rfl, ⟨h1, h2, fun e => m1 (by rw [e]; exact List.mem_cons_self), nz _ List.mem_cons_self, nz _ (List.mem_cons_of_mem _ List.mem_cons_self), n0 _ List.mem_cons_self, n0 _ (List.mem_cons_of_mem _ List.mem_cons_self)⟩, hl,
    ⟨h3, nd3, fun q hq => nz q (List.mem_cons_of_mem _ (List.mem_cons_of_mem _ hq)), fun q hq => n0 q (List.mem_cons_of_mem _ (List.mem_cons_of_mem _ hq))⟩, fun x hx e => m1 (by rw [← e]; exact List.mem_cons_of_mem _ hx), fun x hx e => m2 (by rw [← e]; exact hx)⟩
theorem OwnO.cls {C p dx : Addr} {ns : List Str} {xs : List V} (h : Husk C H0 Z H p dx (ns.zip xs)) (hl : xs.length = ns.length) (l : OwnL T K H0 Z H xs qs b) (h1 : ∀ x ∈ qs, x ≠ p) (h2 : ∀ x ∈ qs, x ≠ dx) : OwnO (Sh.ins C ns T) K H0 Z H (.ref p) (p :: dx :: qs) b := by
  refine ⟨⟨p, dx, xs, qs, rfl, rfl, h.at_, h.dc, hl, l.r⟩, ?_, fun q hq => ?_, fun q hq => ?_⟩
  · refine List.nodup_cons.mpr ⟨fun m => ?_, List.nodup_cons.mpr ⟨fun m => h2 dx m rfl, l.nd⟩⟩
    rcases List.mem_cons.mp m with m | m
    · exact h.ne m
    · exact h1 p m rfl
  · rcases List.mem_cons.mp hq with rfl | hq
    · exact h.z1
    · rcases List.mem_cons.mp hq with rfl | hq
      · exact h.z2
      · exact l.nz q hq
  · rcases List.mem_cons.mp hq with rfl | hq
    · exact h.n1
    · rcases List.mem_cons.mp hq with rfl | hq
      · exact h.n2
      · exact l.n0 q hq
theorem OwnO.ofR [Py α] (h : Py.R K Z v a) : OwnO (Sh.told (α := α)) K H0 Z H v [] a := ⟨⟨rfl, h⟩, List.nodup_nil, (fun _ h => nomatch h), (fun _ h => nomatch h)⟩
end
end Cd
namespace Cd
open PySem L2
theorem OwnO.mkvia {α β : Type} {S : Sh β} {f : α → β} {K : Fr} {H0 Z H : Hp} {v : V} {ps : List Addr} {a : α} {b : β} (e : b = f a) (o : OwnO S K H0 Z H v ps b) : OwnO (S.via f) K H0 Z H v ps a := by subst e; exact ⟨o.r, o.nd, o.nz, o.n0⟩
end Cd
namespace Cd
open PySem L2
/-! ### apart, by pieces -/
section
variable {qs r1 r2 : List Addr} {p q : Addr}
end
end Cd

set_option Elab.async false
set_option linter.all false
set_option maxRecDepth 100000
set_option maxHeartbeats 4000000
namespace Cd
open PySem L2
/-! ### shapes that are data: told as a whole -/
class Dat {α : Type} [Py α] (S : Sh α) : Prop where
  dat : ∀ {K : Fr} {Z : Hp} {v : V} {ps : List Addr} {a : α}, S.R K Z Z v ps a → Py.R K Z v a
instance {α : Type} [Py α] : Dat (Sh.told (α := α)) := ⟨fun h => h.2⟩
instance {α : Type} [Py α] : Dat (Sh.lt α) := ⟨fun ⟨p, xs, e1, _, h1, h2⟩ => ⟨p, xs, e1, h1, h2⟩⟩
instance {κ α : Type} [Sc κ] [DecidableEq κ] [Kt κ] [Py α] : Dat (Sh.dc κ α) := ⟨fun ⟨p, xs, e1, _, h1, h2⟩ => ⟨p, xs, e1, h1, h2⟩⟩
theorem allR_dat {α : Type} [Py α] {S : Sh α} [Dat S] {K : Fr} {Z : Hp} : ∀ {l : List α} {vs : List V} {ps : List Addr}, allR S K Z Z vs ps l → Paired (Py.R K Z) vs l
  | [], _, _, ⟨e, _⟩ => by rw [e]; exact .nil
  | a :: r, _, _, ⟨v, ws, qs, rs, e1, e2, h1, h2⟩ => by rw [e1]; exact .cons (Dat.dat h1) (allR_dat h2)
instance {α : Type} [Py α] {S : Sh α} [Dat S] : Dat (Sh.lst (ShL.all S)) := ⟨fun ⟨p, xs, qs, e1, _, h1, h2⟩ => ⟨p, xs, e1, h1, allR_dat h2⟩⟩
/-- pairs, rows of three and four -/
def Sh.pr {α β : Type} (S : Sh α) (T : Sh β) : Sh (α × β) := (Sh.tup (ShL.cons S (ShL.cons T ShL.nil))).via fun p => (p.1, (p.2, ()))
def Sh.t4 {α β γ δ : Type} (S : Sh α) (T : Sh β) (U : Sh γ) (W : Sh δ) : Sh (T4 α β γ δ) := (Sh.tup (ShL.cons S (ShL.cons T (ShL.cons U (ShL.cons W ShL.nil))))).via fun p => (p.x1, (p.x2, (p.x3, (p.x4, ()))))
instance {α β : Type} [Py α] [Py β] {S : Sh α} {T : Sh β} [Dat S] [Dat T] : Dat (Sh.pr S T) := ⟨fun ⟨p, xs, qs, e1, _, h1, v, ws, q1, r1, e2, _, g1, v2, ws2, q2, r2, e3, _, g2, e4, _⟩ => ⟨p, v, v2, e1, by rw [h1, e2, e3, e4], Dat.dat g1, Dat.dat g2⟩⟩
instance {α β γ δ : Type} [Py α] [Py β] [Py γ] [Py δ] {S : Sh α} {T : Sh β} {U : Sh γ} {W : Sh δ} [Dat S] [Dat T] [Dat U] [Dat W] : Dat (Sh.t4 S T U W) := ⟨fun ⟨p, xs, qs, e1, _, h1, v, ws, q1, r1, e2, _, g1, v2, ws2, q2, r2, e3, _, g2, v3, ws3, q3, r3, e4, _, g3, v4, ws4, q4, r4, e5, _, g4, e6, _⟩ =>
  ⟨p, v, v2, v3, v4, e1, by rw [h1, e2, e3, e4, e5, e6], Dat.dat g1, Dat.dat g2, Dat.dat g3, Dat.dat g4⟩⟩
/-- None, or a thing -/
def Sh.opt {α : Type} (S : Sh α) : Sh (Option α) where
  R := fun K Z H v ps o => match o with
    | none => v = .non ∧ ps = []
    | some a => S.R K Z H v ps a
  keep := fun {K Z Z' H H' v ps a} s h r => by
    cases a with
    | none => exact r
    | some a => exact S.keep s h r
  stands := fun {K Z H v ps a} r => by
    cases a with
    | none => intro q hq; rw [r.2] at hq; cases hq
    | some a => exact S.stands r
instance {α : Type} [Py α] {S : Sh α} [Dat S] : Dat (Sh.opt S) := ⟨fun {K Z v ps a} r => by
  cases a with
  | none => exact r.1
  | some a => exact Dat.dat (S := S) r⟩
section
variable {α β : Type} {S : Sh α} {SO : Sh β} {K : Fr} {Z H Z' H' Z0 H0 Z2 H2 : Hp} {v u : V} {ps qs : List Addr} {a x : α} {b : β} {put : α → β} {Q : VK}
theorem OwnO.tell [Py α] [Dat S] (o : OwnO S K H0 Z H v ps a) (c : Step Z0 H0 Z H) : ∃ Z', Step Z0 H0 Z' H ∧ Same Z Z' ∧ Py.R K Z' v a ∧ ∀ q, q ∉ ps → Z' q = Z q := by
  have s := tellL_same (H := H) o.nz
  refine ⟨tellL Z H ps, tellL_step c o.nz o.n0, s, Dat.dat (S := S) (S.keep s (fun q hq => ?_) o.r), fun q hq => ?_⟩
  · unfold tellL; rw [if_pos hq]
  · unfold tellL; rw [if_neg hq]
/-- seen as data -/
theorem OwnO.see [Py α] [Dat S] (o : OwnO S K H0 Z H v ps a) : Py.R K (tellL Z H ps) v a :=
  Dat.dat (S := S) (S.keep (tellL_same (H := H) o.nz) (fun q hq => by unfold tellL; rw [if_pos hq]) o.r)
theorem OwnO.seez (o : OwnO S K H0 Z H v ps a) (zh : Same Z H) : Same (tellL Z H ps) H := fun q u e => by
  unfold tellL at e
  split at e
  · exact e
  · exact zh _ _ e
theorem OwnO.ret [Py α] [Dat S] (o : OwnO S K H0 Z H v ps a) (c : Step Z0 H0 Z H) (k : Tel K Z0 H0 Q a) : Q v H := by
  obtain ⟨Z', c', _, r, _⟩ := o.tell c
  exact k _ _ _ c' r
theorem NewO.tel [Py α] [Dat S] (zh : Same Z H) (k : Tel K Z H Q a) : NewO S K Z H Q a := fun v ps Z' H' st o => o.ret st k
theorem NewO.gen (k : ∀ n, n = a → NewO S K Z H Q n) : NewO S K Z H Q a := k a rfl
theorem NewO.after (c : Step Z0 H0 Z H) (k : NewO S K Z0 H0 Q a) : NewO S K Z H Q a := fun v ps Z' H' st o =>
  k v ps Z' H' (c.trans st) ⟨o.r, o.nd, o.nz, fun q hq => c.hh.free (o.n0 q hq)⟩
theorem OwnO.non : OwnO (Sh.opt S) K H0 Z H .non [] none := ⟨⟨rfl, rfl⟩, List.nodup_nil, (fun _ h => nomatch h), (fun _ h => nomatch h)⟩
/-! ### a thing within one's own thing -/
structure Leaf (S : Sh α) (SO : Sh β) (K : Fr) (H0 Z H : Hp) (v : V) (ps : List Addr) (u : V) (qs : List Addr) (x : α) (put : α → β) (b : β) : Prop where
  o : OwnO SO K H0 Z H v ps b
  w : Within S SO K Z H v ps u qs x put
theorem Leaf.sub (l : Leaf S SO K H0 Z H v ps u qs x put b) : OwnO S K H0 Z H u qs x := l.o.sub l.w
theorem Leaf.step (l : Leaf S SO K H0 Z H v ps u qs x put b) (st : Step Z H Z' H') : Leaf S SO K H0 Z' H' v ps u qs x put b := by
  obtain ⟨o, r, ls, rs, e, bk⟩ := l
  have hk : ∀ q ∈ ps, H' q = H q := fun q hq => by
    obtain ⟨w, hw⟩ := o.stands q hq
    rw [hw]; exact st.hh _ _ hw
  refine ⟨o.step st, S.keep st.zz (fun q hq => hk q (by rw [e]; simp [hq])) r, ls, rs, e, fun Z2 H2 qs' x' s h hr => bk Z2 H2 qs' x' (st.zz.trans s) (fun q hq => ?_) hr⟩
  rw [h q hq]
  exact hk q (by rw [e]; simp only [List.mem_append] at hq ⊢; rcases hq with hq | hq <;> simp [hq])
theorem Leaf.mem (l : Leaf S SO K H0 Z H v ps u qs x put b) : ∀ q ∈ qs, q ∈ ps := l.w.mem
/-- it is changed where it stands -/
theorem Leaf.back {q : Addr} {w : HO} {x' : α} (l : Leaf S SO K H0 Z H v ps u qs x put b) (hq : q ∈ qs) (r' : S.R K Z (upd H q w) u qs x') : OwnO SO K H0 Z (upd H q w) v ps (put x') := by
  obtain ⟨o, r, ls, rs, e, bk⟩ := l
  have hnd := o.nd
  rw [e] at hnd
  obtain ⟨n1, n2, n3⟩ := List.nodup_append.mp hnd
  obtain ⟨n4, n5, n6⟩ := List.nodup_append.mp n1
  have hne : ∀ p ∈ ls ++ rs, p ≠ q := fun p hp ep => by
    subst ep
    rcases List.mem_append.mp hp with hp | hp
    · exact n6 p hp p hq rfl
    · exact n3 p (List.mem_append_right _ hq) p hp rfl
  have h2 := bk Z (upd H q w) qs x' (Same.refl _) (fun p hp => upd_ne (hne p hp)) r'
  rw [← e] at h2
  exact ⟨h2, o.nd, o.nz, o.n0⟩
end
section
variable {β : Type} {SO : Sh β} {K : Fr} {Z H Z' H' Z0 H0 Z2 H2 : Hp} {v u : V} {ps qs : List Addr} {b : β} {Q : VK}
theorem Leaf.item {α : Type} [Inhabited α] {S : Sh α} {x : List α} {put : List α → β} {i : Int} (l : Leaf (Sh.lst (ShL.all S)) SO K H0 Z H v ps u qs x put b) (hi : inR x.length i) :
    ∃ w rs, (∀ Q : VK, Q w H → rIxL K u (.int i) H Q) ∧ Leaf S SO K H0 Z H v ps w rs (getI x i) (fun z => put (setI x i z)) b := by
  obtain ⟨j, hj, hl⟩ := ixN_some hi
  have e : x[j]? = some (getI x i) := by
    have h := atI_get hi
    unfold atI at h
    rw [hj] at h
    exact h
  obtain ⟨p, xs, w, rs, ev, h1, h2, hlen, wi⟩ := Within.item l.w.r e
  subst ev
  refine ⟨w, rs, fun Q hQ => ⟨p, xs, i, w, rfl, rfl, SqL.of h1, ?_, hQ⟩, l.o, ?_⟩
  · unfold atI
    rw [hlen, hj]
    exact h2
  · have e2 : (fun z => put (setI x i z)) = fun z => put (x.set j z) := by
      funext z
      unfold setI
      rw [hj]
    rw [e2]
    exact l.w.trans wi
theorem Leaf.snd {α γ : Type} {S : Sh α} {T : Sh γ} {x : α × γ} {put : α × γ → β} (l : Leaf (Sh.pr S T) SO K H0 Z H v ps u qs x put b) :
    ∃ w rs, (∀ Q : VK, Q w H → rIxT K u (.int 1) H Q) ∧ Leaf T SO K H0 Z H v ps w rs x.2 (fun z => put (x.1, z)) b := by
  obtain ⟨p, xs, qs', ev, e1, h1, w1, ws, q1, r1, e2, e3, g1, w2, ws2, q2, r2, e4, e5, g2, e6, e7⟩ := l.w.r
  subst ev e2 e4 e6 e1 e3 e5 e7
  refine ⟨w2, q2, fun Q hQ => ⟨p, _, 1, w2, rfl, rfl, SqT.of h1, rfl, hQ⟩, l.o, ?_⟩
  refine l.w.trans (put := fun z => (x.1, z)) ⟨g2, p :: q1, [], by simp, fun Z' H' qs' x' s hk hr => ?_⟩
  exact ⟨p, [w1, w2], q1 ++ (qs' ++ []), rfl, by simp, (hk p (by simp)).trans h1, w1, [w2], q1, qs' ++ [], rfl, rfl, S.keep s (fun q hq => hk q (by simp [hq])) g1, w2, [], qs', [], rfl, rfl, hr, rfl, rfl⟩
/-! ### reading -/
theorem OwnO.tyL {α : Type} {S : Sh α} {x : List α} (o : OwnO (Sh.lst (ShL.all S)) K H0 Z H u qs x) : tyV K "list" u H := by
  obtain ⟨p, xs, qs', rfl, _, h1, h2⟩ := o.r
  exact .inl ⟨rfl, xs, SqL.of h1⟩
end
section
variable {α : Type} {S : Sh α} {K : Fr} {Z H Z' H' Z0 H0 Z2 H2 : Hp} {v : V} {ps : List Addr} {a : α} {Q : VK}
theorem Pd.ownO [Py α] [DecidableEq α] [PyD α] [Dat S] (c : Step Z0 H0 Z H) (o : OwnO S K H0 Z H v ps a) : Pd K H v a := Pd.ref (o.seez c.zh) o.see
theorem Pt.ownO [Py α] [PtT α] [Dat S] (c : Step Z0 H0 Z H) (o : OwnO S K H0 Z H v ps a) : Pt K H v (PtT.t α) := PtT.pt (o.seez c.zh) o.see
/-! ### displays of things of one's own -/
theorem OwnL.nilA : OwnL (ShL.all S) K H0 Z H [] [] [] := ⟨⟨rfl, rfl⟩, List.nodup_nil, (fun _ h => nomatch h), (fun _ h => nomatch h)⟩
theorem OwnL.consA {vs : List V} {qs rs : List Addr} {l : List α} (o : OwnO S K H0 Z H v qs a) (t : OwnL (ShL.all S) K H0 Z H vs rs l) (hd : ∀ x ∈ qs, ∀ y ∈ rs, x ≠ y) : OwnL (ShL.all S) K H0 Z H (v :: vs) (qs ++ rs) (a :: l) :=
  ⟨⟨v, vs, qs, rs, rfl, rfl, o.r, t.r⟩, List.nodup_append.mpr ⟨o.nd, t.nd, hd⟩, fun q hq => (List.mem_append.mp hq).elim (o.nz q) (t.nz q), fun q hq => (List.mem_append.mp hq).elim (o.n0 q) (t.n0 q)⟩
end
section
variable {β : Type} {T : ShL β} {K : Fr} {Z H Z0 H0 : Hp} {vs : List V} {qs : List Addr} {b : β} {Q : VK}
theorem OwnL.step {Z' H' : Hp} (l : OwnL T K H0 Z H vs qs b) (st : Step Z H Z' H') : OwnL T K H0 Z' H' vs qs b :=
  ⟨T.keep st.zz (fun q hq => by obtain ⟨w, hw⟩ := T.stands l.r q hq; rw [hw]; exact st.hh _ _ hw) l.r, l.nd, fun q hq => by obtain ⟨w, hw⟩ := T.stands l.r q hq; exact (st.fr _ _ hw).trans (l.nz q hq), l.n0⟩
theorem OwnL.wrapL (c : Step Z0 H0 Z H) (l : OwnL T K H0 Z H vs qs b) {p : Addr} (hp : H p = none) : OwnO (Sh.lst T) K H0 Z (upd H p (.lst vs)) (.ref p) (p :: qs) b := by
  have l2 := l.step (Step.own (o := .lst vs) c.zh hp)
  refine ⟨⟨p, vs, qs, rfl, rfl, upd_same, l2.r⟩, List.nodup_cons.mpr ⟨fun h => ?_, l.nd⟩, fun q hq => ?_, fun q hq => ?_⟩
  · obtain ⟨w, hw⟩ := T.stands l.r p h
    rw [hp] at hw; cases hw
  · rcases List.mem_cons.mp hq with rfl | hq
    · exact c.zh.free hp
    · exact l.nz q hq
  · rcases List.mem_cons.mp hq with rfl | hq
    · exact c.hh.free hp
    · exact l.n0 q hq
end
/-! ### a list of things of one's own that grows -/
section
variable {α : Type} {S : Sh α} {K : Fr} {Z H Z0 H0 : Hp} {v : V} {p : Addr} {ps qs : List Addr} {a : α} {l : List α} {Q : VK}
theorem Own.toO [Py α] (o : Own K H0 Z H p ([] : List α)) : OwnO (Sh.lst (ShL.all S)) K H0 Z H (.ref p) [p] ([] : List α) := by
  obtain ⟨⟨xs, h, pr⟩, nz, n0⟩ := o
  cases pr
  exact ⟨⟨p, [], [], rfl, rfl, h, rfl, rfl⟩, by simp, fun q hq => by rw [List.mem_singleton] at hq; rw [hq]; exact nz, fun q hq => by rw [List.mem_singleton] at hq; rw [hq]; exact n0⟩
theorem OwnO.here (o : OwnO (Sh.lst (ShL.all S)) K H0 Z H (.ref p) ps l) : p ∈ ps ∧ Z p = none ∧ H0 p = none := by
  obtain ⟨⟨p', xs, rs, ev, e1, h1, h2⟩, nd, nz, n0⟩ := o
  cases ev
  subst e1
  exact ⟨by simp, nz p (by simp), n0 p (by simp)⟩
end
/-! ### names of places -/
section
variable {α β : Type} {S : Sh α} {T : Sh β} {TL : ShL β} {K : Fr} {Z H Z0 H0 : Hp} {v : V} {p : Addr} {ps qs : List Addr}
theorem Own.ne_o {γ : Type} [Py γ] {l : List γ} (o : Own K H0 Z H p l) (h : ∀ q ∈ qs, H q = none) : ∀ x ∈ qs, x ≠ p := fun x hx e => by
  obtain ⟨w, hw⟩ := o.at
  rw [← e, h x hx] at hw; cases hw
theorem OwnD.ne_o {κ γ : Type} [Sc κ] [DecidableEq κ] [Kt κ] [Py γ] {l : Dct κ γ} (o : OwnD K H0 Z H p l) (h : ∀ q ∈ qs, H q = none) : ∀ x ∈ qs, x ≠ p := fun x hx e => by
  obtain ⟨w, hw⟩ := o.at
  rw [← e, h x hx] at hw; cases hw
theorem OwnN.ne_o {γ : Type} [Py γ] {l : List (List γ)} {rs : List Addr} (o : OwnN K H0 Z H p rs l) (h : ∀ q ∈ qs, H q = none) : ∀ x ∈ qs, ∀ y ∈ p :: rs, x ≠ y := fun x hx y hy e => by
  obtain ⟨w, hw⟩ := o.stands y hy
  rw [← e, h x hx] at hw; cases hw
end
/-! ### lent, with nothing kept of what was told: the answer is plain -/
section
variable {α : Type} {S : Sh α} {K : Fr} {Z Zb H : Hp} {Q : VK}
end
end Cd

set_option Elab.async false
set_option linter.all false
set_option maxRecDepth 100000
set_option maxHeartbeats 4000000
namespace Cd
open PySem L2 PyProof.Rows
/-! ### walks over rows of three and four -/
section
variable {K : Fr} {J : It} {tb : TS} {D : Ends} {σ : L2.St} {H Z : Hp}
end
section
variable {K : Fr} {J : It} {tt : TT} {te : TE} {σ : L2.St} {H Z : Hp} {vs : List Nat} {Q : VK}
end
/-! ### apart -/
section
variable {qs rs r1 r2 : List Addr} {p q : Addr}
end
section
variable {K : Fr} {Z H H0 : Hp} {p : Addr}
theorem Own.stn {α : Type} [Py α] {l : List α} (o : Own K H0 Z H p l) : ∀ y ∈ [p], ∃ u, H y = some u := fun y hy => by rw [List.mem_singleton.mp hy]; exact o.at
theorem OwnD.stn {κ α : Type} [Sc κ] [DecidableEq κ] [Kt κ] [Py α] {l : Dct κ α} (o : OwnD K H0 Z H p l) : ∀ y ∈ [p], ∃ u, H y = some u := fun y hy => by rw [List.mem_singleton.mp hy]; exact o.at
theorem OwnN.stn {α : Type} [Py α] {ps : List Addr} {l : List (List α)} (o : OwnN K H0 Z H p ps l) : ∀ y ∈ p :: ps, ∃ u, H y = some u := o.stands
theorem OwnO.stn {α : Type} {S : Sh α} {v : V} {ps : List Addr} {a : α} (o : OwnO S K H0 Z H v ps a) : ∀ y ∈ ps, ∃ u, H y = some u := o.stands
theorem OwnN.toO {α : Type} [Py α] {ps : List Addr} {m : List (List α)} (o : OwnN K H0 Z H p ps m) : OwnO (Sh.lst (ShL.all (Sh.lt α))) K H0 Z H (.ref p) (p :: ps) m := by
  obtain ⟨top, inn, nd, nz, n0⟩ := o
  refine ⟨⟨p, ps.map V.ref, ps, rfl, rfl, top, ?_⟩, nd, nz, n0⟩
  have key : ∀ {as : List Addr} {m : List (List α)}, Paired (fun a l => ∃ xs, H a = some (.lst xs) ∧ Paired (Py.R K Z) xs l) as m → allR (Sh.lt α) K Z H (as.map V.ref) as m := by
    intro as m h
    induction h with
    | nil => exact ⟨rfl, rfl⟩
    | cons r t ih =>
      obtain ⟨xs, hx, pr⟩ := r
      exact ⟨_, _, [_], _, rfl, rfl, ⟨_, xs, rfl, rfl, hx, pr⟩, ih⟩
  exact key inn
end
end Cd
namespace Cd
open PySem L2 PyProof.Rows
/-! ### new things of one's own, behind a loan -/
class NoZS {α : Type} (S : Sh α) : Prop where
  back : ∀ {K : Fr} {Z Z' H : Hp} {v : V} {ps : List Addr} {a : α}, S.R K Z H v ps a → S.R K Z' H v ps a
instance {α : Type} [Py α] [NoZ α] : NoZS (Sh.told (α := α)) := ⟨fun h => ⟨h.1, NoZ.back h.2⟩⟩
instance {α : Type} [Py α] [NoZ α] : NoZS (Sh.lt α) := ⟨fun ⟨p, xs, e1, e2, h1, h2⟩ => ⟨p, xs, e1, e2, h1, Paired.pImp (fun _ _ r => NoZ.back r) h2⟩⟩
instance {κ α : Type} [Sc κ] [DecidableEq κ] [Kt κ] [Py α] [NoZ α] : NoZS (Sh.dc κ α) := ⟨fun ⟨p, xs, e1, e2, h1, h2⟩ => ⟨p, xs, e1, e2, h1, Paired.pImp (fun _ _ r => ⟨r.1, NoZ.back r.2⟩) h2⟩⟩
theorem allR_noz {α : Type} {S : Sh α} [NoZS S] {K : Fr} {Z Z' H : Hp} : ∀ {l : List α} {vs : List V} {ps : List Addr}, allR S K Z H vs ps l → allR S K Z' H vs ps l
  | [], _, _, h => h
  | a :: r, _, _, ⟨v, ws, qs, rs, e1, e2, h1, h2⟩ => ⟨v, ws, qs, rs, e1, e2, NoZS.back h1, allR_noz h2⟩
instance {α : Type} {S : Sh α} [NoZS S] : NoZS (Sh.lst (ShL.all S)) := ⟨fun ⟨p, xs, qs, e1, e2, h1, h2⟩ => ⟨p, xs, qs, e1, e2, h1, allR_noz h2⟩⟩
instance {α β : Type} {S : Sh α} {T : Sh β} [NoZS S] [NoZS T] : NoZS (Sh.pr S T) := ⟨fun ⟨p, xs, qs, e1, e0, h1, v, ws, q1, r1, e2, f2, g1, v2, ws2, q2, r2, e3, f3, g2, e4, f4⟩ => ⟨p, xs, qs, e1, e0, h1, v, ws, q1, r1, e2, f2, NoZS.back (S := S) g1, v2, ws2, q2, r2, e3, f3, NoZS.back (S := T) g2, e4, f4⟩⟩
instance {α β γ δ : Type} {S : Sh α} {T : Sh β} {U : Sh γ} {W : Sh δ} [NoZS S] [NoZS T] [NoZS U] [NoZS W] : NoZS (Sh.t4 S T U W) := ⟨fun ⟨p, xs, qs, e1, e0, h1, v, ws, q1, r1, e2, f2, g1, v2, ws2, q2, r2, e3, f3, g2, v3, ws3, q3, r3, e4, f4, g3, v4, ws4, q4, r4, e5, f5, g4, e6, f6⟩ =>
  ⟨p, xs, qs, e1, e0, h1, v, ws, q1, r1, e2, f2, NoZS.back (S := S) g1, v2, ws2, q2, r2, e3, f3, NoZS.back (S := T) g2, v3, ws3, q3, r3, e4, f4, NoZS.back (S := U) g3, v4, ws4, q4, r4, e5, f5, NoZS.back (S := W) g4, e6, f6⟩⟩
instance {α : Type} {S : Sh α} [NoZS S] : NoZS (Sh.opt S) := ⟨fun {K Z Z' H v ps a} r => by
  cases a with
  | none => exact r
  | some a => exact NoZS.back (S := S) r⟩
section
variable {α : Type} {S : Sh α} {K : Fr} {Z Zb H : Hp} {Q : VK} {m : α} {ps : List Addr}
theorem NewO.bor [NoZS S] (s : Same Z Zb) (zh : Same Zb H) (k : NewO S K Z H Q m) : NewO S K Zb H Q m := fun v qs Z' H' st o =>
  k v qs Z H' (Step.bor (s.trans zh) s st) ⟨NoZS.back o.r, o.nd, fun q hq => (s.trans zh).free (o.n0 q hq), o.n0⟩
theorem NewO.brw [NoZS S] (b : Brw Z Zb ps) (zh : Same Z H) (k : NewO S K Z H Q m) : NewO S K Zb H Q m := fun v qs Z' H' st o =>
  k v qs _ H' (b.step zh st) ⟨NoZS.back o.r, o.nd, fun q hq => by unfold delL; split; rfl; exact o.nz q hq, o.n0⟩
end
end Cd
namespace Cd
open PySem L2 PyProof.Rows
end Cd
namespace Cd
open PySem L2 PyProof.Rows
section
variable {K : Fr} {Z H H0 : Hp} {u : V} {qs : List Addr} {Q : VK}
end
end Cd

set_option Elab.async false
set_option linter.all false
set_option maxRecDepth 100000
set_option maxHeartbeats 4000000
namespace Cd
open PySem L2 PyProof.Rows
/-! ### rows of three in their order -/
section
variable {α β γ : Type} [Py α] [DecidableEq α] [PyD α] [Py β] [DecidableEq β] [PyD β] [Py γ] [DecidableEq γ] [PyD γ] [SrtD α] [SrtD β] [SrtD γ]
theorem leD_t3 (p q : T3 α β γ) : leD p q = if p.x1 = q.x1 then (if p.x2 = q.x2 then leD p.x3 q.x3 else leD p.x2 q.x2) else leD p.x1 q.x1 := by
  show (!PySem.W.dataLt (.tuple [PyD.d q.x1, PyD.d q.x2, PyD.d q.x3]) (.tuple [PyD.d p.x1, PyD.d p.x2, PyD.d p.x3])) = _
  rw [PySem.W.dataLt_tuple, PySem.W.dataLt_cons (SrtD.alike _ _), PySem.W.dataLt_cons (SrtD.alike _ _), PySem.W.dataLt_cons (SrtD.alike _ _), PyD.eqv, PyD.eqv, PyD.eqv]
  by_cases h : q.x1 = p.x1
  · rw [if_pos (decide_eq_true h), if_pos h.symm]
    by_cases h2 : q.x2 = p.x2
    · rw [if_pos (decide_eq_true h2), if_pos h2.symm]
      by_cases h3 : q.x3 = p.x3
      · rw [if_pos (decide_eq_true h3), h3, leD_refl]
        rfl
      · rw [if_neg (by simpa using h3)]
        rfl
    · rw [if_neg (by simpa using h2), if_neg (fun e => h2 e.symm)]
      rfl
  · rw [if_neg (by simpa using h), if_neg (fun e => h e.symm)]
    rfl
theorem leD_t3p (p q : T3 α β γ) : leD p q = leD (p.x1, (p.x2, p.x3)) (q.x1, (q.x2, q.x3)) := by
  rw [leD_t3, leD_pair, leD_pair]
instance [OrdD α] [OrdD β] [OrdD γ] : OrdD (T3 α β γ) := ⟨fun a b c h1 h2 => by
  rw [leD_t3p] at *
  exact OrdD.tr _ _ _ h1 h2, fun a b => by
  rw [leD_t3p, leD_t3p]
  exact OrdD.tot _ _, fun a b h1 h2 => by
  rw [leD_t3p] at h1 h2
  have := OrdD.anti _ _ h1 h2
  cases a; cases b
  simp only [Prod.mk.injEq] at this
  obtain ⟨e1, e2, e3⟩ := this
  subst e1 e2 e3
  rfl⟩
end
end Cd

set_option Elab.async false
set_option linter.all false
set_option maxRecDepth 100000
set_option maxHeartbeats 4000000
namespace Cd
open PySem L2 PyProof.Rows
/-! ### tuples of one kind -/
structure TL (α : Type) where
  l : List α
deriving DecidableEq, Inhabited
instance {α : Type} [Py α] : Py (TL α) where
  R K Z v t := ∃ a xs, v = .ref a ∧ Z a = some (.tup xs) ∧ Paired (Py.R K Z) xs t.l
  mono := fun {K Z Z' v l} s h => by
    obtain ⟨a, xs, e, hz, p⟩ := h
    exact ⟨a, xs, e, s _ _ hz, Paired.pImp (fun _ _ r => Py.mono s r) p⟩
instance {α : Type} [Py α] [DecidableEq α] [PyD α] : PyD (TL α) where
  d t := .tuple (t.l.map PyD.d)
  dp := fun zh h => by
    obtain ⟨a, xs, rfl, hz, p⟩ := h
    exact .tup (SqT.of (zh _ _ hz)) (dpAll zh p)
  eqv := fun l m => by
    show PyData.eqvAll (l.l.map PyD.d) (m.l.map PyD.d) = _
    rw [eqvAll_map]
    obtain ⟨l⟩ := l
    obtain ⟨m⟩ := m
    exact decide_eq_decide.mpr ⟨fun h => by rw [show l = m from h], fun h => by injection h⟩
  dep := PyD.dep α + 1
  depth := fun l => Nat.succ_le_succ (depthAll_map l.l)
instance {α : Type} [Py α] [DecidableEq α] [PyD α] : PyN (TL α) := ⟨fun _ => by simp [PyD.d, PyData.eqv], fun _ => by simp [PyD.d, PyData.eqv]⟩
instance {α : Type} [Py α] : Nn (TL α) := ⟨fun h e => by obtain ⟨a, xs, e2, _⟩ := h; rw [e2] at e; cases e⟩
theorem Pt.tl {K : Fr} {Z H : Hp} {α : Type} [Py α] {v : V} {t : TL α} (zh : Same Z H) (h : Py.R K Z v t) : Pt K H v "tuple" := by
  obtain ⟨a, xs, rfl, hz, _⟩ := h
  exact .of (.base (.tup (zh _ _ hz)))
instance {α : Type} [Py α] : PtT (TL α) := ⟨"tuple", fun zh h => Pt.tl zh h⟩
instance {α : Type} [Py α] [NL α] : NL (TL α) := ⟨fun h r => by
  obtain ⟨a, xs, e, hz, p⟩ := r
  exact ⟨a, xs, e, delL_tup h hz, Paired.pImp (fun _ _ r => NL.back h r) p⟩⟩
section
variable {K : Fr} {Z H Z0 H0 : Hp} {Q : VK} {v x y : V} {α : Type} [Py α]
theorem Tel.lay {t : TL α} {xs : List V} (s : Same Z H) (pr : Paired (Py.R K Z) xs t.l) (k : Tel K Z H Q t) : ∀ p, H p = none → Q (.ref p) (upd H p (.tup xs)) := fun p hp => by
  have st := Step.new (o := .tup xs) s hp
  exact k _ _ _ st ⟨p, xs, rfl, upd_same, Paired.pImp (fun _ _ r => Py.mono st.zz r) pr⟩
theorem Tel.old {t : TL α} (s : Same Z H) (h : Py.R K Z v t) (k : Tel K Z H Q t) : Q v H := k _ _ _ (Step.refl s) h
theorem k_tupTL {xs : List V} {m : List α} (zh : Same Z H) (pr : Paired (Py.R K Z) xs m) (hs : xs.length ≤ sizeLine) (k : Tel K Z H Q (⟨m⟩ : TL α)) : rTupQ xs H Q := ⟨hs, fun p hp => Tel.lay zh (t := ⟨m⟩) pr k p hp⟩
end
/-! of one's own -/
def Sh.tl {α : Type} (S : Sh α) : Sh (TL α) := (Sh.tup (ShL.all S)).via TL.l
instance {α : Type} [Py α] {S : Sh α} [Dat S] : Dat (Sh.tl S) := ⟨fun ⟨p, xs, qs, e1, _, h1, h2⟩ => ⟨p, xs, e1, h1, allR_dat h2⟩⟩
instance {α : Type} {S : Sh α} [NoZS S] : NoZS (Sh.tl S) := ⟨fun ⟨p, xs, qs, e1, e2, h1, h2⟩ => ⟨p, xs, qs, e1, e2, h1, allR_noz h2⟩⟩
section
variable {α β : Type} {S : Sh α} {SO : Sh β} {K : Fr} {Z H Z' H' Z0 H0 Z2 H2 : Hp} {v u : V} {ps qs : List Addr} {b : β} {Q : VK}
end
end Cd
namespace Cd
end Cd

set_option Elab.async false
set_option linter.all false
set_option maxRecDepth 100000
set_option maxHeartbeats 4000000
namespace Cd
open PySem L2 PyProof.Rows
/-! ### a dict that may be locked: it can be read -/
structure FD (κ α : Type) where
  d : Dct κ α
section
variable {κ α : Type} [Sc κ] [DecidableEq κ] [Kt κ] [Py α]
instance : Py (FD κ α) where
  R K Z v f := ∃ a kvs, v = .ref a ∧ Rd Z a (.dK kvs) ∧ Paired (EntK K Z) kvs f.d.kv
  mono := fun {K Z Z' v l} s h => by
    obtain ⟨a, xs, e, hz, p⟩ := h
    refine ⟨a, xs, e, ?_, Paired.pImp (fun _ _ r => r.mono s) p⟩
    rcases hz with hz | ⟨o, hz⟩
    · exact .inl (s _ _ hz)
    · exact .inr ⟨o, s _ _ hz⟩
theorem FD.of {K : Fr} {Z : Hp} {v : V} {m : Dct κ α} (h : Py.R K Z v m) : Py.R K Z v (FD.mk m) := let ⟨a, xs, e, hz, pr⟩ := h; ⟨a, xs, e, .inl hz, pr⟩
theorem RD.fd {K : Fr} {Z H : Hp} {v : V} {m : Dct κ α} (zh : Same Z H) (h : Py.R K Z v (FD.mk m)) : RD K Z H v m := by
  obtain ⟨a, xs, e, hz, pr⟩ := h
  refine ⟨a, xs, e, ?_, pr⟩
  rcases hz with hz | ⟨o, hz⟩
  · exact .inl (zh _ _ hz)
  · exact .inr ⟨o, zh _ _ hz⟩
end
/-! ### locking -/
def FzR (Z Z' : Hp) : Prop := ∀ b u, Z b = some u → (∀ kvs, u ≠ .dK kvs) → (∀ o kvs, u ≠ .frz o (.dK kvs)) → Z' b = some u
class ND (α : Type) [Py α] : Prop where
  fz : ∀ {K : Fr} {Z Z' : Hp} {v : V} {a : α}, FzR Z Z' → Py.R K Z v a → Py.R K Z' v a
instance (priority := low) {α : Type} [Py α] [NoZ α] : ND α := ⟨fun _ h => NoZ.back h⟩
theorem FzR.l {Z Z' : Hp} (s : FzR Z Z') {b : Addr} {xs : List V} (h : Z b = some (.lst xs)) : Z' b = some (.lst xs) := s _ _ h (fun _ e => nomatch e) (fun _ _ e => nomatch e)
theorem FzR.t {Z Z' : Hp} (s : FzR Z Z') {b : Addr} {xs : List V} (h : Z b = some (.tup xs)) : Z' b = some (.tup xs) := s _ _ h (fun _ e => nomatch e) (fun _ _ e => nomatch e)
instance {α : Type} [Py α] [ND α] : ND (List α) := ⟨fun s h => let ⟨a, xs, e, hz, p⟩ := h; ⟨a, xs, e, s.l hz, Paired.pImp (fun _ _ r => ND.fz s r) p⟩⟩
instance {α : Type} [Py α] [ND α] : ND (TL α) := ⟨fun s h => let ⟨a, xs, e, hz, p⟩ := h; ⟨a, xs, e, s.t hz, Paired.pImp (fun _ _ r => ND.fz s r) p⟩⟩
instance {α β : Type} [Py α] [Py β] [ND α] [ND β] : ND (α × β) := ⟨fun s h => let ⟨a, x, y, e, hz, p, q⟩ := h; ⟨a, x, y, e, s.t hz, ND.fz s p, ND.fz s q⟩⟩
instance {α β γ : Type} [Py α] [Py β] [Py γ] [ND α] [ND β] [ND γ] : ND (T3 α β γ) := ⟨fun s h => let ⟨a, x, y, z, e, hz, p, q, r⟩ := h; ⟨a, x, y, z, e, s.t hz, ND.fz s p, ND.fz s q, ND.fz s r⟩⟩
instance {α β γ δ : Type} [Py α] [Py β] [Py γ] [Py δ] [ND α] [ND β] [ND γ] [ND δ] : ND (T4 α β γ δ) := ⟨fun s h => let ⟨a, x, y, z, w, e, hz, p, q, r, t⟩ := h; ⟨a, x, y, z, w, e, s.t hz, ND.fz s p, ND.fz s q, ND.fz s r, ND.fz s t⟩⟩
instance {α : Type} [Py α] [ND α] : ND (Option α) := ⟨fun {K Z Z' v a} s h => by
  cases a with
  | none => exact h
  | some a => exact ND.fz (α := α) s h⟩
instance : ND Scr := ⟨fun {K Z Z' v l} s h => by
  obtain ⟨a, e, hz⟩ := h
  refine ⟨a, e, ?_⟩
  rcases hz with (hz | ⟨o, hz⟩) | hz
  · exact .inl (.inl (s.l hz))
  · exact .inl (.inr ⟨o, s _ _ hz (fun _ e => nomatch e) (fun _ _ e => by injection e with _ e2; cases e2)⟩)
  · exact .inr hz⟩
instance {α β γ : Type} [Py α] [Py β] [Py γ] [ND α] [ND β] [ND γ] : ND (TO α β γ) := ⟨fun {K Z Z' v p} s r => by
  obtain ⟨x1, x2, x3⟩ := p
  obtain ⟨a, x, y, e, h1, h2, h3⟩ := r
  refine ⟨a, x, y, e, ND.fz s h1, ND.fz s h2, ?_⟩
  cases x3 with
  | none => exact s.t h3
  | some c =>
    obtain ⟨z, hz, h4⟩ := h3
    exact ⟨z, s.t hz, ND.fz s h4⟩⟩
section
variable {K : Fr} {Z H Z0 H0 Z' H' : Hp} {d : Addr} {kvs : List (Key × V)} {od : Obj}
theorem Step.lock (c : Step Z0 H0 Z H) (hd : Z d = some (.dK kvs)) (od : Obj) : Step (delL Z0 [d]) (delL H0 [d]) (upd Z d (.frz od (.dK kvs))) (upd H d (.frz od (.dK kvs))) := by
  refine ⟨fun b u e => ?_, fun b u e => ?_, fun b u e => ?_, fun b u e => ?_⟩
  · by_cases q : b = d
    · subst q; unfold delL at e; rw [if_pos (by simp)] at e; cases e
    · unfold delL at e; rw [if_neg (by simpa using q)] at e; rw [upd_ne q]; exact c.hh _ _ e
  · by_cases q : b = d
    · subst q; unfold delL at e; rw [if_pos (by simp)] at e; cases e
    · unfold delL at e; rw [if_neg (by simpa using q)] at e; rw [upd_ne q]; exact c.zz _ _ e
  · by_cases q : b = d
    · subst q; rw [upd_same] at e ⊢; exact e
    · rw [upd_ne q] at e ⊢; exact c.zh _ _ e
  · by_cases q : b = d
    · subst q; unfold delL at e; rw [if_pos (by simp)] at e; cases e
    · unfold delL at e ⊢
      rw [if_neg (by simpa using q)] at e ⊢
      rw [upd_ne q]; exact c.fr _ _ e
theorem Step.unlock (c : Step Z0 H0 Z H) (hd : Z d = some (.dK kvs)) (ci : Step (delL Z0 [d]) (delL H0 [d]) Z' H') : Step Z0 H0 (upd Z' d (.dK kvs)) (upd H' d (.dK kvs)) := by
  refine ⟨fun b u e => ?_, fun b u e => ?_, fun b u e => ?_, fun b u e => ?_⟩
  · by_cases q : b = d
    · subst q
      have h1 := c.hh _ _ e
      rw [c.zh _ _ hd] at h1
      rw [upd_same]; exact h1
    · rw [upd_ne q]; exact ci.hh _ _ (by unfold delL; rw [if_neg (by simpa using q)]; exact e)
  · by_cases q : b = d
    · subst q
      have h1 := c.zz _ _ e
      rw [hd] at h1
      rw [upd_same]; exact h1
    · rw [upd_ne q]; exact ci.zz _ _ (by unfold delL; rw [if_neg (by simpa using q)]; exact e)
  · by_cases q : b = d
    · subst q; rw [upd_same] at e ⊢; exact e
    · rw [upd_ne q] at e ⊢; exact ci.zh _ _ e
  · by_cases q : b = d
    · subst q
      have h1 := c.fr _ _ e
      rw [upd_same, ← h1]; exact hd.symm
    · rw [upd_ne q]
      have h1 := ci.fr b u (by unfold delL; rw [if_neg (by simpa using q)]; exact e)
      unfold delL at h1
      rw [if_neg (by simpa using q)] at h1
      exact h1
theorem lock_fz (hd : Z d = some (.dK kvs)) : FzR Z (upd Z d (.frz od (.dK kvs))) := fun b u e h1 _ => by
  by_cases q : b = d
  · subst q; rw [hd] at e; cases e; exact absurd rfl (h1 kvs)
  · rw [upd_ne q]; exact e
theorem unlock_fz (hd : Z d = some (.frz od (.dK kvs))) : FzR Z (upd Z d (.dK kvs)) := fun b u e h1 h2 => by
  by_cases q : b = d
  · subst q; rw [hd] at e; cases e; exact absurd rfl (h2 _ _)
  · rw [upd_ne q]; exact e
theorem FD.lock {κ α : Type} [Sc κ] [DecidableEq κ] [Kt κ] [Py α] [ND α] {v : V} {m : Dct κ α} (hd : Z d = some (.dK kvs)) (h : Py.R K Z v m) : Py.R K (upd Z d (.frz od (.dK kvs))) v (FD.mk m) := by
  obtain ⟨a, xs, e, hz, pr⟩ := h
  refine ⟨a, xs, e, ?_, Paired.pImp (fun _ _ r => ⟨r.1, ND.fz (lock_fz hd) r.2⟩) pr⟩
  by_cases q : a = d
  · subst q; rw [hd] at hz; cases hz; exact .inr ⟨od, upd_same⟩
  · exact .inl (by rw [upd_ne q]; exact hz)
theorem Own.lock {α : Type} [Py α] [ND α] {p : Addr} {l : List α} (o : Own K H0 Z H p l) (hd : Z d = some (.dK kvs)) : Own K (delL H0 [d]) (upd Z d (.frz od (.dK kvs))) (upd H d (.frz od (.dK kvs))) p l := by
  obtain ⟨⟨xs, h, pr⟩, nz, n0⟩ := o
  have q : p ≠ d := fun e => by rw [e, hd] at nz; cases nz
  exact ⟨⟨xs, by rw [upd_ne q]; exact h, Paired.pImp (fun _ _ r => ND.fz (lock_fz hd) r) pr⟩, by rw [upd_ne q]; exact nz, by unfold delL; split; rfl; exact n0⟩
theorem Own.unlock {α : Type} [Py α] [ND α] {p : Addr} {l : List α} (o : Own K (delL H0 [d]) Z' H' p l) (hd : Z' d = some (.frz od (.dK kvs))) : Own K H0 (upd Z' d (.dK kvs)) (upd H' d (.dK kvs)) p l := by
  obtain ⟨⟨xs, h, pr⟩, nz, n0⟩ := o
  have q : p ≠ d := fun e => by rw [e, hd] at nz; cases nz
  exact ⟨⟨xs, by rw [upd_ne q]; exact h, Paired.pImp (fun _ _ r => ND.fz (unlock_fz hd) r) pr⟩, by rw [upd_ne q]; exact nz, by unfold delL at n0; rw [if_neg (by simpa using q)] at n0; exact n0⟩
theorem OwnD.lock {κ α : Type} [Sc κ] [DecidableEq κ] [Kt κ] [Py α] [ND α] {p : Addr} {l : Dct κ α} (o : OwnD K H0 Z H p l) (hd : Z d = some (.dK kvs)) : OwnD K (delL H0 [d]) (upd Z d (.frz od (.dK kvs))) (upd H d (.frz od (.dK kvs))) p l := by
  obtain ⟨⟨xs, h, pr⟩, nz, n0⟩ := o
  have q : p ≠ d := fun e => by rw [e, hd] at nz; cases nz
  exact ⟨⟨xs, by rw [upd_ne q]; exact h, Paired.pImp (fun _ _ r => ⟨r.1, ND.fz (lock_fz hd) r.2⟩) pr⟩, by rw [upd_ne q]; exact nz, by unfold delL; split; rfl; exact n0⟩
theorem OwnD.unlock {κ α : Type} [Sc κ] [DecidableEq κ] [Kt κ] [Py α] [ND α] {p : Addr} {l : Dct κ α} (o : OwnD K (delL H0 [d]) Z' H' p l) (hd : Z' d = some (.frz od (.dK kvs))) : OwnD K H0 (upd Z' d (.dK kvs)) (upd H' d (.dK kvs)) p l := by
  obtain ⟨⟨xs, h, pr⟩, nz, n0⟩ := o
  have q : p ≠ d := fun e => by rw [e, hd] at nz; cases nz
  exact ⟨⟨xs, by rw [upd_ne q]; exact h, Paired.pImp (fun _ _ r => ⟨r.1, ND.fz (unlock_fz hd) r.2⟩) pr⟩, by rw [upd_ne q]; exact nz, by unfold delL at n0; rw [if_neg (by simpa using q)] at n0; exact n0⟩
class NDS {α : Type} (S : Sh α) : Prop where
  fz : ∀ {K : Fr} {Z Z' H : Hp} {v : V} {ps : List Addr} {a : α}, FzR Z Z' → S.R K Z H v ps a → S.R K Z' H v ps a
theorem OwnO.lock {α : Type} {S : Sh α} [NDS S] {v : V} {ps : List Addr} {a : α} (o : OwnO S K H0 Z H v ps a) (hd : Z d = some (.dK kvs)) : OwnO S K (delL H0 [d]) (upd Z d (.frz od (.dK kvs))) (upd H d (.frz od (.dK kvs))) v ps a := by
  have q : ∀ p ∈ ps, p ≠ d := fun p hp e => by have := o.nz p hp; rw [e, hd] at this; cases this
  refine ⟨NDS.fz (lock_fz hd) (S.keep (Same.refl _) (fun p hp => upd_ne (q p hp)) o.r), o.nd, fun p hp => ?_, fun p hp => ?_⟩
  · rw [upd_ne (q p hp)]; exact o.nz p hp
  · unfold delL; split; rfl; exact o.n0 p hp
theorem OwnO.unlock {α : Type} {S : Sh α} [NDS S] {v : V} {ps : List Addr} {a : α} (o : OwnO S K (delL H0 [d]) Z' H' v ps a) (hd : Z' d = some (.frz od (.dK kvs))) : OwnO S K H0 (upd Z' d (.dK kvs)) (upd H' d (.dK kvs)) v ps a := by
  have q : ∀ p ∈ ps, p ≠ d := fun p hp e => by have := o.nz p hp; rw [e, hd] at this; cases this
  refine ⟨NDS.fz (unlock_fz hd) (S.keep (Same.refl _) (fun p hp => upd_ne (q p hp)) o.r), o.nd, fun p hp => ?_, fun p hp => ?_⟩
  · rw [upd_ne (q p hp)]; exact o.nz p hp
  · have := o.n0 p hp
    unfold delL at this
    rw [if_neg (by simpa using q p hp)] at this
    exact this
end
instance {α : Type} [Py α] [ND α] : NDS (Sh.told (α := α)) := ⟨fun s h => ⟨h.1, ND.fz s h.2⟩⟩
instance {α : Type} [Py α] [ND α] : NDS (Sh.lt α) := ⟨fun s ⟨p, xs, e1, e2, h1, h2⟩ => ⟨p, xs, e1, e2, h1, Paired.pImp (fun _ _ r => ND.fz s r) h2⟩⟩
instance {κ α : Type} [Sc κ] [DecidableEq κ] [Kt κ] [Py α] [ND α] : NDS (Sh.dc κ α) := ⟨fun s ⟨p, xs, e1, e2, h1, h2⟩ => ⟨p, xs, e1, e2, h1, Paired.pImp (fun _ _ r => ⟨r.1, ND.fz s r.2⟩) h2⟩⟩
theorem allR_fz {α : Type} {S : Sh α} [NDS S] {K : Fr} {Z Z' H : Hp} (s : FzR Z Z') : ∀ {l : List α} {vs : List V} {ps : List Addr}, allR S K Z H vs ps l → allR S K Z' H vs ps l
  | [], _, _, h => h
  | a :: r, _, _, ⟨v, ws, qs, rs, e1, e2, h1, h2⟩ => ⟨v, ws, qs, rs, e1, e2, NDS.fz s h1, allR_fz s h2⟩
instance {α : Type} {S : Sh α} [NDS S] : NDS (Sh.lst (ShL.all S)) := ⟨fun s ⟨p, xs, qs, e1, e2, h1, h2⟩ => ⟨p, xs, qs, e1, e2, h1, allR_fz s h2⟩⟩
instance {α β : Type} {S : Sh α} {T : Sh β} [NDS S] [NDS T] : NDS (Sh.pr S T) := ⟨fun s ⟨p, xs, qs, e1, e0, h1, v, ws, q1, r1, e2, f2, g1, v2, ws2, q2, r2, e3, f3, g2, e4, f4⟩ => ⟨p, xs, qs, e1, e0, h1, v, ws, q1, r1, e2, f2, NDS.fz (S := S) s g1, v2, ws2, q2, r2, e3, f3, NDS.fz (S := T) s g2, e4, f4⟩⟩
instance {α : Type} {S : Sh α} [NDS S] : NDS (Sh.opt S) := ⟨fun {K Z Z' H v ps a} s r => by
  cases a with
  | none => exact r
  | some a => exact NDS.fz (S := S) s r⟩
section
variable {K : Fr} {Z : Hp} {d : Addr} {kvs : List (Key × V)} {od : Obj} {κ α : Type} [Sc κ] [DecidableEq κ] [Kt κ] [Py α]
end
theorem OwnD.stepD {κ α : Type} [Sc κ] [DecidableEq κ] [Kt κ] [Py α] {K : Fr} {Z H Z' H' H0 : Hp} {p : Addr} {l : Dct κ α} {qs : List Addr} (o : OwnD K H0 Z H p l) (st : Step Z (delL H qs) Z' H') (hn : p ∉ qs) : OwnD K H0 Z' H' p l := by
  obtain ⟨⟨xs, h, pr⟩, nz, n0⟩ := o
  have e : delL H qs p = some (.dK xs) := by rw [delL_out hn]; exact h
  exact ⟨⟨xs, st.hh _ _ e, Paired.pImp (fun _ _ r => r.mono st.zz) pr⟩, (st.fr _ _ e).trans nz, n0⟩
end Cd

set_option Elab.async false
set_option linter.all false
set_option maxRecDepth 100000
set_option maxHeartbeats 4000000
namespace Cd
open PySem L2 PyProof.Rows
/-! ### what a def comes to: an answer, a refusal, or what is not promised -/
inductive R (α : Type) where
  | ok (a : α) | ex (e : Er) | bad
def R.bind {α β : Type} (m : R α) (k : α → R β) : R β := match m with
  | .ok a => k a
  | .ex e => .ex e
  | .bad => .bad
/-- a refusal that is not looked for -/
def R.nx {α : Type} (m : R α) : R α := match m with
  | .ok a => .ok a
  | _ => .bad
noncomputable def chk {α : Type} (p : Prop) (k : R α) : R α := @ite _ p (Classical.propDecidable p) k .bad
def vl {α β : Type} (a : α) (k : α → R β) : R β := k a
@[simp] theorem R.bind_ok {α β : Type} (a : α) (k : α → R β) : (R.ok a).bind k = k a := rfl
@[simp] theorem R.bind_ex {α β : Type} (e : Er) (k : α → R β) : (R.ex e).bind k = .ex e := rfl
@[simp] theorem R.nx_ok {α : Type} (a : α) : (R.ok a).nx = .ok a := rfl
theorem chk_t {α : Type} {p : Prop} {k : R α} (h : p) : chk p k = k := if_pos h
theorem chk_eq {α : Type} {p : Prop} {k x : R α} (h : p) (e : k = x) : chk p k = x := (chk_t h).trans e
theorem bind_eq {α β : Type} {m : R α} {k : α → R β} {a : α} {x : R β} (h : m = .ok a) (e : k a = x) : m.bind k = x := by rw [h]; exact e
theorem vl_eq {α β : Type} {a : α} {k : α → R β} {x : R β} (e : k a = x) : vl a k = x := e
theorem ite_eqT {α : Type} {p : Prop} [Decidable p] {a b x : α} (h : p) (e : a = x) : (if p then a else b) = x := by rw [if_pos h]; exact e
theorem ite_eqF {α : Type} {p : Prop} [Decidable p] {a b x : α} (h : ¬ p) (e : b = x) : (if p then a else b) = x := by rw [if_neg h]; exact e
theorem nx_eq {α : Type} {m : R α} {a : α} (h : m = .ok a) : m.nx = .ok a := by rw [h]; rfl
/-- what is wanted of it -/
def Good {α : Type} (m : R α) (W : α → Prop) (E : Er → Prop) : Prop := match m with
  | .ok a => W a
  | .ex e => E e
  | .bad => False
def NoE : Er → Prop := fun _ => False
section
variable {α β : Type} {m : R α} {k : α → R β} {W : α → Prop} {V : β → Prop} {E : Er → Prop}
theorem Good.imp {W' : α → Prop} {E' : Er → Prop} (h : Good m W E) (hw : ∀ a, W a → W' a) (he : ∀ e, E e → E' e) : Good m W' E' := by
  cases m with
  | ok a => exact hw a h
  | ex e => exact he e h
  | bad => exact h
theorem Good.chk {p : Prop} (h : Good (chk p m) W E) : p ∧ Good m W E := by
  by_cases q : p
  · rw [chk_t q] at h; exact ⟨q, h⟩
  · unfold Cd.chk at h; rw [if_neg q] at h; exact h.elim
theorem Good.vl {a x : α} (e : x = a) (h : Good (vl a k) V E) : Good (k x) V E := by subst e; exact h
theorem Good.bnd (h : Good (m.bind k) V E) : Good m (fun a => Good (k a) V E) E := by
  cases m with
  | ok a => exact h
  | ex e => exact h
  | bad => exact h
theorem Good.opn (h : Good m W E) : ∃ W' E', Good m W' E' ∧ (∀ a, W' a → W a) ∧ ∀ e, E' e → E e := ⟨W, E, h, fun _ h => h, fun _ h => h⟩
theorem Good.bndW (h : Good (m.bind k) V E) : ∃ W' : α → Prop, Good m W' E ∧ ∀ a, W' a → Good (k a) V E := ⟨_, h.bnd, fun _ h => h⟩
theorem Good.ifT {p : Prop} [Decidable p] {b : R α} (e : p) (h : Good (if p then m else b) W E) : Good m W E := by rw [if_pos e] at h; exact h
theorem Good.ifF {p : Prop} [Decidable p] {b : R α} (e : ¬ p) (h : Good (if p then b else m) W E) : Good m W E := by rw [if_neg e] at h; exact h
theorem Good.nx (h : Good m.nx W E) : Good m W NoE := by
  cases m with
  | ok a => exact h
  | ex e => exact h
  | bad => exact h
theorem Good.ok_of (h : Good m W E) (hx : ∀ e, E e → False) : ∃ a, m = .ok a ∧ W a := by
  cases m with
  | ok a => exact ⟨a, rfl, h⟩
  | ex e => exact (hx e h).elim
  | bad => exact h.elim
end
/-! loops -/
def forR {α S : Type} (f : S → α → R S) : S → List α → R S
  | s, [] => .ok s
  | s, x :: r => (f s x).bind fun s' => forR f s' r
def LR.nextR {S T : Type} (o : LR S T) (k : S → R (LR S T)) : R (LR S T) := match o with
  | .nxt s => k s
  | o => .ok o
def forL {α S T : Type} (f : S → α → R (LR S T)) : S → List α → R (LR S T)
  | s, [] => .ok (.nxt s)
  | s, x :: r => (f s x).bind fun o => LR.nextR o fun s' => forL f s' r
def LR.go {S T U : Type} (o : LR S T) (k : S → R U) (k2 : T → R U) : R U := match o with
  | .nxt s => k s
  | .brk s => k s
  | .ret v => k2 v
def whR {S : Type} (c : S → R Bool) (f : S → R S) : Nat → S → R S
  | 0, _ => .bad
  | n + 1, s => (c s).bind fun b => if b = true then (f s).bind fun s' => whR c f n s' else .ok s
def whL {S T : Type} (c : S → R Bool) (f : S → R (LR S T)) : Nat → S → R (LR S T)
  | 0, _ => .bad
  | n + 1, s => (c s).bind fun b => if b = true then (f s).bind fun o => LR.nextR o fun s' => whL c f n s' else .ok (.nxt s)
section
variable {α S T : Type} {W : S → Prop} {E : Er → Prop} {V : LR S T → Prop}
theorem Good.forR {f : S → α → R S} {s : S} {x : α} {r : List α} (h : Good (forR f s (x :: r)) W E) : ∃ W' : S → Prop, Good (f s x) W' E ∧ ∀ s', W' s' → Good (Cd.forR f s' r) W E := Good.bndW h
theorem Good.forL {f : S → α → R (LR S T)} {s : S} {x : α} {r : List α} (h : Good (forL f s (x :: r)) V E) : ∃ W' : LR S T → Prop, Good (f s x) W' E ∧ (∀ s', W' (.nxt s') → Good (Cd.forL f s' r) V E) ∧ (∀ s', W' (.brk s') → V (.brk s')) ∧ ∀ v, W' (.ret v) → V (.ret v) :=
  ⟨_, Good.bnd h, fun _ h => h, fun _ h => h, fun _ h => h⟩
theorem Good.whR {c : S → R Bool} {f : S → R S} {n : Nat} {s : S} (h : Good (whR c f (n + 1) s) W E) : ∃ W' : Bool → Prop, Good (c s) W' E ∧ (W' true → ∃ W2 : S → Prop, Good (f s) W2 E ∧ ∀ s', W2 s' → Good (Cd.whR c f n s') W E) ∧ (W' false → W s) :=
  ⟨_, Good.bnd h, fun h => ⟨_, Good.bnd (Good.ifT rfl h), fun _ h => h⟩, fun h => Good.ifF (by decide) h⟩
theorem Good.whL {c : S → R Bool} {f : S → R (LR S T)} {n : Nat} {s : S} (h : Good (whL c f (n + 1) s) V E) : ∃ W' : Bool → Prop, Good (c s) W' E ∧ (W' true → ∃ W2 : LR S T → Prop, Good (f s) W2 E ∧ (∀ s', W2 (.nxt s') → Good (Cd.whL c f n s') V E) ∧ (∀ s', W2 (.brk s') → V (.brk s')) ∧ ∀ v, W2 (.ret v) → V (.ret v)) ∧ (W' false → V (.nxt s)) :=
  ⟨_, Good.bnd h, fun h => ⟨_, Good.bnd (Good.ifT rfl h), fun _ h => h, fun _ h => h, fun _ h => h⟩, fun h => Good.ifF (by decide) h⟩
end
/-! loops, reckoned -/
section
variable {α β S T : Type}
@[simp] theorem forR_nil (f : S → α → R S) (s : S) : forR f s [] = .ok s := rfl
theorem forR_cons (f : S → α → R S) (s : S) (x : α) (r : List α) : forR f s (x :: r) = (f s x).bind fun s' => forR f s' r := rfl
@[simp] theorem forL_nil (f : S → α → R (LR S T)) (s : S) : forL f s [] = .ok (.nxt s) := rfl
theorem forL_cons (f : S → α → R (LR S T)) (s : S) (x : α) (r : List α) : forL f s (x :: r) = (f s x).bind fun o => LR.nextR o fun s' => forL f s' r := rfl
@[simp] theorem go_nxt {U : Type} (s : S) (k : S → R U) (k2 : T → R U) : LR.go (.nxt s) k k2 = k s := rfl
@[simp] theorem go_brk {U : Type} (s : S) (k : S → R U) (k2 : T → R U) : LR.go (.brk s) k k2 = k s := rfl
@[simp] theorem go_ret {U : Type} (v : T) (k : S → R U) (k2 : T → R U) : LR.go (.ret v) k k2 = k2 v := rfl
/-- a search: all turns go on, or the first that does not ends it -/
theorem forL_all {f : S → α → R (LR S T)} {s : S} {l : List α} (h : ∀ x ∈ l, f s x = .ok (.nxt s)) : forL f s l = .ok (.nxt s) := by
  induction l with
  | nil => rfl
  | cons x r ih => rw [forL_cons, h x List.mem_cons_self]; exact ih fun y hy => h y (List.mem_cons_of_mem _ hy)
end
/-! comprehensions whose items are reckoned by calls -/
def lcR {γ β : Type} (F : γ → R (Option β)) : List γ → R (List β)
  | [] => .ok []
  | x :: r => (F x).bind fun o => (lcR F r).bind fun bs => .ok (o.toList ++ bs)
end Cd

set_option Elab.async false
set_option linter.all false
set_option maxRecDepth 100000
set_option maxHeartbeats 4000000
namespace Cd
open PySem L2 PyProof.Rows
/-! ### all that a def holds: told things and things of its own, apart from one another -/
structure Rt where
  {α : Type}
  S : Sh α
  v : V
  a : α
structure Sep (K : Fr) (Z0 H0 Z H : Hp) (G : List Rt) : Prop where
  st : Step Z0 H0 Z H
  ow : ∃ f : Nat → List Addr, (∀ i r, G[i]? = some r → OwnO r.S K H0 Z H r.v (f i) r.a) ∧ ∀ i j r s, i ≠ j → G[i]? = some r → G[j]? = some s → ∀ q ∈ f i, q ∉ f j
/-- kinds of objects that may be changed -/
def MutO : HO → Prop
  | .lst _ => True
  | .dK _ => True
  | .ins _ _ _ => True
  | .own _ => True
  | _ => False
class MutS {α : Type} (S : Sh α) : Prop where
  mt : ∀ {K : Fr} {Z H : Hp} {v : V} {ps : List Addr} {a : α}, S.R K Z H v ps a → ∀ q ∈ ps, ∃ u, H q = some u ∧ MutO u
/-- data that hold nothing that may be changed -/
class Imm (α : Type) [Py α] : Prop where
  imm : ∀ {K : Fr} {Z Z' : Hp} {v : V} {a : α}, (∀ b u, Z b = some u → ¬ MutO u → Z' b = some u) → Py.R K Z v a → Py.R K Z' v a
class ImmS {α : Type} (S : Sh α) : Prop where
  imm : ∀ {K : Fr} {Z Z' H : Hp} {v : V} {ps : List Addr} {a : α}, (∀ b u, Z b = some u → ¬ MutO u → Z' b = some u) → S.R K Z H v ps a → S.R K Z' H v ps a
section
variable {K : Fr} {Z0 H0 Z H Z' H' Z2 H2 Zb : Hp} {G G' : List Rt}
theorem Sep.zh (h : Sep K Z0 H0 Z H G) : Same Z H := h.st.zh
theorem Sep.start (zh : Same Z H) : Sep K Z H Z H [] := ⟨Step.refl zh, fun _ => [], fun i r e => by simp at e, fun i j r s _ e => by simp at e⟩
theorem Sep.base (st : Step Z0 H0 Z H) : Sep K Z0 H0 Z H [] := ⟨st, fun _ => [], fun i r e => by simp at e, fun i j r s _ e => by simp at e⟩
theorem Sep.step (h : Sep K Z0 H0 Z H G) (st : Step Z H Z' H') : Sep K Z0 H0 Z' H' G := by
  obtain ⟨c, f, h1, h2⟩ := h
  exact ⟨c.trans st, f, fun i r e => (h1 i r e).step st, h2⟩
theorem Sep.nth (h : Sep K Z0 H0 Z H G) (i : Nat) {r : Rt} (e : G[i]? = some r) : ∃ ps, OwnO r.S K H0 Z H r.v ps r.a := by
  obtain ⟨c, f, h1, h2⟩ := h
  exact ⟨f i, h1 i r e⟩
theorem Sep.fact {α : Type} [Py α] {v : V} {a : α} (h : Sep K Z0 H0 Z H G) (i : Nat) (e : G[i]? = some ⟨Sh.told, v, a⟩) : Py.R K Z v a := by
  obtain ⟨ps, o⟩ := h.nth i e
  exact o.r.2
theorem Sep.pushO {α : Type} {S : Sh α} {v : V} {ps : List Addr} {a : α} (h : Sep K Z0 H0 Z H G) (o : OwnO S K H0 Z H v ps a) (hd : ∀ f : Nat → List Addr, (∀ i r, G[i]? = some r → OwnO r.S K H0 Z H r.v (f i) r.a) → ∀ i r, G[i]? = some r → ∀ q ∈ f i, q ∉ ps) : Sep K Z0 H0 Z H (⟨S, v, a⟩ :: G) := by
  obtain ⟨c, f, h1, h2⟩ := h
  refine ⟨c, fun i => match i with | 0 => ps | i + 1 => f i, fun i r e => ?_, fun i j r s ne e1 e2 => ?_⟩
  · cases i with
    | zero => simp only [List.getElem?_cons_zero, Option.some.injEq] at e; subst e; exact o
    | succ i => simp only [List.getElem?_cons_succ] at e; exact h1 i r e
  · cases i with
    | zero =>
      cases j with
      | zero => exact (ne rfl).elim
      | succ j => intro q hq hq2; simp only [List.getElem?_cons_succ] at e2; exact hd f h1 j s e2 q hq2 hq
    | succ i =>
      cases j with
      | zero => intro q hq hq2; simp only [List.getElem?_cons_succ] at e1; exact hd f h1 i r e1 q hq hq2
      | succ j => simp only [List.getElem?_cons_succ] at e1 e2; exact h2 i j r s (fun x => ne (by rw [x])) e1 e2
theorem Sep.tel {α : Type} [Py α] {v : V} {a : α} (h : Sep K Z0 H0 Z H G) (r : Py.R K Z v a) : Sep K Z0 H0 Z H (⟨Sh.told, v, a⟩ :: G) :=
  h.pushO (OwnO.ofR r) fun _ _ _ _ _ _ _ => fun h => nomatch h
/-- a new thing of one's own -/
theorem Sep.own {α : Type} {S : Sh α} {v : V} {ps : List Addr} {a : α} (h : Sep K Z0 H0 Z H G) (st : Step Z H Z' H') (o : OwnO S K H Z' H' v ps a) : Sep K Z0 H0 Z' H' (⟨S, v, a⟩ :: G) := by
  have h' := h.step st
  obtain ⟨c, f0, h1, h2⟩ := h
  refine ⟨c.trans st, fun i => match i with | 0 => ps | i + 1 => f0 i, fun i r e => ?_, fun i j r s ne e1 e2 => ?_⟩
  · cases i with
    | zero => simp only [List.getElem?_cons_zero, Option.some.injEq] at e; subst e; exact ⟨o.r, o.nd, o.nz, fun q hq => c.hh.free (o.n0 q hq)⟩
    | succ i => simp only [List.getElem?_cons_succ] at e; exact (h1 i r e).step st
  · have key : ∀ i r, G[i]? = some r → ∀ q ∈ f0 i, q ∉ ps := fun i r e q hq hp => by
      obtain ⟨u, hu⟩ := (h1 i r e).stands q hq
      rw [o.n0 q hp] at hu; cases hu
    cases i with
    | zero =>
      cases j with
      | zero => exact (ne rfl).elim
      | succ j => intro q hq hq2; simp only [List.getElem?_cons_succ] at e2; exact key j s e2 q hq2 hq
    | succ i =>
      cases j with
      | zero => intro q hq hq2; simp only [List.getElem?_cons_succ] at e1; exact key i r e1 q hq hq2
      | succ j => simp only [List.getElem?_cons_succ] at e1 e2; exact h2 i j r s (fun x => ne (by rw [x])) e1 e2
theorem Sep.drop {r : Rt} (h : Sep K Z0 H0 Z H (r :: G)) : Sep K Z0 H0 Z H G := by
  obtain ⟨c, f, h1, h2⟩ := h
  exact ⟨c, fun i => f (i + 1), fun i r e => h1 (i + 1) r (by simpa using e), fun i j r s ne e1 e2 => h2 (i + 1) (j + 1) r s (by omega) (by simpa using e1) (by simpa using e2)⟩
theorem Sep.drop1 {r r1 : Rt} (h : Sep K Z0 H0 Z H (r :: r1 :: G)) : Sep K Z0 H0 Z H (r :: G) := by
  obtain ⟨c, f, h1, h2⟩ := h
  refine ⟨c, fun i => match i with | 0 => f 0 | i + 1 => f (i + 2), fun i s e => ?_, fun i j s t ne e1 e2 => ?_⟩
  · cases i with
    | zero => exact h1 0 s (by simpa using e)
    | succ i => exact h1 (i + 2) s (by simpa using e)
  · cases i with
    | zero =>
      cases j with
      | zero => exact (ne rfl).elim
      | succ j => exact h2 0 (j + 2) s t (by omega) (by simpa using e1) (by simpa using e2)
    | succ i =>
      cases j with
      | zero => exact h2 (i + 2) 0 s t (by omega) (by simpa using e1) (by simpa using e2)
      | succ j => exact h2 (i + 2) (j + 2) s t (by omega) (by simpa using e1) (by simpa using e2)
/-- some of them, in any order -/
theorem Sep.pick (h : Sep K Z0 H0 Z H G) (is : List Nat) (hn : is.Nodup) (e : is.map (fun i => G[i]?) = G'.map some) : Sep K Z0 H0 Z H G' := by
  obtain ⟨c, f, h1, h2⟩ := h
  have at_ : ∀ (k : Nat) (r : Rt), G'[k]? = some r → ∃ i, is[k]? = some i ∧ G[i]? = some r := fun k r hk => by
    have e1 : (G'.map (some : Rt → Option Rt))[k]? = some (some r) := by rw [List.getElem?_map, hk]; rfl
    rw [← e, List.getElem?_map] at e1
    obtain ⟨i, e2, e3⟩ := Option.map_eq_some_iff.mp e1
    exact ⟨i, e2, e3⟩
  refine ⟨c, fun k => f (is.getD k 0), fun k r hk => ?_, fun k l r s ne hk hl => ?_⟩
  · obtain ⟨i, e1, e2⟩ := at_ k r hk
    dsimp only
    rw [List.getD_eq_getElem?_getD, e1]
    exact h1 i r e2
  · obtain ⟨i, e1, e2⟩ := at_ k r hk
    obtain ⟨j, e3, e4⟩ := at_ l s hl
    dsimp only
    rw [List.getD_eq_getElem?_getD, List.getD_eq_getElem?_getD, e1, e3]
    refine h2 i j r s (fun x => ne ?_) e2 e4
    subst x
    obtain ⟨hk1, hk2⟩ := List.getElem?_eq_some_iff.mp e1
    obtain ⟨hl1, hl2⟩ := List.getElem?_eq_some_iff.mp e3
    exact (List.getElem_inj hn).mp (hk2.trans hl2.symm)
/-- the i-th is changed -/
theorem Sep.chg (h : Sep K Z0 H0 Z H G) (i : Nat) {r : Rt} (e : G[i]? = some r) : ∃ ps, OwnO r.S K H0 Z H r.v ps r.a ∧
    ∀ {Z' H' : Hp} {β : Type} {S' : Sh β} {v' : V} {ps' : List Addr} {b : β}, Step Z0 H0 Z' H' → Same Z Z' → (∀ q u, q ∉ ps → H q = some u → H' q = some u ∧ Z' q = Z q) → OwnO S' K H0 Z' H' v' ps' b → (∀ q ∈ ps', q ∈ ps ∨ H q = none) → Sep K Z0 H0 Z' H' (G.set i ⟨S', v', b⟩) := by
  obtain ⟨c, f, h1, h2⟩ := h
  refine ⟨f i, h1 i r e, fun {Z' H' β S' v' ps' b} st s hk o hf => ⟨st, fun j => if j = i then ps' else f j, fun j t ej => ?_, fun j k t u ne ej ek => ?_⟩⟩
  · rw [List.getElem?_set] at ej
    by_cases q : i = j
    · subst q
      rw [if_pos rfl] at ej
      split at ej
      · cases ej; dsimp only; rw [if_pos rfl]; exact o
      · cases ej
    · rw [if_neg q] at ej
      dsimp only
      rw [if_neg (fun x : j = i => q x.symm)]
      have oj := h1 j t ej
      have hq : ∀ x ∈ f j, x ∉ f i := h2 j i t r (fun x => q x.symm) ej e
      exact oj.keep s (fun x hx => by obtain ⟨u, hu⟩ := oj.stands x hx; rw [hu]; exact (hk x u (hq x hx) hu).1) (fun x hx => by obtain ⟨u, hu⟩ := oj.stands x hx; exact (hk x u (hq x hx) hu).2)
  · have old : ∀ j t, j ≠ i → (G.set i ⟨S', v', b⟩)[j]? = some t → G[j]? = some t := fun j t q ej => by
      rw [List.getElem?_set, if_neg (fun x => q x.symm)] at ej; exact ej
    have key : ∀ j t, j ≠ i → (G.set i ⟨S', v', b⟩)[j]? = some t → ∀ q ∈ f j, q ∉ ps' := fun j t qj ej q hq hp => by
      have ej' := old j t qj ej
      rcases hf q hp with h | h
      · exact h2 j i t r qj ej' e q hq h
      · obtain ⟨u, hu⟩ := (h1 j t ej').stands q hq
        rw [h] at hu; cases hu
    dsimp only
    by_cases qj : j = i
    · subst qj
      rw [if_pos rfl, if_neg (fun x : k = j => ne x.symm)]
      intro q hq hq2
      exact key k u (fun x => ne x.symm) ek q hq2 hq
    · rw [if_neg qj]
      by_cases qk : k = i
      · subst qk
        rw [if_pos rfl]
        exact key j t qj ej
      · rw [if_neg qk]
        exact h2 j k t u ne (old j t qj ej) (old k u qk ek)
/-- .. at one of its places -/
theorem Sep.mutO {α β : Type} {S : Sh α} {S' : Sh β} {v : V} {a : α} {b : β} {q : Addr} {w : HO} (h : Sep K Z0 H0 Z H G) (i : Nat) (e : G[i]? = some ⟨S, v, a⟩) (k : ∀ ps, OwnO S K H0 Z H v ps a → q ∈ ps ∧ OwnO S' K H0 Z (upd H q w) v ps b) : Sep K Z0 H0 Z (upd H q w) (G.set i ⟨S', v, b⟩) := by
  have c := h.st
  obtain ⟨ps, o, g⟩ := h.chg i e
  obtain ⟨hq, o'⟩ := k ps o
  refine g (c.mut (o.nz q hq) (o.n0 q hq)) (Same.refl _) (fun x u hx hu => ⟨by rw [upd_ne (fun x2 => hx (by rw [x2]; exact hq))]; exact hu, rfl⟩) o' fun x hx => .inl hx
theorem Sep.L {α : Type} [Py α] {p : Addr} {l : List α} (h : Sep K Z0 H0 Z H G) (i : Nat) (e : G[i]? = some ⟨Sh.lt α, .ref p, l⟩) : Own K H0 Z H p l := by
  obtain ⟨ps, o⟩ := h.nth i e
  obtain ⟨p', e1, _, o'⟩ := o.own
  cases e1; exact o'
theorem Sep.D {κ α : Type} [Sc κ] [DecidableEq κ] [Kt κ] [Py α] {p : Addr} {d : Dct κ α} (h : Sep K Z0 H0 Z H G) (i : Nat) (e : G[i]? = some ⟨Sh.dc κ α, .ref p, d⟩) : OwnD K H0 Z H p d := by
  obtain ⟨ps, o⟩ := h.nth i e
  obtain ⟨p', e1, _, o'⟩ := o.ownD
  cases e1; exact o'
theorem Sep.mutL {α : Type} [Py α] {p : Addr} {l l' : List α} {w : HO} (h : Sep K Z0 H0 Z H G) (i : Nat) (e : G[i]? = some ⟨Sh.lt α, .ref p, l⟩) (o' : Own K H0 Z (upd H p w) p l') : Sep K Z0 H0 Z (upd H p w) (G.set i ⟨Sh.lt α, .ref p, l'⟩) :=
  h.mutO i e fun ps o => by
    obtain ⟨p', e1, e2, _⟩ := o.own
    cases e1
    rw [e2]
    exact ⟨by simp, o'.shp⟩
theorem Sep.mutD {κ α : Type} [Sc κ] [DecidableEq κ] [Kt κ] [Py α] {p : Addr} {d d' : Dct κ α} {w : HO} (h : Sep K Z0 H0 Z H G) (i : Nat) (e : G[i]? = some ⟨Sh.dc κ α, .ref p, d⟩) (o' : OwnD K H0 Z (upd H p w) p d') : Sep K Z0 H0 Z (upd H p w) (G.set i ⟨Sh.dc κ α, .ref p, d'⟩) :=
  h.mutO i e fun ps o => by
    obtain ⟨p', e1, e2, _⟩ := o.ownD
    cases e1
    rw [e2]
    exact ⟨by simp, o'.shp⟩
/-- told from now on -/
theorem Sep.tell {α : Type} [Py α] {S : Sh α} [Dat S] {v : V} {a : α} (h : Sep K Z0 H0 Z H G) (i : Nat) (e : G[i]? = some ⟨S, v, a⟩) : ∃ Z', Same Z Z' ∧ Sep K Z0 H0 Z' H (G.set i ⟨Sh.told, v, a⟩) := by
  have c := h.st
  obtain ⟨ps, o, g⟩ := h.chg i e
  obtain ⟨Z', c', s, r, hz⟩ := o.tell c
  exact ⟨Z', s, g c' s (fun q u hq hu => ⟨hu, hz q hq⟩) (OwnO.ofR r) fun _ h => nomatch h⟩
/-- seen as data, for the while -/
theorem Sep.see {α : Type} [Py α] {S : Sh α} [Dat S] {v : V} {a : α} (h : Sep K Z0 H0 Z H G) (i : Nat) (e : G[i]? = some ⟨S, v, a⟩) : ∃ Zs, Same Zs H ∧ Py.R K Zs v a := by
  obtain ⟨ps, o⟩ := h.nth i e
  exact ⟨_, o.seez h.zh, o.see⟩
/-! ### names of places -/
class IsRef {α : Type} (S : Sh α) : Prop where
  rf : ∀ {K : Fr} {Z H : Hp} {v : V} {ps : List Addr} {a : α}, S.R K Z H v ps a → ∃ p, v = .ref p
theorem Sep.ref {α : Type} {S : Sh α} [IsRef S] {v : V} {a : α} (h : Sep K Z0 H0 Z H G) (i : Nat) (e : G[i]? = some ⟨S, v, a⟩) : ∃ p, v = .ref p := by
  obtain ⟨ps, o⟩ := h.nth i e
  exact IsRef.rf o.r
end
instance {α : Type} [Py α] : IsRef (Sh.lt α) := ⟨fun ⟨p, _, e, _⟩ => ⟨p, e⟩⟩
instance {κ α : Type} [Sc κ] [DecidableEq κ] [Kt κ] [Py α] : IsRef (Sh.dc κ α) := ⟨fun ⟨p, _, e, _⟩ => ⟨p, e⟩⟩
instance {β : Type} {T : ShL β} : IsRef (Sh.lst T) := ⟨fun ⟨p, _, _, e, _⟩ => ⟨p, e⟩⟩
instance {β : Type} {T : ShL β} : IsRef (Sh.tup T) := ⟨fun ⟨p, _, _, e, _⟩ => ⟨p, e⟩⟩
instance {β : Type} {C : Addr} {ns : List Str} {T : ShL β} : IsRef (Sh.ins C ns T) := ⟨fun ⟨p, _, _, _, e, _⟩ => ⟨p, e⟩⟩
instance {α β : Type} {S : Sh β} {f : α → β} [IsRef S] : IsRef (S.via f) := ⟨fun h => IsRef.rf (S := S) h⟩
instance {α β : Type} {S : Sh α} {T : Sh β} : IsRef (Sh.pr S T) := inferInstanceAs (IsRef (Sh.via _ _))
instance {α : Type} {S : Sh α} : IsRef (Sh.tl S) := inferInstanceAs (IsRef (Sh.via _ _))
/-! ### kinds -/
instance {α : Type} [Py α] : MutS (Sh.told (α := α)) := ⟨fun ⟨e, _⟩ q hq => by rw [e] at hq; cases hq⟩
instance {α : Type} [Py α] : MutS (Sh.lt α) := ⟨fun ⟨p, xs, _, e2, h, _⟩ q hq => by rw [e2, List.mem_singleton] at hq; rw [hq]; exact ⟨_, h, trivial⟩⟩
instance {κ α : Type} [Sc κ] [DecidableEq κ] [Kt κ] [Py α] : MutS (Sh.dc κ α) := ⟨fun ⟨p, xs, _, e2, h, _⟩ q hq => by rw [e2, List.mem_singleton] at hq; rw [hq]; exact ⟨_, h, trivial⟩⟩
theorem allR_mut {α : Type} {S : Sh α} [MutS S] {K : Fr} {Z H : Hp} : ∀ {l : List α} {vs : List V} {ps : List Addr}, allR S K Z H vs ps l → ∀ q ∈ ps, ∃ u, H q = some u ∧ MutO u
  | [], _, _, ⟨_, e⟩, q, hq => by rw [e] at hq; cases hq
  | a :: r, _, _, ⟨v, ws, qs, rs, e1, e2, h1, h2⟩, q, hq => by
    rw [e2] at hq
    exact (List.mem_append.mp hq).elim (MutS.mt h1 q) (allR_mut h2 q)
instance {α : Type} {S : Sh α} [MutS S] : MutS (Sh.lst (ShL.all S)) := ⟨fun ⟨p, xs, qs, _, e2, h, r⟩ q hq => by
  rw [e2] at hq
  rcases List.mem_cons.mp hq with rfl | hq
  · exact ⟨_, h, trivial⟩
  · exact allR_mut r q hq⟩
instance (priority := low) {α : Type} [Py α] [NoZ α] : Imm α := ⟨fun _ h => NoZ.back h⟩
theorem imm_t {Z Z' : Hp} (s : ∀ b u, Z b = some u → ¬ MutO u → Z' b = some u) {b : Addr} {xs : List V} (h : Z b = some (.tup xs)) : Z' b = some (.tup xs) := s _ _ h fun h => h
instance {α β : Type} [Py α] [Py β] [Imm α] [Imm β] : Imm (α × β) := ⟨fun s h => let ⟨a, x, y, e, hz, p, q⟩ := h; ⟨a, x, y, e, imm_t s hz, Imm.imm s p, Imm.imm s q⟩⟩
instance {α β γ : Type} [Py α] [Py β] [Py γ] [Imm α] [Imm β] [Imm γ] : Imm (T3 α β γ) := ⟨fun s h => let ⟨a, x, y, z, e, hz, p, q, r⟩ := h; ⟨a, x, y, z, e, imm_t s hz, Imm.imm s p, Imm.imm s q, Imm.imm s r⟩⟩
instance {α β γ δ : Type} [Py α] [Py β] [Py γ] [Py δ] [Imm α] [Imm β] [Imm γ] [Imm δ] : Imm (T4 α β γ δ) := ⟨fun s h => let ⟨a, x, y, z, w, e, hz, p, q, r, t⟩ := h; ⟨a, x, y, z, w, e, imm_t s hz, Imm.imm s p, Imm.imm s q, Imm.imm s r, Imm.imm s t⟩⟩
instance {α : Type} [Py α] [Imm α] : Imm (Option α) := ⟨fun {K Z Z' v a} s h => by
  cases a with
  | none => exact h
  | some a => exact Imm.imm (α := α) s h⟩
instance {α : Type} [Py α] [Imm α] : Imm (TL α) := ⟨fun s h => let ⟨a, xs, e, hz, p⟩ := h; ⟨a, xs, e, imm_t s hz, Paired.pImp (fun _ _ r => Imm.imm s r) p⟩⟩
instance {α β γ : Type} [Py α] [Py β] [Py γ] [Imm α] [Imm β] [Imm γ] : Imm (TO α β γ) := ⟨fun {K Z Z' v p} s r => by
  obtain ⟨x1, x2, x3⟩ := p
  obtain ⟨a, x, y, e, h1, h2, h3⟩ := r
  refine ⟨a, x, y, e, Imm.imm s h1, Imm.imm s h2, ?_⟩
  cases x3 with
  | none => exact imm_t s h3
  | some c =>
    obtain ⟨z, hz, h4⟩ := h3
    exact ⟨z, imm_t s hz, Imm.imm s h4⟩⟩
instance {α : Type} [Py α] [Imm α] : ImmS (Sh.told (α := α)) := ⟨fun s h => ⟨h.1, Imm.imm s h.2⟩⟩
instance {α : Type} [Py α] [Imm α] : ImmS (Sh.lt α) := ⟨fun s ⟨p, xs, e1, e2, h1, h2⟩ => ⟨p, xs, e1, e2, h1, Paired.pImp (fun _ _ r => Imm.imm s r) h2⟩⟩
instance {κ α : Type} [Sc κ] [DecidableEq κ] [Kt κ] [Py α] [Imm α] : ImmS (Sh.dc κ α) := ⟨fun s ⟨p, xs, e1, e2, h1, h2⟩ => ⟨p, xs, e1, e2, h1, Paired.pImp (fun _ _ r => ⟨r.1, Imm.imm s r.2⟩) h2⟩⟩
theorem allR_imm {α : Type} {S : Sh α} [ImmS S] {K : Fr} {Z Z' H : Hp} (s : ∀ b u, Z b = some u → ¬ MutO u → Z' b = some u) : ∀ {l : List α} {vs : List V} {ps : List Addr}, allR S K Z H vs ps l → allR S K Z' H vs ps l
  | [], _, _, h => h
  | a :: r, _, _, ⟨v, ws, qs, rs, e1, e2, h1, h2⟩ => ⟨v, ws, qs, rs, e1, e2, ImmS.imm s h1, allR_imm s h2⟩
instance {α : Type} {S : Sh α} [ImmS S] : ImmS (Sh.lst (ShL.all S)) := ⟨fun s ⟨p, xs, qs, e1, e2, h1, h2⟩ => ⟨p, xs, qs, e1, e2, h1, allR_imm s h2⟩⟩
instance {α : Type} {S : Sh α} [ImmS S] : ImmS (Sh.tl S) := ⟨fun s ⟨p, xs, qs, e1, e2, h1, h2⟩ => ⟨p, xs, qs, e1, e2, h1, allR_imm s h2⟩⟩
instance {α β : Type} {S : Sh α} {T : Sh β} [ImmS S] [ImmS T] : ImmS (Sh.pr S T) := ⟨fun s ⟨p, xs, qs, e1, e0, h1, v, ws, q1, r1, e2, f2, g1, v2, ws2, q2, r2, e3, f3, g2, e4, f4⟩ => ⟨p, xs, qs, e1, e0, h1, v, ws, q1, r1, e2, f2, ImmS.imm (S := S) s g1, v2, ws2, q2, r2, e3, f3, ImmS.imm (S := T) s g2, e4, f4⟩⟩
instance {α : Type} {S : Sh α} [ImmS S] : ImmS (Sh.opt S) := ⟨fun {K Z Z' H v ps a} s r => by
  cases a with
  | none => exact r
  | some a => exact ImmS.imm (S := S) s r⟩
/-! ### lent for reading -/
structure Bor (K : Fr) (Z H Zb : Hp) (ps : List Addr) : Prop where
  zz : Same Z Zb
  mu : ∀ q ∈ ps, ∃ u, H q = some u ∧ MutO u
  nz : ∀ q ∈ ps, Z q = none
  zb : ∀ q, q ∉ ps → Zb q = Z q
section
variable {K : Fr} {Z0 H0 Z H Z' H' Z2 H2 Zb : Hp} {G G' : List Rt} {ps : List Addr}
theorem Bor.nil : Bor K Z H Z [] := ⟨Same.refl _, (fun _ h => nomatch h), (fun _ h => nomatch h), fun _ _ => rfl⟩
theorem Sep.bor {α : Type} [Py α] {S : Sh α} [Dat S] [MutS S] {v : V} {a : α} (h : Sep K Z0 H0 Zb H G) (b : Bor K Z H Zb ps) (i : Nat) (e : G[i]? = some ⟨S, v, a⟩) : ∃ Zc qs, Bor K Z H Zc qs ∧ Sep K Z0 H0 Zc H (G.set i ⟨Sh.told, v, a⟩) := by
  have c := h.st
  obtain ⟨qs, o, g⟩ := h.chg i e
  obtain ⟨Zc, c', s, r, hz⟩ := o.tell c
  refine ⟨Zc, qs ++ ps, ⟨b.zz.trans s, fun q hq => ?_, fun q hq => ?_, fun q hq => ?_⟩, g c' s (fun q u hq hu => ⟨hu, hz q hq⟩) (OwnO.ofR r) fun _ h => nomatch h⟩
  · rcases List.mem_append.mp hq with hq | hq
    · exact MutS.mt o.r q hq
    · exact b.mu q hq
  · rcases List.mem_append.mp hq with hq | hq
    · exact b.zz.free (o.nz q hq)
    · exact b.nz q hq
  · rw [List.mem_append, not_or] at hq
    rw [hz q hq.1, b.zb q hq.2]
theorem Bor.back (b : Bor K Z H Zb ps) (zh : Same Z H) (st : Step Zb H Z2 H2) : Step Z H (delL Z2 ps) H2 := by
  refine ⟨st.hh, fun q u e => ?_, fun q u e => ?_, fun q u e => ?_⟩
  · unfold delL
    rw [if_neg (fun hm => by rw [b.nz q hm] at e; cases e)]
    exact st.zz _ _ (b.zz _ _ e)
  · unfold delL at e
    split at e
    · cases e
    · exact st.zh _ _ e
  · unfold delL
    by_cases hm : q ∈ ps
    · rw [if_pos hm, b.nz q hm]
    · rw [if_neg hm, st.fr q u e, b.zb q hm]
theorem Bor.im (b : Bor K Z H Zb ps) (st : Step Zb H Z2 H2) : ∀ q u, Z2 q = some u → ¬ MutO u → delL Z2 ps q = some u := fun q u e hu => by
  unfold delL
  rw [if_neg]
  · exact e
  · intro hm
    obtain ⟨w, h1, h2⟩ := b.mu q hm
    have := st.zh q u e
    rw [st.hh q w h1] at this
    cases this
    exact hu h2
theorem Bor.tel {α : Type} [Py α] [Imm α] {v : V} {a : α} (b : Bor K Z H Zb ps) (st : Step Zb H Z2 H2) (r : Py.R K Z2 v a) : Py.R K (delL Z2 ps) v a := Imm.imm (b.im st) r
/-- what came new, behind the lending -/
theorem Bor.own {α : Type} {S : Sh α} [ImmS S] {v : V} {qs : List Addr} {a : α} (b : Bor K Z H Zb ps) (st : Step Zb H Z' H') (st2 : Step Z' H' Z2 H2) (o : OwnO S K H' Z2 H2 v qs a) : OwnO S K H (delL Z2 ps) H2 v qs a :=
  ⟨ImmS.imm (b.im (st.trans st2)) o.r, o.nd, fun q hq => by unfold delL; split; rfl; exact o.nz q hq, fun q hq => st.hh.free (o.n0 q hq)⟩
/-! ### lent to be changed -/
theorem Sep.lend {α : Type} {S : Sh α} {v : V} {a : α} (h : Sep K Z0 H0 Z H G) (i : Nat) (e : G[i]? = some ⟨S, v, a⟩) : ∃ ps, (S.R K Z H v ps a ∧ ps.Nodup ∧ ∀ q ∈ ps, Z q = none) ∧
    ∀ {Z' H' : Hp} {ps' : List Addr} {β : Type} {S' : Sh β} {b : β}, Step Z (delL H ps) Z' H' → OwnO S' K (delL H ps) Z' H' v ps' b → Sep K Z0 H0 Z' H' (G.set i ⟨S', v, b⟩) := by
  have c := h.st
  obtain ⟨ps, o, g⟩ := h.chg i e
  refine ⟨ps, ⟨o.r, o.nd, o.nz⟩, fun {Z' H' ps' β S' b} st o' => ?_⟩
  have hf : ∀ q ∈ ps', q ∈ ps ∨ H q = none := fun q hq => by
    by_cases m : q ∈ ps
    · exact .inl m
    · exact .inr (by have := o'.n0 q hq; rw [delL_out m] at this; exact this)
  refine g (c.back o.n0 st) st.zz (fun q u hq hu => ?_) ⟨o'.r, o'.nd, o'.nz, fun q hq => (hf q hq).elim (o.n0 q) fun x => c.hh.free x⟩ hf
  have e2 : delL H ps q = some u := by rw [delL_out hq]; exact hu
  exact ⟨st.hh _ _ e2, st.fr _ _ e2⟩
/-- the beginning of a def to which a thing was lent -/
theorem Sep.lent {α : Type} {S : Sh α} {v : V} {a : α} (zh : Same Z H) (r : S.R K Z H v ps a) (nd : ps.Nodup) (nz : ∀ q ∈ ps, Z q = none) : Sep K Z (delL H ps) Z H [⟨S, v, a⟩] :=
  (Sep.base (Step.lent zh)).pushO ⟨r, nd, nz, fun q hq => delL_in hq⟩ fun _ _ i _ e => by simp at e
/-! ### what new things come as -/
theorem New.ownS {α : Type} [Py α] {Q : VK} {m : List α} (k : ∀ p ps Z' H', Step Z H Z' H' → OwnO (Sh.lt α) K H Z' H' (.ref p) ps m → Q (.ref p) H') : New K Z H Q m := fun p xs Z' H' st hp hl hz pr =>
  k p [p] Z' H' st (Own.shp ⟨⟨xs, hl, pr⟩, hz, hp⟩)
theorem NewD.ownS {κ α : Type} [Sc κ] [DecidableEq κ] [Kt κ] [Py α] {Q : VK} {m : Dct κ α} (k : ∀ p ps Z' H', Step Z H Z' H' → OwnO (Sh.dc κ α) K H Z' H' (.ref p) ps m → Q (.ref p) H') : NewD K Z H Q m := fun p xs Z' H' st hp hl hz pr =>
  k p [p] Z' H' st (OwnD.shp ⟨⟨xs, hl, pr⟩, hz, hp⟩)
end
end Cd

set_option Elab.async false
set_option linter.all false
set_option maxRecDepth 100000
set_option maxHeartbeats 4000000
namespace Cd
open PySem L2 PyProof.Rows
/-! ### comprehensions whose items are reckoned -/
section
variable {γ β : Type} {K : Fr} {J : It} {g : TG} {tt : TT} {te : TE} {σ : L2.St} {H Z : Hp} {L : List γ} {Y : γ → V → Hp → Hp → Prop} {vs : List Nat} {Q : VK}
theorem lcMK [Py β] (src : Src J Z L Y) (zh : Same Z H) (F : γ → R (Option β)) (hs : L.length < sizeLine) {W : List β → Prop} (hm : Good (lcR F L) W NoE)
    (el : ∀ a x Z' H' H2 (C : VK) (N : Hp → Prop) (Wo : Option β → Prop), a ∈ L → Step Z H Z' H' → Y a x H' H2 → Good (F a) Wo NoE →
      (∀ b, Wo (some b) → ∀ y Z2 H3, Step Z' H' Z2 H3 → Py.R K Z2 y b → C y H3) → (Wo none → ∀ Z2 H3, Step Z' H' Z2 H3 → N H3) →
      g x (wipe σ vs) H2 fun σ2 H3 => wipe σ2 vs = wipe σ vs ∧ tt σ2 H3 fun b H4 => if b = true then te σ2 H4 C else N H4)
    (k : ∀ bs, W bs → New K Z H Q bs) : lcRest J g tt te vs Q σ H := by
  intro D hD
  let Pv : Nat → Hp → Prop := fun i H' => i ≤ L.length ∧ ∃ Z' acc, Step Z H Z' H' ∧ Own K H Z' H' D acc ∧ acc.length ≤ i ∧ Good (lcR F (L.drop i)) (fun bs => W (acc ++ bs)) NoE
  refine ⟨fun i m H' => m = L.length - i ∧ Pv i H', ⟨L.length, by omega, Nat.zero_le _, Z, [], Step.own zh hD, ⟨⟨[], upd_same, .nil⟩, zh.free hD, hD⟩, Nat.le_refl _, hm⟩, ?_⟩
  rintro i m H' ⟨rfl, hi, Z', acc, st, ow, ha, hg⟩
  have zs : Same Z H' := st.zz.trans st.zh
  by_cases hlt : i < L.length
  · have ea : L[i]? = some L[i] := List.getElem?_eq_getElem hlt
    have ed : L.drop i = L[i] :: L.drop (i + 1) := List.drop_eq_getElem_cons hlt
    rw [ed] at hg
    have hg : Good (F L[i]) (fun o => Good (lcR F (L.drop (i + 1))) (fun bs => W (acc ++ (o.toList ++ bs))) NoE) NoE := (Good.bnd hg).imp (fun o h => Good.bnd h) fun _ h => h
    refine .inr ⟨src.go i _ H' ea zs, Pv (i + 1), fun H2 q => ⟨L.length - (i + 1), by omega, rfl, q⟩, fun x H2 y => ?_⟩
    refine el L[i] x Z' H' H2 _ _ _ (List.getElem_mem hlt) st (src.yld i _ H' x H2 ea zs y) hg (fun b hb y Z2 H3 st2 hr => ?_) (fun hn Z2 H3 st2 => ?_)
    · have ow2 := ow.step st2
      obtain ⟨⟨xs, h1, p1⟩, nz, n0⟩ := ow2
      refine ⟨xs, h1, by rw [p1.pLen]; omega, hlt, Z2, acc ++ [b], (st.trans st2).mut nz n0, ⟨⟨xs ++ [y], upd_same, p1.pApp (.cons hr .nil)⟩, nz, n0⟩, by rw [List.length_append, List.length_singleton]; omega, ?_⟩
      refine hb.imp (fun bs h => ?_) fun _ h => h
      rw [List.append_assoc]; exact h
    · exact ⟨hlt, Z2, acc, st.trans st2, ow.step st2, by omega, hn⟩
  · have e : i = L.length := by omega
    subst e
    rw [List.drop_length] at hg
    have hg : W (acc ++ []) := hg
    rw [List.append_nil] at hg
    refine .inl ⟨src.stop H' zs, ?_⟩
    obtain ⟨⟨xs, h1, p1⟩, nz, n0⟩ := ow
    exact k acc hg D xs Z' H' st hD h1 nz p1
end
/-! ### a walk's own list, as all that is held says -/
end Cd

set_option Elab.async false
set_option linter.all false
set_option maxRecDepth 100000
set_option maxHeartbeats 4000000
namespace Cd
open PySem L2 PyProof.Rows
/-! ### what is never reached -/
section
variable {X : Cx}
theorem pss_never {st : List Stmt} : PSs X st (fun _ _ _ => False) := ⟨fun _ _ _ _ _ _ h => h.elim⟩
end
/-! ### names for what is looked for -/
def okIx (z : Str) (i : Int) : Prop := z.length ≤ sizeLine ∧ inR z.length i
def MulSOk (a : Str) (n : Int) : Prop := -(2 ^ 31) ≤ n ∧ n < 2 ^ 31 ∧ a.length * n.toNat ≤ 16777216
def fuelN : Nat := 1000000
section
variable {K : Fr} {Z H Z0 H0 Z' H' : Hp} {Q : VK} {G G' : List Rt}
theorem valK2 {te : TE} {σ : L2.St} (W : Bool → Prop) (ev : ∀ Q' : VK, (∀ b Z' H', W b → Step Z H Z' H' → Q' (.bl b) H') → te σ H Q') (k : ∀ b Z' H', W b → Step Z H Z' H' → Q (.bl b) H') : te σ H Q := ev Q k
theorem k_catL {α : Type} [Py α] {x y : V} {l m : List α} (zh : Same Z H) (hx : RO K Z H x l) (hy : RO K Z H y m) (hs : l.length + m.length ≤ sizeLine) (k : New K Z H Q (l ++ m)) : rCat x y H Q := by
  obtain ⟨a, xs, rfl, hz, p⟩ := hx
  obtain ⟨b, ys, rfl, hz2, p2⟩ := hy
  exact ⟨a, b, xs, ys, rfl, rfl, hz, hz2, by rw [p.pLen, p2.pLen]; exact hs, New.lay zh (p.pApp p2) k⟩
/-! None -/
theorem Sep.nam {α : Type} {S : Sh α} {v : V} {a x : α} (h : Sep K Z0 H0 Z H G) (i : Nat) (e : G[i]? = some ⟨S, v, a⟩) (en : x = a) : Sep K Z0 H0 Z H (G.set i ⟨S, v, x⟩) := by
  subst en
  obtain ⟨ps, o, g⟩ := h.chg i e
  exact g h.st (Same.refl _) (fun q u _ hu => ⟨hu, rfl⟩) o fun _ h => .inl h
theorem Sep.chg1 {α : Type} {S : Sh α} {v : V} {a : α} (h : Sep K Z0 H0 Z H G) (i : Nat) (e : G[i]? = some ⟨S, v, a⟩) : ∃ ps, OwnO S K H0 Z H v ps a ∧
    ∀ (q : Addr) (w : HO) {β : Type} (S' : Sh β) {b : β}, q ∈ ps → OwnO S' K H0 Z (upd H q w) v ps b → Sep K Z0 H0 Z (upd H q w) (G.set i ⟨S', v, b⟩) := by
  have c := h.st
  obtain ⟨ps, o, g⟩ := h.chg i e
  exact ⟨ps, o, fun q w β S' b hq o' => g (c.mut (o.nz q hq) (o.n0 q hq)) (Same.refl _) (fun x u hx hu => ⟨by rw [upd_ne (fun x2 => hx (by rw [x2]; exact hq))]; exact hu, rfl⟩) o' fun x hx => .inl hx⟩
/-! ### displays of things that are held -/
structure SepF (K : Fr) (Z0 H0 Z H : Hp) (G : List Rt) (f : Nat → List Addr) : Prop where
  st : Step Z0 H0 Z H
  at_ : ∀ i r, G[i]? = some r → OwnO r.S K H0 Z H r.v (f i) r.a
  dj : ∀ i j r s, i ≠ j → G[i]? = some r → G[j]? = some s → ∀ q ∈ f i, q ∉ f j
theorem Sep.opnF (h : Sep K Z0 H0 Z H G) : ∃ f, SepF K Z0 H0 Z H G f := let ⟨c, f, h1, h2⟩ := h; ⟨f, c, h1, h2⟩
structure RowF (K : Fr) (H0 Z H : Hp) (G : List Rt) (f : Nat → List Addr) (is : List Nat) {β : Type} (T : ShL β) (vs : List V) (b : β) : Prop where
  row : OwnL T K H0 Z H vs (is.flatMap f) b
  inb : ∀ i ∈ is, ∃ r, G[i]? = some r
variable {f : Nat → List Addr} {is : List Nat} {vs : List V}
theorem SepF.nil (h : SepF K Z0 H0 Z H G f) : RowF K H0 Z H G f [] ShL.nil [] () := ⟨OwnL.nil, fun _ h => nomatch h⟩
theorem SepF.nilA {α : Type} {S : Sh α} (h : SepF K Z0 H0 Z H G f) : RowF K H0 Z H G f [] (ShL.all S) [] [] := ⟨OwnL.nilA, fun _ h => nomatch h⟩
theorem SepF.dis (h : SepF K Z0 H0 Z H G f) {i : Nat} {r : Rt} (e : G[i]? = some r) (hb : ∀ j ∈ is, ∃ r, G[j]? = some r) (hi : i ∉ is) : ∀ x ∈ f i, ∀ y ∈ is.flatMap f, x ≠ y := fun x hx y hy e2 => by
  obtain ⟨j, hj, hy⟩ := List.mem_flatMap.mp hy
  obtain ⟨s, hs⟩ := hb j hj
  subst e2
  exact h.dj i j r s (fun e3 => hi (by rw [e3]; exact hj)) e hs x hx hy
theorem SepF.cons {α β : Type} {S : Sh α} {T : ShL β} {v : V} {a : α} {b : β} (h : SepF K Z0 H0 Z H G f) (i : Nat) (e : G[i]? = some ⟨S, v, a⟩) (r : RowF K H0 Z H G f is T vs b) (hi : i ∉ is) : RowF K H0 Z H G f (i :: is) (ShL.cons S T) (v :: vs) (a, b) :=
  ⟨by rw [List.flatMap_cons]; exact OwnL.cons (h.at_ i _ e) r.row (h.dis e r.inb hi), fun j hj => (List.mem_cons.mp hj).elim (fun e2 => ⟨_, e2 ▸ e⟩) (r.inb j)⟩
theorem SepF.consA {α : Type} {S : Sh α} {v : V} {a : α} {b : List α} (h : SepF K Z0 H0 Z H G f) (i : Nat) (e : G[i]? = some ⟨S, v, a⟩) (r : RowF K H0 Z H G f is (ShL.all S) vs b) (hi : i ∉ is) : RowF K H0 Z H G f (i :: is) (ShL.all S) (v :: vs) (a :: b) :=
  ⟨by rw [List.flatMap_cons]; exact OwnL.consA (h.at_ i _ e) r.row (h.dis e r.inb hi), fun j hj => (List.mem_cons.mp hj).elim (fun e2 => ⟨_, e2 ▸ e⟩) (r.inb j)⟩
theorem SepF.laid {β : Type} {T : ShL β} {S : Sh β} {b : β} {p : Addr} {o : HO} (h : SepF K Z0 H0 Z H G f) (r : RowF K H0 Z H G f is T vs b) (js : List Nat) (hj : js.Nodup) (hd : ∀ j ∈ js, j ∉ is) (e : js.map (fun j => G[j]?) = G'.map some) (hp : H p = none)
    (w : OwnO S K H0 Z (upd H p o) (.ref p) (p :: is.flatMap f) b) : Sep K Z0 H0 Z (upd H p o) (⟨S, .ref p, b⟩ :: G') := by
  have st : Step Z H Z (upd H p o) := Step.own h.st.zh hp
  have h0 : Sep K Z0 H0 Z H G' := (show Sep K Z0 H0 Z H G from ⟨h.st, f, h.at_, h.dj⟩).pick js hj e
  have at_ : ∀ (k : Nat) (s : Rt), G'[k]? = some s → ∃ j, js[k]? = some j ∧ G[j]? = some s := fun k s hk => by
    have e1 : (G'.map (some : Rt → Option Rt))[k]? = some (some s) := by rw [List.getElem?_map, hk]; rfl
    rw [← e, List.getElem?_map] at e1
    obtain ⟨i, e2, e3⟩ := Option.map_eq_some_iff.mp e1
    exact ⟨i, e2, e3⟩
  refine ⟨h.st.trans st, fun k => match k with | 0 => p :: is.flatMap f | k + 1 => f (js.getD k 0), fun k s ek => ?_, fun k l s t ne ek el => ?_⟩
  · cases k with
    | zero => simp only [List.getElem?_cons_zero, Option.some.injEq] at ek; subst ek; exact w
    | succ k =>
      simp only [List.getElem?_cons_succ] at ek
      obtain ⟨j, e1, e2⟩ := at_ k s ek
      dsimp only
      rw [List.getD_eq_getElem?_getD, e1]
      exact (h.at_ j s e2).step st
  · have key : ∀ k s, G'[k]? = some s → ∀ q ∈ f (js.getD k 0), q ∉ p :: is.flatMap f := fun k s ek q hq hm => by
      obtain ⟨j, e1, e2⟩ := at_ k s ek
      rw [List.getD_eq_getElem?_getD, e1] at hq
      rcases List.mem_cons.mp hm with rfl | hm
      · obtain ⟨u, hu⟩ := (h.at_ j s e2).stands q hq
        rw [hp] at hu; cases hu
      · obtain ⟨i, hi, hq2⟩ := List.mem_flatMap.mp hm
        obtain ⟨r2, hr2⟩ := r.inb i hi
        have hjm : j ∈ js := List.mem_of_getElem? e1
        exact h.dj j i s r2 (fun e3 => hd j hjm (by rw [e3]; exact hi)) e2 hr2 q hq hq2
    cases k with
    | zero =>
      cases l with
      | zero => exact (ne rfl).elim
      | succ l => intro q hq hq2; simp only [List.getElem?_cons_succ] at el; exact key l t el q hq2 hq
    | succ k =>
      cases l with
      | zero => intro q hq hq2; simp only [List.getElem?_cons_succ] at ek; exact key k s ek q hq hq2
      | succ l =>
        simp only [List.getElem?_cons_succ] at ek el
        obtain ⟨j, e1, e2⟩ := at_ k s ek
        obtain ⟨j2, e3, e4⟩ := at_ l t el
        dsimp only
        rw [List.getD_eq_getElem?_getD, List.getD_eq_getElem?_getD, e1, e3]
        refine h.dj j j2 s t (fun x => ne ?_) e2 e4
        subst x
        obtain ⟨hk1, hk2⟩ := List.getElem?_eq_some_iff.mp e1
        obtain ⟨hl1, hl2⟩ := List.getElem?_eq_some_iff.mp e3
        have := (List.getElem_inj hj).mp (hk2.trans hl2.symm)
        omega
theorem SepF.lst {β : Type} {T : ShL β} {b : β} (h : SepF K Z0 H0 Z H G f) (r : RowF K H0 Z H G f is T vs b) (js : List Nat) (hj : js.Nodup) (hd : ∀ j ∈ js, j ∉ is) (e : js.map (fun j => G[j]?) = G'.map some) (hs : vs.length ≤ sizeLine)
    (k : ∀ p H', Step Z H Z H' → Sep K Z0 H0 Z H' (⟨Sh.lst T, .ref p, b⟩ :: G') → Q (.ref p) H') : rLstQ vs H Q :=
  ⟨hs, fun p hp => k p _ (Step.own h.st.zh hp) (h.laid r js hj hd e hp (r.row.wrapL h.st hp))⟩
end
/-! ### tuples of two or three -/
def toLen {α β γ : Type} (p : TO α β γ) : Int := if p.x3.isSome = true then 3 else 2
theorem Pt.to {K : Fr} {Z H : Hp} {α β γ : Type} [Py α] [Py β] [Py γ] {v : V} {p : TO α β γ} (zh : Same Z H) (h : Py.R K Z v p) : Pt K H v "tuple" := by
  obtain ⟨x1, x2, x3⟩ := p
  obtain ⟨a, x, y, rfl, _, _, h3⟩ := h
  cases x3 with
  | none => exact .of (.base (.tup (zh _ _ h3)))
  | some c => obtain ⟨z, hz, _⟩ := h3; exact .of (.base (.tup (zh _ _ hz)))
instance {α β γ : Type} [Py α] [Py β] [Py γ] : PtT (TO α β γ) := ⟨"tuple", fun zh h => Pt.to zh h⟩
theorem k_inT {K : Fr} {Z H : Hp} {Q : VK} {α : Type} [Sc α] [DecidableEq α] [Fl α] {v : V} {a : α} {t : TL α} (zh : Same Z H) (h : Py.R K Z v t) (k : Q (.bl (decide (a ∈ t.l))) H) : rIn K false (Sc.emb a) v H Q := by
  obtain ⟨p, xs, rfl, hz, pr⟩ := h
  obtain rfl := paired_emb pr
  refine ⟨p, _, rfl, .inr (SqT.of (zh _ _ hz)), Fl.flat a, allFlat _, ?_⟩
  rw [Fl.isIn]
  exact k
theorem inV_bl {ns : List Bool} {i : Bool} : inV (.bl i) (ns.map V.bl) = decide (i ∈ ns) := by
  unfold inV
  induction ns with
  | nil => simp
  | cons n r ih =>
    rw [List.map_cons, List.any_cons, ih]
    show ((n == i) || decide (i ∈ r)) = decide (i ∈ n :: r)
    cases n <;> cases i <;> simp
instance : Fl Bool := ⟨fun _ => rfl, fun l a => inV_bl⟩
/-! ### refusals, as the machine tells them -/
def ExR (ca : CA) (K : Fr) (Z H : Hp) : Er → Value → Option Addr → Prop
  | .ShopError, c, d => c = .ref ca.ShopError ∧ d = none
  | .NoCard, c, d => c = .ref ca.NoCard ∧ d = none
  | .NoField, c, d => c = .ref ca.NoField ∧ d = none
  | .NoOrder a b, c, d => c = .ref ca.NoOrder ∧ ∃ x, d = some x ∧ Z x = some (.xd [("place", .int b), ("deck", .int a)])
  | .NoBoard, c, d => c = .ref ca.NoBoard ∧ d = none
  | .Meet a b, c, d => c = .ref ca.Meet ∧ ∃ x v w, d = some x ∧ Z x = some (.xd [("other", w), ("one", v)]) ∧ Py.R K Z v a ∧ Py.R K Z w b
  | .NoAsking, c, d => c = .ref ca.NoAsking ∧ d = none
  | .NoTray, c, d => c = .ref ca.NoTray ∧ d = none
  | .NoPlan, c, d => c = .ref ca.NoPlan ∧ d = none
  | .NoRow, c, d => c = .ref ca.NoRow ∧ d = none
theorem lcKQ {γ β : Type} [Py β] {K : Fr} {J : It} {g : TG} {tt : TT} {te : TE} {σ : L2.St} {H Z : Hp} {L : List γ} {Y : γ → V → Hp → Hp → Prop} {vs : List Nat} {Q : VK} (src : Src J Z L Y) (zh : Same Z H) (f : γ → β) (p : γ → Bool) (hs : L.length < sizeLine)
    (el : ∀ a x Z' H' H2 (C : VK) (N : Hp → Prop), a ∈ L → Step Z H Z' H' → Y a x H' H2 →
      (∀ y Z2 H3, Step Z' H' Z2 H3 → p a = true → Py.R K Z2 y (f a) → C y H3) → (∀ Z2 H3, Step Z' H' Z2 H3 → p a = false → N H3) →
      g x (wipe σ vs) H2 fun σ2 H3 => wipe σ2 vs = wipe σ vs ∧ tt σ2 H3 fun b H4 => if b = true then te σ2 H4 C else N H4)
    (k : New K Z H Q ((L.filter p).map f)) : lcRest J g tt te vs Q σ H := lcK src zh f p hs el k
end Cd

set_option Elab.async false
set_option linter.all false
set_option maxRecDepth 100000
set_option maxHeartbeats 4000000
namespace Cd
open PySem L2 PyProof.Rows
/-! ### == and != of told data, by a function on the data -/
open PySem.SeqAt (EqAt RcAt RcNeAt)
def Cmp (A : Around) (s : Shared) (v u : Value) (b : Bool) : Prop := RcAt A s v u b ∧ RcNeAt A s v u (!b)
class EqA (α : Type) [Py α] where
  eqd : α → α → Bool
  dep : Nat
  cmp : ∀ {X : Cx} {pins : List (Addr × Obj)} {σ : L2.St} {H : Hp} {s : Shared} {x y : V} {v u : Value} {a b : α} {A : Around}, Inv X pins σ H s → Py.R X.K H x a → Py.R X.K H y b → RelV x v → RelV y u → A.units + dep < cLine → Cmp A s v u (eqd a b)
  at_ : ∀ {X : Cx} {pins : List (Addr × Obj)} {σ : L2.St} {H : Hp} {s : Shared} {x y : V} {v u : Value} {a b : α} {A : Around}, Inv X pins σ H s → Py.R X.K H x a → Py.R X.K H y b → RelV x v → RelV y u → A.units + dep < cLine → EqAt A s v u (eqd a b)
  same : ∀ {K : Fr} {H : Hp} {x : V} {a b : α}, Py.R K H x a → Py.R K H x b → eqd a b = true
/-- the function is equality -/
class EqL (α : Type) [Py α] [EqA α] [DecidableEq α] : Prop where
  lw : ∀ a b : α, EqA.eqd a b = decide (a = b)
theorem beq_dec {α : Type} [DecidableEq α] [BEq α] [LawfulBEq α] (a b : α) : (a == b) = decide (a = b) := by
  by_cases h : a = b
  · subst h; simp
  · simp [h]
instance : EqA Int where
  eqd a b := decide (a = b)
  dep := 0
  cmp := fun {X pins σ H s x y v u a b A} _ hx hy rx ry _ => by
    cases (show x = V.int a from hx); cases (show y = V.int b from hy)
    obtain ⟨t, rfl⟩ := rx; obtain ⟨t2, rfl⟩ := ry
    rw [← beq_dec]
    exact ⟨SeqAt.RcAt.int_int a t b t2, SeqAt.RcNeAt.int_int a t b t2⟩
  at_ := fun {X pins σ H s x y v u a b A} _ hx hy rx ry _ => by
    cases (show x = V.int a from hx); cases (show y = V.int b from hy)
    obtain ⟨t, rfl⟩ := rx; obtain ⟨t2, rfl⟩ := ry
    rw [← beq_dec]
    exact SeqAt.EqAt.int_int a t b t2
  same := fun {K H x a b} h1 h2 => by cases (show x = V.int a from h1); cases (show V.int a = V.int b from h2); simp
instance : EqL Int := ⟨fun _ _ => rfl⟩
instance : EqA Str where
  eqd a b := decide (a = b)
  dep := 0
  cmp := fun {X pins σ H s x y v u a b A} _ hx hy rx ry _ => by
    cases (show x = V.str a from hx); cases (show y = V.str b from hy)
    obtain ⟨t, rfl⟩ := rx; obtain ⟨t2, rfl⟩ := ry
    rw [← beq_dec]
    exact ⟨SeqAt.RcAt.str_str a t b t2, SeqAt.RcNeAt.str_str a t b t2⟩
  at_ := fun {X pins σ H s x y v u a b A} _ hx hy rx ry _ => by
    cases (show x = V.str a from hx); cases (show y = V.str b from hy)
    obtain ⟨t, rfl⟩ := rx; obtain ⟨t2, rfl⟩ := ry
    rw [← beq_dec]
    exact SeqAt.EqAt.str_str a t b t2
  same := fun {K H x a b} h1 h2 => by cases (show x = V.str a from h1); cases (show V.str a = V.str b from h2); simp
instance : EqL Str := ⟨fun _ _ => rfl⟩
instance : EqA Bool where
  eqd a b := decide (a = b)
  dep := 0
  cmp := fun {X pins σ H s x y v u a b A} _ hx hy rx ry _ => by
    cases (show x = V.bl a from hx); cases (show y = V.bl b from hy)
    cases (show v = Value.bool a from rx); cases (show u = Value.bool b from ry)
    rw [← beq_dec]
    exact ⟨SeqAt.RcAt.bool_bool a b, SeqAt.RcNeAt.bool_bool a b⟩
  at_ := fun {X pins σ H s x y v u a b A} _ hx hy rx ry _ => by
    cases (show x = V.bl a from hx); cases (show y = V.bl b from hy)
    cases (show v = Value.bool a from rx); cases (show u = Value.bool b from ry)
    rw [← beq_dec]
    exact SeqAt.EqAt.bool_bool a b
  same := fun {K H x a b} h1 h2 => by cases (show x = V.bl a from h1); cases (show V.bl a = V.bl b from h2); simp
instance : EqL Bool := ⟨fun _ _ => rfl⟩
instance : EqA Unit where
  eqd _ _ := true
  dep := 0
  cmp := fun {X pins σ H s x y v u a b A} _ hx hy rx ry _ => by
    cases (show x = V.non from hx); cases (show y = V.non from hy)
    cases (show v = Value.none from rx); cases (show u = Value.none from ry)
    exact ⟨SeqAt.RcAt.none_none, SeqAt.RcNeAt.none_none⟩
  at_ := fun {X pins σ H s x y v u a b A} _ hx hy rx ry _ => by
    cases (show x = V.non from hx); cases (show y = V.non from hy)
    cases (show v = Value.none from rx); cases (show u = Value.none from ry)
    exact SeqAt.EqAt.same _
  same := fun _ _ => rfl
instance : EqL Unit := ⟨fun _ _ => rfl⟩
/-! rows of values -/
inductive TEq (F : Value → Value → Bool → Prop) : List Value → List Value → List Bool → Prop
  | nilL {ws : List Value} : TEq F [] ws []
  | nilR {us : List Value} : TEq F us [] []
  | cons {v w : Value} {b : Bool} {us ws : List Value} {bs : List Bool} : F v w b → TEq F us ws bs → TEq F (v :: us) (w :: ws) (b :: bs)
theorem TEq.get {F : Value → Value → Bool → Prop} {us ws : List Value} {bs : List Bool} (h : TEq F us ws bs) : ∀ j (h1 : j < us.length) (h2 : j < ws.length), F us[j] ws[j] (bs.getD j true) := by
  induction h with
  | nilL => intro j h1 _; exact absurd h1 (Nat.not_lt_zero _)
  | nilR => intro j _ h2; exact absurd h2 (Nat.not_lt_zero _)
  | cons f _ ih =>
    intro j h1 h2
    cases j with
    | zero => exact f
    | succ j => exact ih j (Nat.lt_of_succ_lt_succ h1) (Nat.lt_of_succ_lt_succ h2)
theorem TEq.len {F : Value → Value → Bool → Prop} {us ws : List Value} {bs : List Bool} (h : TEq F us ws bs) : bs.length = min us.length ws.length := by
  induction h with
  | nilL => simp
  | nilR => simp
  | cons _ _ ih => simp only [List.length_cons]; omega
theorem range_getD : ∀ bs : List Bool, ((List.range bs.length).all fun j => bs.getD j true) = bs.all id := fun bs => by
  rw [Bool.eq_iff_iff, List.all_eq_true, List.all_eq_true]
  constructor
  · intro h b hb
    obtain ⟨i, hi, e⟩ := List.getElem_of_mem hb
    have := h i (List.mem_range.mpr hi)
    rw [List.getD_eq_getElem?_getD, List.getElem?_eq_getElem hi, e] at this
    exact this
  · intro h j hj
    have hj := List.mem_range.mp hj
    rw [List.getD_eq_getElem?_getD, List.getElem?_eq_getElem hj]
    exact h _ (List.getElem_mem hj)
section
variable {X : Cx} {pins : List (Addr × Obj)} {σ : L2.St} {H : Hp} {s : Shared} {A : Around}
theorem cmp_lists {p q : Addr} {xs ys : List V} {bs : List Bool} (I : Inv X pins σ H s) (hp : H p = some (.lst xs)) (hq : H q = some (.lst ys)) (hu : A.units < cLine)
    (t : ∀ us ws, Vals xs us → Vals ys ws → TEq (EqAt A.in1 s) us ws bs) : Cmp A s (.ref p) (.ref q) (bs.all id && xs.length == ys.length) := by
  obtain ⟨us, r1, p1, _⟩ := I.list (SqL.of hp)
  obtain ⟨ws, r2, p2, _⟩ := I.list (SqL.of hq)
  have te := t us ws r1 r2
  have l := te.len
  rw [r1.length, r2.length]
  by_cases e : us.length = ws.length
  · have sz : us.toArray.size = ws.toArray.size := by simpa using e
    have hb : bs.length = us.toArray.size := by rw [l, ← e]; simp
    have g : (List.range us.toArray.size).all (fun j => bs.getD j true) = (bs.all id && us.length == ws.length) := by
      rw [← hb, range_getD, e]; simp
    have he : ∀ j (h1 : j < us.toArray.size) (h2 : j < ws.toArray.size), EqAt A.in1 s us.toArray[j] ws.toArray[j] (bs.getD j true) := fun j h1 h2 => by
      have := te.get j (by simpa using h1) (by simpa using h2)
      simpa using this
    rw [← g]
    exact ⟨SeqAt.RcAt.lists p1.isList p2.isList sz hu he, SeqAt.RcNeAt.lists p1.isList p2.isList sz hu he⟩
  · have sz : (us.toArray.size != ws.toArray.size) = true := by simpa using e
    have g : (bs.all id && us.length == ws.length) = false := by simp [e]
    rw [g]
    exact ⟨SeqAt.RcAt.lists_lengths p1.isList p2.isList sz hu, SeqAt.RcNeAt.lists_lengths p1.isList p2.isList sz hu⟩
theorem cmp_tuples {p q : Addr} {xs ys : List V} {bs : List Bool} (I : Inv X pins σ H s) (hp : H p = some (.tup xs)) (hq : H q = some (.tup ys)) (hu : A.units < cLine)
    (t : ∀ us ws, Vals xs us → Vals ys ws → TEq (EqAt A.in1 s) us ws bs) : Cmp A s (.ref p) (.ref q) (bs.all id && xs.length == ys.length) := by
  obtain ⟨us, r1, p1, _⟩ := I.tuple (SqT.of hp)
  obtain ⟨ws, r2, p2, _⟩ := I.tuple (SqT.of hq)
  have te := t us ws r1 r2
  rw [r1.length, r2.length]
  have hb : bs.length = min us.toArray.size ws.toArray.size := by rw [te.len]; simp
  have g : ((List.range (min us.toArray.size ws.toArray.size)).all (fun j => bs.getD j true) && us.toArray.size == ws.toArray.size) = (bs.all id && us.length == ws.length) := by
    rw [← hb, range_getD]; simp
  have he : ∀ j (h1 : j < us.toArray.size) (h2 : j < ws.toArray.size), EqAt A.in1 s us.toArray[j] ws.toArray[j] (bs.getD j true) := fun j h1 h2 => by
    have := te.get j (by simpa using h1) (by simpa using h2)
    simpa using this
  rw [← g]
  exact ⟨SeqAt.RcAt.tuples p1 p2 hu he, SeqAt.RcNeAt.tuples p1 p2 hu he⟩
theorem at_refs {p q : Addr} {b : Bool} (c : Cmp A s (.ref p) (.ref q) b) (h : p = q → b = true) : EqAt A s (.ref p) (.ref q) b := by
  by_cases e : p = q
  · subst e; rw [h rfl]; exact SeqAt.EqAt.same _
  · exact SeqAt.EqAt.of_refs e c.1
theorem te_list {α : Type} [Py α] [EqA α] (I : Inv X pins σ H s) (hu : A.units + EqA.dep α < cLine) : ∀ {xs ys : List V} {l m : List α}, Paired (Py.R X.K H) xs l → Paired (Py.R X.K H) ys m → ∀ us ws, Vals xs us → Vals ys ws → TEq (EqAt A s) us ws (List.zipWith EqA.eqd l m)
  | _, _, _, _, .nil, _, _, _, .nil, _ => .nilL
  | _, _, _, _, .cons _ _, .nil, _, _, .cons _ _, .nil => .nilR
  | _, _, _, _, .cons r t, .cons r2 t2, _, _, .cons a c, .cons a2 c2 => .cons (EqA.at_ I r r2 a a2 hu) (te_list I hu t t2 _ _ c c2)
end
def eqLs {α : Type} [Py α] [EqA α] (l m : List α) : Bool := (List.zipWith EqA.eqd l m).all id && l.length == m.length
theorem same_list {α : Type} [Py α] [EqA α] {K : Fr} {H : Hp} : ∀ {xs : List V} {l m : List α}, Paired (Py.R K H) xs l → Paired (Py.R K H) xs m → eqLs l m = true
  | _, _, _, .nil, .nil => rfl
  | _, _, _, .cons r t, .cons r2 t2 => by
    have h := same_list t t2
    unfold eqLs at h ⊢
    rw [List.zipWith_cons_cons, List.all_cons, List.length_cons, List.length_cons]
    rw [Bool.and_eq_true] at h
    rw [EqA.same r r2, h.1]
    have := h.2
    simp at this ⊢
    exact this
theorem eqLs_lw {α : Type} [Py α] [EqA α] [DecidableEq α] [EqL α] : ∀ l m : List α, eqLs l m = decide (l = m)
  | [], [] => by simp [eqLs]
  | [], _ :: _ => by simp [eqLs]
  | _ :: _, [] => by simp [eqLs]
  | a :: l, b :: m => by
    have h := eqLs_lw l m
    unfold eqLs at h ⊢
    rw [List.zipWith_cons_cons, List.all_cons, List.length_cons, List.length_cons, EqL.lw]
    by_cases e : a = b
    · subst e
      simp at h ⊢
      exact h
    · simp [e]
instance {α : Type} [Py α] [EqA α] : EqA (List α) where
  eqd := eqLs
  dep := EqA.dep α + 1
  cmp := fun {X pins σ H s x y v u a b A} I hx hy rx ry hu => by
    obtain ⟨p, xs, rfl, hp, h1⟩ := hx
    obtain ⟨q, ys, rfl, hq, h2⟩ := hy
    cases (show v = Value.ref p from rx); cases (show u = Value.ref q from ry)
    have c := cmp_lists (A := A) I hp hq (by omega) (te_list (A := A.in1) I (by show A.units + 1 + _ < cLine; omega) h1 h2)
    rw [h1.pLen, h2.pLen] at c
    exact c
  at_ := fun {X pins σ H s x y v u a b A} I hx hy rx ry hu => by
    obtain ⟨p, xs, rfl, hp, h1⟩ := hx
    obtain ⟨q, ys, rfl, hq, h2⟩ := hy
    cases (show v = Value.ref p from rx); cases (show u = Value.ref q from ry)
    have c := cmp_lists (A := A) I hp hq (by omega) (te_list (A := A.in1) I (by show A.units + 1 + _ < cLine; omega) h1 h2)
    rw [h1.pLen, h2.pLen] at c
    refine at_refs c fun e => ?_
    subst e
    rw [hp] at hq; cases hq
    exact same_list h1 h2
  same := fun h1 h2 => by
    obtain ⟨p, xs, rfl, hp, h1⟩ := h1
    obtain ⟨q, ys, e, hq, h2⟩ := h2
    cases e
    rw [hp] at hq; cases hq
    exact same_list h1 h2
instance {α : Type} [Py α] [EqA α] [DecidableEq α] [EqL α] : EqL (List α) := ⟨eqLs_lw⟩
instance {α : Type} [Py α] [EqA α] : EqA (TL α) where
  eqd a b := eqLs a.l b.l
  dep := EqA.dep α + 1
  cmp := fun {X pins σ H s x y v u a b A} I hx hy rx ry hu => by
    obtain ⟨p, xs, rfl, hp, h1⟩ := hx
    obtain ⟨q, ys, rfl, hq, h2⟩ := hy
    cases (show v = Value.ref p from rx); cases (show u = Value.ref q from ry)
    have c := cmp_tuples (A := A) I hp hq (by omega) (te_list (A := A.in1) I (by show A.units + 1 + _ < cLine; omega) h1 h2)
    rw [h1.pLen, h2.pLen] at c
    exact c
  at_ := fun {X pins σ H s x y v u a b A} I hx hy rx ry hu => by
    obtain ⟨p, xs, rfl, hp, h1⟩ := hx
    obtain ⟨q, ys, rfl, hq, h2⟩ := hy
    cases (show v = Value.ref p from rx); cases (show u = Value.ref q from ry)
    have c := cmp_tuples (A := A) I hp hq (by omega) (te_list (A := A.in1) I (by show A.units + 1 + _ < cLine; omega) h1 h2)
    rw [h1.pLen, h2.pLen] at c
    refine at_refs c fun e => ?_
    subst e
    rw [hp] at hq; cases hq
    exact same_list h1 h2
  same := fun h1 h2 => by
    obtain ⟨p, xs, rfl, hp, h1⟩ := h1
    obtain ⟨q, ys, e, hq, h2⟩ := h2
    cases e
    rw [hp] at hq; cases hq
    exact same_list h1 h2
instance {α : Type} [Py α] [EqA α] [DecidableEq α] [EqL α] : EqL (TL α) := ⟨fun a b => by
  show eqLs a.l b.l = _
  rw [eqLs_lw]
  obtain ⟨l⟩ := a; obtain ⟨m⟩ := b
  exact decide_eq_decide.mpr ⟨fun h => by rw [show l = m from h], fun h => by injection h⟩⟩
instance {α β : Type} [Py α] [EqA α] [Py β] [EqA β] : EqA (α × β) where
  eqd a b := EqA.eqd a.1 b.1 && EqA.eqd a.2 b.2
  dep := max (EqA.dep β) (max (EqA.dep α) (0)) + 1
  cmp := fun {X pins σ H s x y v u a b A} I hx hy rx ry hu => by
    obtain ⟨p, y0, y1, rfl, hp, h0, h1⟩ := hx
    obtain ⟨q, z0, z1, rfl, hq, k0, k1⟩ := hy
    cases (show v = Value.ref p from rx); cases (show u = Value.ref q from ry)
    have c := cmp_tuples (A := A) (bs := [EqA.eqd a.1 b.1, EqA.eqd a.2 b.2]) I hp hq (by omega) (fun us ws v1 v2 => match us, ws, v1, v2 with | _, _, .cons r0 (.cons r1 (.nil)), .cons t0 (.cons t1 (.nil)) => .cons (EqA.at_ I h0 k0 r0 t0 (by show A.units + 1 + _ < cLine; omega)) (.cons (EqA.at_ I h1 k1 r1 t1 (by show A.units + 1 + _ < cLine; omega)) (.nilL)))
    have e : ([EqA.eqd a.1 b.1, EqA.eqd a.2 b.2].all id && [y0, y1].length == [z0, z1].length) = (EqA.eqd a.1 b.1 && EqA.eqd a.2 b.2) := by simp [Bool.and_assoc]
    rw [e] at c
    exact c
  at_ := fun {X pins σ H s x y v u a b A} I hx hy rx ry hu => by
    obtain ⟨p, y0, y1, rfl, hp, h0, h1⟩ := hx
    obtain ⟨q, z0, z1, rfl, hq, k0, k1⟩ := hy
    cases (show v = Value.ref p from rx); cases (show u = Value.ref q from ry)
    have c := cmp_tuples (A := A) (bs := [EqA.eqd a.1 b.1, EqA.eqd a.2 b.2]) I hp hq (by omega) (fun us ws v1 v2 => match us, ws, v1, v2 with | _, _, .cons r0 (.cons r1 (.nil)), .cons t0 (.cons t1 (.nil)) => .cons (EqA.at_ I h0 k0 r0 t0 (by show A.units + 1 + _ < cLine; omega)) (.cons (EqA.at_ I h1 k1 r1 t1 (by show A.units + 1 + _ < cLine; omega)) (.nilL)))
    have e : ([EqA.eqd a.1 b.1, EqA.eqd a.2 b.2].all id && [y0, y1].length == [z0, z1].length) = (EqA.eqd a.1 b.1 && EqA.eqd a.2 b.2) := by simp [Bool.and_assoc]
    rw [e] at c
    refine at_refs c fun e => ?_
    subst e
    rw [hp] at hq; cases hq
    rw [EqA.same h0 k0]; rw [EqA.same h1 k1]; rfl
  same := fun hx hy => by
    obtain ⟨p, y0, y1, rfl, hp, h0, h1⟩ := hx
    obtain ⟨q, z0, z1, e, hq, k0, k1⟩ := hy
    cases e
    rw [hp] at hq; cases hq
    rw [EqA.same h0 k0]; rw [EqA.same h1 k1]; rfl
instance {α β : Type} [Py α] [EqA α] [DecidableEq α] [EqL α] [Py β] [EqA β] [DecidableEq β] [EqL β] : EqL (α × β) := ⟨fun a b => by
  show (EqA.eqd a.1 b.1 && EqA.eqd a.2 b.2) = _
  rw [EqL.lw, EqL.lw]
  obtain ⟨c0, c1⟩ := a; obtain ⟨d0, d1⟩ := b
  rw [Bool.eq_iff_iff]; simp [and_assoc]⟩
instance {α β γ : Type} [Py α] [EqA α] [Py β] [EqA β] [Py γ] [EqA γ] : EqA (T3 α β γ) where
  eqd a b := EqA.eqd a.x1 b.x1 && EqA.eqd a.x2 b.x2 && EqA.eqd a.x3 b.x3
  dep := max (EqA.dep γ) (max (EqA.dep β) (max (EqA.dep α) (0))) + 1
  cmp := fun {X pins σ H s x y v u a b A} I hx hy rx ry hu => by
    obtain ⟨p, y0, y1, y2, rfl, hp, h0, h1, h2⟩ := hx
    obtain ⟨q, z0, z1, z2, rfl, hq, k0, k1, k2⟩ := hy
    cases (show v = Value.ref p from rx); cases (show u = Value.ref q from ry)
    have c := cmp_tuples (A := A) (bs := [EqA.eqd a.x1 b.x1, EqA.eqd a.x2 b.x2, EqA.eqd a.x3 b.x3]) I hp hq (by omega) (fun us ws v1 v2 => match us, ws, v1, v2 with | _, _, .cons r0 (.cons r1 (.cons r2 (.nil))), .cons t0 (.cons t1 (.cons t2 (.nil))) => .cons (EqA.at_ I h0 k0 r0 t0 (by show A.units + 1 + _ < cLine; omega)) (.cons (EqA.at_ I h1 k1 r1 t1 (by show A.units + 1 + _ < cLine; omega)) (.cons (EqA.at_ I h2 k2 r2 t2 (by show A.units + 1 + _ < cLine; omega)) (.nilL))))
    have e : ([EqA.eqd a.x1 b.x1, EqA.eqd a.x2 b.x2, EqA.eqd a.x3 b.x3].all id && [y0, y1, y2].length == [z0, z1, z2].length) = (EqA.eqd a.x1 b.x1 && EqA.eqd a.x2 b.x2 && EqA.eqd a.x3 b.x3) := by simp [Bool.and_assoc]
    rw [e] at c
    exact c
  at_ := fun {X pins σ H s x y v u a b A} I hx hy rx ry hu => by
    obtain ⟨p, y0, y1, y2, rfl, hp, h0, h1, h2⟩ := hx
    obtain ⟨q, z0, z1, z2, rfl, hq, k0, k1, k2⟩ := hy
    cases (show v = Value.ref p from rx); cases (show u = Value.ref q from ry)
    have c := cmp_tuples (A := A) (bs := [EqA.eqd a.x1 b.x1, EqA.eqd a.x2 b.x2, EqA.eqd a.x3 b.x3]) I hp hq (by omega) (fun us ws v1 v2 => match us, ws, v1, v2 with | _, _, .cons r0 (.cons r1 (.cons r2 (.nil))), .cons t0 (.cons t1 (.cons t2 (.nil))) => .cons (EqA.at_ I h0 k0 r0 t0 (by show A.units + 1 + _ < cLine; omega)) (.cons (EqA.at_ I h1 k1 r1 t1 (by show A.units + 1 + _ < cLine; omega)) (.cons (EqA.at_ I h2 k2 r2 t2 (by show A.units + 1 + _ < cLine; omega)) (.nilL))))
    have e : ([EqA.eqd a.x1 b.x1, EqA.eqd a.x2 b.x2, EqA.eqd a.x3 b.x3].all id && [y0, y1, y2].length == [z0, z1, z2].length) = (EqA.eqd a.x1 b.x1 && EqA.eqd a.x2 b.x2 && EqA.eqd a.x3 b.x3) := by simp [Bool.and_assoc]
    rw [e] at c
    refine at_refs c fun e => ?_
    subst e
    rw [hp] at hq; cases hq
    rw [EqA.same h0 k0]; rw [EqA.same h1 k1]; rw [EqA.same h2 k2]; rfl
  same := fun hx hy => by
    obtain ⟨p, y0, y1, y2, rfl, hp, h0, h1, h2⟩ := hx
    obtain ⟨q, z0, z1, z2, e, hq, k0, k1, k2⟩ := hy
    cases e
    rw [hp] at hq; cases hq
    rw [EqA.same h0 k0]; rw [EqA.same h1 k1]; rw [EqA.same h2 k2]; rfl
instance {α β γ : Type} [Py α] [EqA α] [DecidableEq α] [EqL α] [Py β] [EqA β] [DecidableEq β] [EqL β] [Py γ] [EqA γ] [DecidableEq γ] [EqL γ] : EqL (T3 α β γ) := ⟨fun a b => by
  show (EqA.eqd a.x1 b.x1 && EqA.eqd a.x2 b.x2 && EqA.eqd a.x3 b.x3) = _
  rw [EqL.lw, EqL.lw, EqL.lw]
  obtain ⟨c0, c1, c2⟩ := a; obtain ⟨d0, d1, d2⟩ := b
  rw [Bool.eq_iff_iff]; simp [and_assoc]⟩
instance {α β γ δ : Type} [Py α] [EqA α] [Py β] [EqA β] [Py γ] [EqA γ] [Py δ] [EqA δ] : EqA (T4 α β γ δ) where
  eqd a b := EqA.eqd a.x1 b.x1 && EqA.eqd a.x2 b.x2 && EqA.eqd a.x3 b.x3 && EqA.eqd a.x4 b.x4
  dep := max (EqA.dep δ) (max (EqA.dep γ) (max (EqA.dep β) (max (EqA.dep α) (0)))) + 1
  cmp := fun {X pins σ H s x y v u a b A} I hx hy rx ry hu => by
    obtain ⟨p, y0, y1, y2, y3, rfl, hp, h0, h1, h2, h3⟩ := hx
    obtain ⟨q, z0, z1, z2, z3, rfl, hq, k0, k1, k2, k3⟩ := hy
    cases (show v = Value.ref p from rx); cases (show u = Value.ref q from ry)
    have c := cmp_tuples (A := A) (bs := [EqA.eqd a.x1 b.x1, EqA.eqd a.x2 b.x2, EqA.eqd a.x3 b.x3, EqA.eqd a.x4 b.x4]) I hp hq (by omega) (fun us ws v1 v2 => match us, ws, v1, v2 with | _, _, .cons r0 (.cons r1 (.cons r2 (.cons r3 (.nil)))), .cons t0 (.cons t1 (.cons t2 (.cons t3 (.nil)))) => .cons (EqA.at_ I h0 k0 r0 t0 (by show A.units + 1 + _ < cLine; omega)) (.cons (EqA.at_ I h1 k1 r1 t1 (by show A.units + 1 + _ < cLine; omega)) (.cons (EqA.at_ I h2 k2 r2 t2 (by show A.units + 1 + _ < cLine; omega)) (.cons (EqA.at_ I h3 k3 r3 t3 (by show A.units + 1 + _ < cLine; omega)) (.nilL)))))
    have e : ([EqA.eqd a.x1 b.x1, EqA.eqd a.x2 b.x2, EqA.eqd a.x3 b.x3, EqA.eqd a.x4 b.x4].all id && [y0, y1, y2, y3].length == [z0, z1, z2, z3].length) = (EqA.eqd a.x1 b.x1 && EqA.eqd a.x2 b.x2 && EqA.eqd a.x3 b.x3 && EqA.eqd a.x4 b.x4) := by simp [Bool.and_assoc]
    rw [e] at c
    exact c
  at_ := fun {X pins σ H s x y v u a b A} I hx hy rx ry hu => by
    obtain ⟨p, y0, y1, y2, y3, rfl, hp, h0, h1, h2, h3⟩ := hx
    obtain ⟨q, z0, z1, z2, z3, rfl, hq, k0, k1, k2, k3⟩ := hy
    cases (show v = Value.ref p from rx); cases (show u = Value.ref q from ry)
    have c := cmp_tuples (A := A) (bs := [EqA.eqd a.x1 b.x1, EqA.eqd a.x2 b.x2, EqA.eqd a.x3 b.x3, EqA.eqd a.x4 b.x4]) I hp hq (by omega) (fun us ws v1 v2 => match us, ws, v1, v2 with | _, _, .cons r0 (.cons r1 (.cons r2 (.cons r3 (.nil)))), .cons t0 (.cons t1 (.cons t2 (.cons t3 (.nil)))) => .cons (EqA.at_ I h0 k0 r0 t0 (by show A.units + 1 + _ < cLine; omega)) (.cons (EqA.at_ I h1 k1 r1 t1 (by show A.units + 1 + _ < cLine; omega)) (.cons (EqA.at_ I h2 k2 r2 t2 (by show A.units + 1 + _ < cLine; omega)) (.cons (EqA.at_ I h3 k3 r3 t3 (by show A.units + 1 + _ < cLine; omega)) (.nilL)))))
    have e : ([EqA.eqd a.x1 b.x1, EqA.eqd a.x2 b.x2, EqA.eqd a.x3 b.x3, EqA.eqd a.x4 b.x4].all id && [y0, y1, y2, y3].length == [z0, z1, z2, z3].length) = (EqA.eqd a.x1 b.x1 && EqA.eqd a.x2 b.x2 && EqA.eqd a.x3 b.x3 && EqA.eqd a.x4 b.x4) := by simp [Bool.and_assoc]
    rw [e] at c
    refine at_refs c fun e => ?_
    subst e
    rw [hp] at hq; cases hq
    rw [EqA.same h0 k0]; rw [EqA.same h1 k1]; rw [EqA.same h2 k2]; rw [EqA.same h3 k3]; rfl
  same := fun hx hy => by
    obtain ⟨p, y0, y1, y2, y3, rfl, hp, h0, h1, h2, h3⟩ := hx
    obtain ⟨q, z0, z1, z2, z3, e, hq, k0, k1, k2, k3⟩ := hy
    cases e
    rw [hp] at hq; cases hq
    rw [EqA.same h0 k0]; rw [EqA.same h1 k1]; rw [EqA.same h2 k2]; rw [EqA.same h3 k3]; rfl
instance {α β γ δ : Type} [Py α] [EqA α] [DecidableEq α] [EqL α] [Py β] [EqA β] [DecidableEq β] [EqL β] [Py γ] [EqA γ] [DecidableEq γ] [EqL γ] [Py δ] [EqA δ] [DecidableEq δ] [EqL δ] : EqL (T4 α β γ δ) := ⟨fun a b => by
  show (EqA.eqd a.x1 b.x1 && EqA.eqd a.x2 b.x2 && EqA.eqd a.x3 b.x3 && EqA.eqd a.x4 b.x4) = _
  rw [EqL.lw, EqL.lw, EqL.lw, EqL.lw]
  obtain ⟨c0, c1, c2, c3⟩ := a; obtain ⟨d0, d1, d2, d3⟩ := b
  rw [Bool.eq_iff_iff]; simp [and_assoc]⟩
instance {α β : Type} [Py α] [EqA α] [Py β] [EqA β] : EqA (HL2 α β) where
  eqd a b := EqA.eqd a.x1 b.x1 && EqA.eqd a.x2 b.x2
  dep := max (EqA.dep β) (max (EqA.dep α) (0)) + 1
  cmp := fun {X pins σ H s x y v u a b A} I hx hy rx ry hu => by
    obtain ⟨p, y0, y1, rfl, hp, h0, h1⟩ := hx
    obtain ⟨q, z0, z1, rfl, hq, k0, k1⟩ := hy
    cases (show v = Value.ref p from rx); cases (show u = Value.ref q from ry)
    have c := cmp_lists (A := A) (bs := [EqA.eqd a.x1 b.x1, EqA.eqd a.x2 b.x2]) I hp hq (by omega) (fun us ws v1 v2 => match us, ws, v1, v2 with | _, _, .cons r0 (.cons r1 (.nil)), .cons t0 (.cons t1 (.nil)) => .cons (EqA.at_ I h0 k0 r0 t0 (by show A.units + 1 + _ < cLine; omega)) (.cons (EqA.at_ I h1 k1 r1 t1 (by show A.units + 1 + _ < cLine; omega)) (.nilL)))
    have e : ([EqA.eqd a.x1 b.x1, EqA.eqd a.x2 b.x2].all id && [y0, y1].length == [z0, z1].length) = (EqA.eqd a.x1 b.x1 && EqA.eqd a.x2 b.x2) := by simp [Bool.and_assoc]
    rw [e] at c
    exact c
  at_ := fun {X pins σ H s x y v u a b A} I hx hy rx ry hu => by
    obtain ⟨p, y0, y1, rfl, hp, h0, h1⟩ := hx
    obtain ⟨q, z0, z1, rfl, hq, k0, k1⟩ := hy
    cases (show v = Value.ref p from rx); cases (show u = Value.ref q from ry)
    have c := cmp_lists (A := A) (bs := [EqA.eqd a.x1 b.x1, EqA.eqd a.x2 b.x2]) I hp hq (by omega) (fun us ws v1 v2 => match us, ws, v1, v2 with | _, _, .cons r0 (.cons r1 (.nil)), .cons t0 (.cons t1 (.nil)) => .cons (EqA.at_ I h0 k0 r0 t0 (by show A.units + 1 + _ < cLine; omega)) (.cons (EqA.at_ I h1 k1 r1 t1 (by show A.units + 1 + _ < cLine; omega)) (.nilL)))
    have e : ([EqA.eqd a.x1 b.x1, EqA.eqd a.x2 b.x2].all id && [y0, y1].length == [z0, z1].length) = (EqA.eqd a.x1 b.x1 && EqA.eqd a.x2 b.x2) := by simp [Bool.and_assoc]
    rw [e] at c
    refine at_refs c fun e => ?_
    subst e
    rw [hp] at hq; cases hq
    rw [EqA.same h0 k0]; rw [EqA.same h1 k1]; rfl
  same := fun hx hy => by
    obtain ⟨p, y0, y1, rfl, hp, h0, h1⟩ := hx
    obtain ⟨q, z0, z1, e, hq, k0, k1⟩ := hy
    cases e
    rw [hp] at hq; cases hq
    rw [EqA.same h0 k0]; rw [EqA.same h1 k1]; rfl
instance {α β : Type} [Py α] [EqA α] [DecidableEq α] [EqL α] [Py β] [EqA β] [DecidableEq β] [EqL β] : EqL (HL2 α β) := ⟨fun a b => by
  show (EqA.eqd a.x1 b.x1 && EqA.eqd a.x2 b.x2) = _
  rw [EqL.lw, EqL.lw]
  obtain ⟨c0, c1⟩ := a; obtain ⟨d0, d1⟩ := b
  rw [Bool.eq_iff_iff]; simp [and_assoc]⟩
instance {α β γ : Type} [Py α] [EqA α] [Py β] [EqA β] [Py γ] [EqA γ] : EqA (HL3 α β γ) where
  eqd a b := EqA.eqd a.x1 b.x1 && EqA.eqd a.x2 b.x2 && EqA.eqd a.x3 b.x3
  dep := max (EqA.dep γ) (max (EqA.dep β) (max (EqA.dep α) (0))) + 1
  cmp := fun {X pins σ H s x y v u a b A} I hx hy rx ry hu => by
    obtain ⟨p, y0, y1, y2, rfl, hp, h0, h1, h2⟩ := hx
    obtain ⟨q, z0, z1, z2, rfl, hq, k0, k1, k2⟩ := hy
    cases (show v = Value.ref p from rx); cases (show u = Value.ref q from ry)
    have c := cmp_lists (A := A) (bs := [EqA.eqd a.x1 b.x1, EqA.eqd a.x2 b.x2, EqA.eqd a.x3 b.x3]) I hp hq (by omega) (fun us ws v1 v2 => match us, ws, v1, v2 with | _, _, .cons r0 (.cons r1 (.cons r2 (.nil))), .cons t0 (.cons t1 (.cons t2 (.nil))) => .cons (EqA.at_ I h0 k0 r0 t0 (by show A.units + 1 + _ < cLine; omega)) (.cons (EqA.at_ I h1 k1 r1 t1 (by show A.units + 1 + _ < cLine; omega)) (.cons (EqA.at_ I h2 k2 r2 t2 (by show A.units + 1 + _ < cLine; omega)) (.nilL))))
    have e : ([EqA.eqd a.x1 b.x1, EqA.eqd a.x2 b.x2, EqA.eqd a.x3 b.x3].all id && [y0, y1, y2].length == [z0, z1, z2].length) = (EqA.eqd a.x1 b.x1 && EqA.eqd a.x2 b.x2 && EqA.eqd a.x3 b.x3) := by simp [Bool.and_assoc]
    rw [e] at c
    exact c
  at_ := fun {X pins σ H s x y v u a b A} I hx hy rx ry hu => by
    obtain ⟨p, y0, y1, y2, rfl, hp, h0, h1, h2⟩ := hx
    obtain ⟨q, z0, z1, z2, rfl, hq, k0, k1, k2⟩ := hy
    cases (show v = Value.ref p from rx); cases (show u = Value.ref q from ry)
    have c := cmp_lists (A := A) (bs := [EqA.eqd a.x1 b.x1, EqA.eqd a.x2 b.x2, EqA.eqd a.x3 b.x3]) I hp hq (by omega) (fun us ws v1 v2 => match us, ws, v1, v2 with | _, _, .cons r0 (.cons r1 (.cons r2 (.nil))), .cons t0 (.cons t1 (.cons t2 (.nil))) => .cons (EqA.at_ I h0 k0 r0 t0 (by show A.units + 1 + _ < cLine; omega)) (.cons (EqA.at_ I h1 k1 r1 t1 (by show A.units + 1 + _ < cLine; omega)) (.cons (EqA.at_ I h2 k2 r2 t2 (by show A.units + 1 + _ < cLine; omega)) (.nilL))))
    have e : ([EqA.eqd a.x1 b.x1, EqA.eqd a.x2 b.x2, EqA.eqd a.x3 b.x3].all id && [y0, y1, y2].length == [z0, z1, z2].length) = (EqA.eqd a.x1 b.x1 && EqA.eqd a.x2 b.x2 && EqA.eqd a.x3 b.x3) := by simp [Bool.and_assoc]
    rw [e] at c
    refine at_refs c fun e => ?_
    subst e
    rw [hp] at hq; cases hq
    rw [EqA.same h0 k0]; rw [EqA.same h1 k1]; rw [EqA.same h2 k2]; rfl
  same := fun hx hy => by
    obtain ⟨p, y0, y1, y2, rfl, hp, h0, h1, h2⟩ := hx
    obtain ⟨q, z0, z1, z2, e, hq, k0, k1, k2⟩ := hy
    cases e
    rw [hp] at hq; cases hq
    rw [EqA.same h0 k0]; rw [EqA.same h1 k1]; rw [EqA.same h2 k2]; rfl
instance {α β γ : Type} [Py α] [EqA α] [DecidableEq α] [EqL α] [Py β] [EqA β] [DecidableEq β] [EqL β] [Py γ] [EqA γ] [DecidableEq γ] [EqL γ] : EqL (HL3 α β γ) := ⟨fun a b => by
  show (EqA.eqd a.x1 b.x1 && EqA.eqd a.x2 b.x2 && EqA.eqd a.x3 b.x3) = _
  rw [EqL.lw, EqL.lw, EqL.lw]
  obtain ⟨c0, c1, c2⟩ := a; obtain ⟨d0, d1, d2⟩ := b
  rw [Bool.eq_iff_iff]; simp [and_assoc]⟩
instance {α β γ δ : Type} [Py α] [EqA α] [Py β] [EqA β] [Py γ] [EqA γ] [Py δ] [EqA δ] : EqA (HL4 α β γ δ) where
  eqd a b := EqA.eqd a.x1 b.x1 && EqA.eqd a.x2 b.x2 && EqA.eqd a.x3 b.x3 && EqA.eqd a.x4 b.x4
  dep := max (EqA.dep δ) (max (EqA.dep γ) (max (EqA.dep β) (max (EqA.dep α) (0)))) + 1
  cmp := fun {X pins σ H s x y v u a b A} I hx hy rx ry hu => by
    obtain ⟨p, y0, y1, y2, y3, rfl, hp, h0, h1, h2, h3⟩ := hx
    obtain ⟨q, z0, z1, z2, z3, rfl, hq, k0, k1, k2, k3⟩ := hy
    cases (show v = Value.ref p from rx); cases (show u = Value.ref q from ry)
    have c := cmp_lists (A := A) (bs := [EqA.eqd a.x1 b.x1, EqA.eqd a.x2 b.x2, EqA.eqd a.x3 b.x3, EqA.eqd a.x4 b.x4]) I hp hq (by omega) (fun us ws v1 v2 => match us, ws, v1, v2 with | _, _, .cons r0 (.cons r1 (.cons r2 (.cons r3 (.nil)))), .cons t0 (.cons t1 (.cons t2 (.cons t3 (.nil)))) => .cons (EqA.at_ I h0 k0 r0 t0 (by show A.units + 1 + _ < cLine; omega)) (.cons (EqA.at_ I h1 k1 r1 t1 (by show A.units + 1 + _ < cLine; omega)) (.cons (EqA.at_ I h2 k2 r2 t2 (by show A.units + 1 + _ < cLine; omega)) (.cons (EqA.at_ I h3 k3 r3 t3 (by show A.units + 1 + _ < cLine; omega)) (.nilL)))))
    have e : ([EqA.eqd a.x1 b.x1, EqA.eqd a.x2 b.x2, EqA.eqd a.x3 b.x3, EqA.eqd a.x4 b.x4].all id && [y0, y1, y2, y3].length == [z0, z1, z2, z3].length) = (EqA.eqd a.x1 b.x1 && EqA.eqd a.x2 b.x2 && EqA.eqd a.x3 b.x3 && EqA.eqd a.x4 b.x4) := by simp [Bool.and_assoc]
    rw [e] at c
    exact c
  at_ := fun {X pins σ H s x y v u a b A} I hx hy rx ry hu => by
    obtain ⟨p, y0, y1, y2, y3, rfl, hp, h0, h1, h2, h3⟩ := hx
    obtain ⟨q, z0, z1, z2, z3, rfl, hq, k0, k1, k2, k3⟩ := hy
    cases (show v = Value.ref p from rx); cases (show u = Value.ref q from ry)
    have c := cmp_lists (A := A) (bs := [EqA.eqd a.x1 b.x1, EqA.eqd a.x2 b.x2, EqA.eqd a.x3 b.x3, EqA.eqd a.x4 b.x4]) I hp hq (by omega) (fun us ws v1 v2 => match us, ws, v1, v2 with | _, _, .cons r0 (.cons r1 (.cons r2 (.cons r3 (.nil)))), .cons t0 (.cons t1 (.cons t2 (.cons t3 (.nil)))) => .cons (EqA.at_ I h0 k0 r0 t0 (by show A.units + 1 + _ < cLine; omega)) (.cons (EqA.at_ I h1 k1 r1 t1 (by show A.units + 1 + _ < cLine; omega)) (.cons (EqA.at_ I h2 k2 r2 t2 (by show A.units + 1 + _ < cLine; omega)) (.cons (EqA.at_ I h3 k3 r3 t3 (by show A.units + 1 + _ < cLine; omega)) (.nilL)))))
    have e : ([EqA.eqd a.x1 b.x1, EqA.eqd a.x2 b.x2, EqA.eqd a.x3 b.x3, EqA.eqd a.x4 b.x4].all id && [y0, y1, y2, y3].length == [z0, z1, z2, z3].length) = (EqA.eqd a.x1 b.x1 && EqA.eqd a.x2 b.x2 && EqA.eqd a.x3 b.x3 && EqA.eqd a.x4 b.x4) := by simp [Bool.and_assoc]
    rw [e] at c
    refine at_refs c fun e => ?_
    subst e
    rw [hp] at hq; cases hq
    rw [EqA.same h0 k0]; rw [EqA.same h1 k1]; rw [EqA.same h2 k2]; rw [EqA.same h3 k3]; rfl
  same := fun hx hy => by
    obtain ⟨p, y0, y1, y2, y3, rfl, hp, h0, h1, h2, h3⟩ := hx
    obtain ⟨q, z0, z1, z2, z3, e, hq, k0, k1, k2, k3⟩ := hy
    cases e
    rw [hp] at hq; cases hq
    rw [EqA.same h0 k0]; rw [EqA.same h1 k1]; rw [EqA.same h2 k2]; rw [EqA.same h3 k3]; rfl
instance {α β γ δ : Type} [Py α] [EqA α] [DecidableEq α] [EqL α] [Py β] [EqA β] [DecidableEq β] [EqL β] [Py γ] [EqA γ] [DecidableEq γ] [EqL γ] [Py δ] [EqA δ] [DecidableEq δ] [EqL δ] : EqL (HL4 α β γ δ) := ⟨fun a b => by
  show (EqA.eqd a.x1 b.x1 && EqA.eqd a.x2 b.x2 && EqA.eqd a.x3 b.x3 && EqA.eqd a.x4 b.x4) = _
  rw [EqL.lw, EqL.lw, EqL.lw, EqL.lw]
  obtain ⟨c0, c1, c2, c3⟩ := a; obtain ⟨d0, d1, d2, d3⟩ := b
  rw [Bool.eq_iff_iff]; simp [and_assoc]⟩
instance {α β γ δ ε : Type} [Py α] [EqA α] [Py β] [EqA β] [Py γ] [EqA γ] [Py δ] [EqA δ] [Py ε] [EqA ε] : EqA (HL5 α β γ δ ε) where
  eqd a b := EqA.eqd a.x1 b.x1 && EqA.eqd a.x2 b.x2 && EqA.eqd a.x3 b.x3 && EqA.eqd a.x4 b.x4 && EqA.eqd a.x5 b.x5
  dep := max (EqA.dep ε) (max (EqA.dep δ) (max (EqA.dep γ) (max (EqA.dep β) (max (EqA.dep α) (0))))) + 1
  cmp := fun {X pins σ H s x y v u a b A} I hx hy rx ry hu => by
    obtain ⟨p, y0, y1, y2, y3, y4, rfl, hp, h0, h1, h2, h3, h4⟩ := hx
    obtain ⟨q, z0, z1, z2, z3, z4, rfl, hq, k0, k1, k2, k3, k4⟩ := hy
    cases (show v = Value.ref p from rx); cases (show u = Value.ref q from ry)
    have c := cmp_lists (A := A) (bs := [EqA.eqd a.x1 b.x1, EqA.eqd a.x2 b.x2, EqA.eqd a.x3 b.x3, EqA.eqd a.x4 b.x4, EqA.eqd a.x5 b.x5]) I hp hq (by omega) (fun us ws v1 v2 => match us, ws, v1, v2 with | _, _, .cons r0 (.cons r1 (.cons r2 (.cons r3 (.cons r4 (.nil))))), .cons t0 (.cons t1 (.cons t2 (.cons t3 (.cons t4 (.nil))))) => .cons (EqA.at_ I h0 k0 r0 t0 (by show A.units + 1 + _ < cLine; omega)) (.cons (EqA.at_ I h1 k1 r1 t1 (by show A.units + 1 + _ < cLine; omega)) (.cons (EqA.at_ I h2 k2 r2 t2 (by show A.units + 1 + _ < cLine; omega)) (.cons (EqA.at_ I h3 k3 r3 t3 (by show A.units + 1 + _ < cLine; omega)) (.cons (EqA.at_ I h4 k4 r4 t4 (by show A.units + 1 + _ < cLine; omega)) (.nilL))))))
    have e : ([EqA.eqd a.x1 b.x1, EqA.eqd a.x2 b.x2, EqA.eqd a.x3 b.x3, EqA.eqd a.x4 b.x4, EqA.eqd a.x5 b.x5].all id && [y0, y1, y2, y3, y4].length == [z0, z1, z2, z3, z4].length) = (EqA.eqd a.x1 b.x1 && EqA.eqd a.x2 b.x2 && EqA.eqd a.x3 b.x3 && EqA.eqd a.x4 b.x4 && EqA.eqd a.x5 b.x5) := by simp [Bool.and_assoc]
    rw [e] at c
    exact c
  at_ := fun {X pins σ H s x y v u a b A} I hx hy rx ry hu => by
    obtain ⟨p, y0, y1, y2, y3, y4, rfl, hp, h0, h1, h2, h3, h4⟩ := hx
    obtain ⟨q, z0, z1, z2, z3, z4, rfl, hq, k0, k1, k2, k3, k4⟩ := hy
    cases (show v = Value.ref p from rx); cases (show u = Value.ref q from ry)
    have c := cmp_lists (A := A) (bs := [EqA.eqd a.x1 b.x1, EqA.eqd a.x2 b.x2, EqA.eqd a.x3 b.x3, EqA.eqd a.x4 b.x4, EqA.eqd a.x5 b.x5]) I hp hq (by omega) (fun us ws v1 v2 => match us, ws, v1, v2 with | _, _, .cons r0 (.cons r1 (.cons r2 (.cons r3 (.cons r4 (.nil))))), .cons t0 (.cons t1 (.cons t2 (.cons t3 (.cons t4 (.nil))))) => .cons (EqA.at_ I h0 k0 r0 t0 (by show A.units + 1 + _ < cLine; omega)) (.cons (EqA.at_ I h1 k1 r1 t1 (by show A.units + 1 + _ < cLine; omega)) (.cons (EqA.at_ I h2 k2 r2 t2 (by show A.units + 1 + _ < cLine; omega)) (.cons (EqA.at_ I h3 k3 r3 t3 (by show A.units + 1 + _ < cLine; omega)) (.cons (EqA.at_ I h4 k4 r4 t4 (by show A.units + 1 + _ < cLine; omega)) (.nilL))))))
    have e : ([EqA.eqd a.x1 b.x1, EqA.eqd a.x2 b.x2, EqA.eqd a.x3 b.x3, EqA.eqd a.x4 b.x4, EqA.eqd a.x5 b.x5].all id && [y0, y1, y2, y3, y4].length == [z0, z1, z2, z3, z4].length) = (EqA.eqd a.x1 b.x1 && EqA.eqd a.x2 b.x2 && EqA.eqd a.x3 b.x3 && EqA.eqd a.x4 b.x4 && EqA.eqd a.x5 b.x5) := by simp [Bool.and_assoc]
    rw [e] at c
    refine at_refs c fun e => ?_
    subst e
    rw [hp] at hq; cases hq
    rw [EqA.same h0 k0]; rw [EqA.same h1 k1]; rw [EqA.same h2 k2]; rw [EqA.same h3 k3]; rw [EqA.same h4 k4]; rfl
  same := fun hx hy => by
    obtain ⟨p, y0, y1, y2, y3, y4, rfl, hp, h0, h1, h2, h3, h4⟩ := hx
    obtain ⟨q, z0, z1, z2, z3, z4, e, hq, k0, k1, k2, k3, k4⟩ := hy
    cases e
    rw [hp] at hq; cases hq
    rw [EqA.same h0 k0]; rw [EqA.same h1 k1]; rw [EqA.same h2 k2]; rw [EqA.same h3 k3]; rw [EqA.same h4 k4]; rfl
instance {α β γ δ ε : Type} [Py α] [EqA α] [DecidableEq α] [EqL α] [Py β] [EqA β] [DecidableEq β] [EqL β] [Py γ] [EqA γ] [DecidableEq γ] [EqL γ] [Py δ] [EqA δ] [DecidableEq δ] [EqL δ] [Py ε] [EqA ε] [DecidableEq ε] [EqL ε] : EqL (HL5 α β γ δ ε) := ⟨fun a b => by
  show (EqA.eqd a.x1 b.x1 && EqA.eqd a.x2 b.x2 && EqA.eqd a.x3 b.x3 && EqA.eqd a.x4 b.x4 && EqA.eqd a.x5 b.x5) = _
  rw [EqL.lw, EqL.lw, EqL.lw, EqL.lw, EqL.lw]
  obtain ⟨c0, c1, c2, c3, c4⟩ := a; obtain ⟨d0, d1, d2, d3, d4⟩ := b
  rw [Bool.eq_iff_iff]; simp [and_assoc]⟩
/-! None beside other data -/
class NnA (α : Type) [Py α] where
  nn : ∀ {X : Cx} {pins : List (Addr × Obj)} {σ : L2.St} {H : Hp} {s : Shared} {x : V} {v : Value} {a : α} {A : Around}, Inv X pins σ H s → Py.R X.K H x a → RelV x v → A.units < cLine → (Cmp A s .none v false ∧ Cmp A s v .none false) ∧ EqAt A s .none v false ∧ EqAt A s v .none false
  ne : ∀ {K : Fr} {H : Hp} {a : α}, ¬ Py.R K H .non a
instance : NnA Int := ⟨fun {X pins σ H s x v a A} _ hx rx _ => by
  cases (show x = V.int a from hx); obtain ⟨t, rfl⟩ := rx
  exact ⟨⟨⟨SeqAt.RcAt.none_int a t, SeqAt.RcNeAt.none_int a t⟩, SeqAt.RcAt.int_none a t, SeqAt.RcNeAt.int_none a t⟩, SeqAt.EqAt.none_int a t, SeqAt.EqAt.int_none a t⟩, fun h => nomatch h⟩
instance : NnA Str := ⟨fun {X pins σ H s x v a A} _ hx rx _ => by
  cases (show x = V.str a from hx); obtain ⟨t, rfl⟩ := rx
  exact ⟨⟨⟨SeqAt.RcAt.none_str a t, SeqAt.RcNeAt.none_str a t⟩, SeqAt.RcAt.str_none a t, SeqAt.RcNeAt.str_none a t⟩, SeqAt.EqAt.none_str a t, SeqAt.EqAt.str_none a t⟩, fun h => nomatch h⟩
instance : NnA Bool := ⟨fun {X pins σ H s x v a A} _ hx rx _ => by
  cases (show x = V.bl a from hx); cases (show v = Value.bool a from rx)
  exact ⟨⟨⟨SeqAt.RcAt.none_bool a, SeqAt.RcNeAt.none_bool a⟩, SeqAt.RcAt.bool_none a, SeqAt.RcNeAt.bool_none a⟩, SeqAt.EqAt.none_bool a, SeqAt.EqAt.bool_none a⟩, fun h => nomatch h⟩
theorem nn_list {X : Cx} {pins : List (Addr × Obj)} {σ : L2.St} {H : Hp} {s : Shared} {p : Addr} {xs : List V} {A : Around} (I : Inv X pins σ H s) (hp : H p = some (.lst xs)) (hu : A.units < cLine) : (Cmp A s .none (.ref p) false ∧ Cmp A s (.ref p) .none false) ∧ EqAt A s .none (.ref p) false ∧ EqAt A s (.ref p) .none false := by
  obtain ⟨us, _, p1, _⟩ := I.list (SqL.of hp)
  exact ⟨⟨⟨SeqAt.RcAt.none_list p1.isList hu, SeqAt.RcNeAt.none_list p1.isList hu⟩, SeqAt.RcAt.list_none p1.isList hu, SeqAt.RcNeAt.list_none p1.isList hu⟩, SeqAt.EqAt.none_list p1.isList hu, SeqAt.EqAt.list_none p1.isList hu⟩
theorem nn_tuple {X : Cx} {pins : List (Addr × Obj)} {σ : L2.St} {H : Hp} {s : Shared} {p : Addr} {xs : List V} {A : Around} (I : Inv X pins σ H s) (hp : H p = some (.tup xs)) (hu : A.units < cLine) : (Cmp A s .none (.ref p) false ∧ Cmp A s (.ref p) .none false) ∧ EqAt A s .none (.ref p) false ∧ EqAt A s (.ref p) .none false := by
  obtain ⟨us, _, p1, _⟩ := I.tuple (SqT.of hp)
  exact ⟨⟨⟨SeqAt.RcAt.none_tuple p1 hu, SeqAt.RcNeAt.none_tuple p1 hu⟩, SeqAt.RcAt.tuple_none p1 hu, SeqAt.RcNeAt.tuple_none p1 hu⟩, SeqAt.EqAt.none_tuple p1 hu, SeqAt.EqAt.tuple_none p1 hu⟩
section
variable {α β γ δ ε : Type} [Py α] [Py β] [Py γ] [Py δ] [Py ε]
instance : NnA (List α) := ⟨fun I hx rx hu => by
  obtain ⟨p, xs, rfl, hp, _⟩ := hx; cases rx
  exact nn_list I hp hu, fun ⟨_, _, e, _⟩ => nomatch e⟩
instance : NnA (HL2 α β) := ⟨fun I hx rx hu => by
  obtain ⟨p, _, _, rfl, hp, _⟩ := hx; cases rx
  exact nn_list I hp hu, fun ⟨_, _, _, e, _⟩ => nomatch e⟩
instance : NnA (TL α) := ⟨fun I hx rx hu => by
  obtain ⟨p, xs, rfl, hp, _⟩ := hx; cases rx
  exact nn_tuple I hp hu, fun ⟨_, _, e, _⟩ => nomatch e⟩
instance : NnA (α × β) := ⟨fun I hx rx hu => by
  obtain ⟨p, _, _, rfl, hp, _⟩ := hx; cases rx
  exact nn_tuple I hp hu, fun ⟨_, _, _, e, _⟩ => nomatch e⟩
instance : NnA (T3 α β γ) := ⟨fun I hx rx hu => by
  obtain ⟨p, _, _, _, rfl, hp, _⟩ := hx; cases rx
  exact nn_tuple I hp hu, fun ⟨_, _, _, _, e, _⟩ => nomatch e⟩
instance : NnA (T4 α β γ δ) := ⟨fun I hx rx hu => by
  obtain ⟨p, _, _, _, _, rfl, hp, _⟩ := hx; cases rx
  exact nn_tuple I hp hu, fun ⟨_, _, _, _, _, e, _⟩ => nomatch e⟩
instance : NnA (TO α β γ) := ⟨fun {X pins σ H s x v a A} I hx rx hu => by
  obtain ⟨x1, x2, x3⟩ := a
  obtain ⟨p, _, _, rfl, _, _, h3⟩ := hx; cases rx
  cases x3 with
  | none => exact nn_tuple I h3 hu
  | some c => obtain ⟨_, hz, _⟩ := h3; exact nn_tuple I hz hu, fun {K H a} h => by obtain ⟨_, _, _, e, _⟩ := h; cases e⟩
end
instance {α : Type} [Py α] [EqA α] [NnA α] : EqA (Option α) where
  eqd a b := match a, b with
    | none, none => true
    | some a, some b => EqA.eqd a b
    | _, _ => false
  dep := EqA.dep α
  cmp := fun {X pins σ H s x y v u a b A} I hx hy rx ry hu => by
    cases a with
    | none =>
      cases (show x = V.non from hx); cases (show v = Value.none from rx)
      cases b with
      | none => cases (show y = V.non from hy); cases (show u = Value.none from ry); exact ⟨SeqAt.RcAt.none_none, SeqAt.RcNeAt.none_none⟩
      | some b => exact (NnA.nn (α := α) (a := b) I hy ry (by omega)).1.1
    | some a =>
      cases b with
      | none => cases (show y = V.non from hy); cases (show u = Value.none from ry); exact (NnA.nn (α := α) (a := a) I hx rx (by omega)).1.2
      | some b => exact EqA.cmp (α := α) I hx hy rx ry hu
  at_ := fun {X pins σ H s x y v u a b A} I hx hy rx ry hu => by
    cases a with
    | none =>
      cases (show x = V.non from hx); cases (show v = Value.none from rx)
      cases b with
      | none => cases (show y = V.non from hy); cases (show u = Value.none from ry); exact SeqAt.EqAt.same _
      | some b => exact (NnA.nn (α := α) (a := b) I hy ry (by omega)).2.1
    | some a =>
      cases b with
      | none => cases (show y = V.non from hy); cases (show u = Value.none from ry); exact (NnA.nn (α := α) (a := a) I hx rx (by omega)).2.2
      | some b => exact EqA.at_ (α := α) I hx hy rx ry hu
  same := fun {K H x a b} hx hy => by
    cases a with
    | none =>
      cases (show x = V.non from hx)
      cases b with
      | none => rfl
      | some b => exact (NnA.ne (α := α) hy).elim
    | some a =>
      cases b with
      | none => cases (show x = V.non from hy); exact (NnA.ne (α := α) hx).elim
      | some b => exact EqA.same (α := α) hx hy
instance {α : Type} [Py α] [EqA α] [NnA α] [DecidableEq α] [EqL α] : EqL (Option α) := ⟨fun a b => by
  cases a <;> cases b <;> first | rfl | simp [EqA.eqd] | skip
  rename_i a b
  exact (EqL.lw a b).trans (by simp)⟩
instance {α β γ : Type} [Py α] [EqA α] [Py β] [EqA β] [Py γ] [EqA γ] : EqA (TO α β γ) where
  eqd a b := EqA.eqd a.x1 b.x1 && (EqA.eqd a.x2 b.x2 && match a.x3, b.x3 with
    | none, none => true
    | some c, some d => EqA.eqd c d
    | _, _ => false)
  dep := max (EqA.dep α) (max (EqA.dep β) (EqA.dep γ)) + 1
  cmp := fun {X pins σ H s x y v u a b A} I hx hy rx ry hu => by
    obtain ⟨a1, a2, a3⟩ := a; obtain ⟨b1, b2, b3⟩ := b
    obtain ⟨p, y0, y1, rfl, h0, h1, h2⟩ := hx
    obtain ⟨q, z0, z1, rfl, k0, k1, k2⟩ := hy
    cases (show v = Value.ref p from rx); cases (show u = Value.ref q from ry)
    have u1 : A.in1.units + EqA.dep α < cLine := by show A.units + 1 + _ < cLine; omega
    have u2 : A.in1.units + EqA.dep β < cLine := by show A.units + 1 + _ < cLine; omega
    have u3 : A.in1.units + EqA.dep γ < cLine := by show A.units + 1 + _ < cLine; omega
    cases a3 with
    | none =>
      cases b3 with
      | none =>
        have c := cmp_tuples (A := A) (bs := [EqA.eqd a1 b1, EqA.eqd a2 b2]) I h2 k2 (by omega) (fun us ws v1 v2 => match us, ws, v1, v2 with | _, _, .cons r0 (.cons r1 .nil), .cons t0 (.cons t1 .nil) => .cons (EqA.at_ I h0 k0 r0 t0 u1) (.cons (EqA.at_ I h1 k1 r1 t1 u2) .nilL))
        simpa using c
      | some d =>
        obtain ⟨z2, k2, k3⟩ := k2
        have c := cmp_tuples (A := A) (bs := [EqA.eqd a1 b1, EqA.eqd a2 b2]) I h2 k2 (by omega) (fun us ws v1 v2 => match us, ws, v1, v2 with | _, _, .cons r0 (.cons r1 .nil), .cons t0 (.cons t1 _) => .cons (EqA.at_ I h0 k0 r0 t0 u1) (.cons (EqA.at_ I h1 k1 r1 t1 u2) .nilL))
        simpa using c
    | some c =>
      obtain ⟨y2, h2, h3⟩ := h2
      cases b3 with
      | none =>
        have c := cmp_tuples (A := A) (bs := [EqA.eqd a1 b1, EqA.eqd a2 b2]) I h2 k2 (by omega) (fun us ws v1 v2 => match us, ws, v1, v2 with | _, _, .cons r0 (.cons r1 _), .cons t0 (.cons t1 .nil) => .cons (EqA.at_ I h0 k0 r0 t0 u1) (.cons (EqA.at_ I h1 k1 r1 t1 u2) .nilR))
        simpa using c
      | some d =>
        obtain ⟨z2, k2, k3⟩ := k2
        have cc := cmp_tuples (A := A) (bs := [EqA.eqd a1 b1, EqA.eqd a2 b2, EqA.eqd c d]) I h2 k2 (by omega) (fun us ws v1 v2 => match us, ws, v1, v2 with | _, _, .cons r0 (.cons r1 (.cons r2 .nil)), .cons t0 (.cons t1 (.cons t2 .nil)) => .cons (EqA.at_ I h0 k0 r0 t0 u1) (.cons (EqA.at_ I h1 k1 r1 t1 u2) (.cons (EqA.at_ I h3 k3 r2 t2 u3) .nilL)))
        simpa using cc
  at_ := fun {X pins σ H s x y v u a b A} I hx hy rx ry hu => by
    obtain ⟨a1, a2, a3⟩ := a; obtain ⟨b1, b2, b3⟩ := b
    obtain ⟨p, y0, y1, rfl, h0, h1, h2⟩ := hx
    obtain ⟨q, z0, z1, rfl, k0, k1, k2⟩ := hy
    cases (show v = Value.ref p from rx); cases (show u = Value.ref q from ry)
    have u1 : A.in1.units + EqA.dep α < cLine := by show A.units + 1 + _ < cLine; omega
    have u2 : A.in1.units + EqA.dep β < cLine := by show A.units + 1 + _ < cLine; omega
    have u3 : A.in1.units + EqA.dep γ < cLine := by show A.units + 1 + _ < cLine; omega
    cases a3 with
    | none =>
      cases b3 with
      | none =>
        have c := cmp_tuples (A := A) (bs := [EqA.eqd a1 b1, EqA.eqd a2 b2]) I h2 k2 (by omega) (fun us ws v1 v2 => match us, ws, v1, v2 with | _, _, .cons r0 (.cons r1 .nil), .cons t0 (.cons t1 .nil) => .cons (EqA.at_ I h0 k0 r0 t0 u1) (.cons (EqA.at_ I h1 k1 r1 t1 u2) .nilL))
        refine at_refs (by simpa using c) fun e => ?_
        subst e; rw [h2] at k2; cases k2
        rw [EqA.same h0 k0, EqA.same h1 k1]; rfl
      | some d =>
        obtain ⟨z2, k2, k3⟩ := k2
        have c := cmp_tuples (A := A) (bs := [EqA.eqd a1 b1, EqA.eqd a2 b2]) I h2 k2 (by omega) (fun us ws v1 v2 => match us, ws, v1, v2 with | _, _, .cons r0 (.cons r1 .nil), .cons t0 (.cons t1 _) => .cons (EqA.at_ I h0 k0 r0 t0 u1) (.cons (EqA.at_ I h1 k1 r1 t1 u2) .nilL))
        refine at_refs (by simpa using c) fun e => ?_
        subst e; rw [h2] at k2; cases k2
    | some c =>
      obtain ⟨y2, h2, h3⟩ := h2
      cases b3 with
      | none =>
        have c := cmp_tuples (A := A) (bs := [EqA.eqd a1 b1, EqA.eqd a2 b2]) I h2 k2 (by omega) (fun us ws v1 v2 => match us, ws, v1, v2 with | _, _, .cons r0 (.cons r1 _), .cons t0 (.cons t1 .nil) => .cons (EqA.at_ I h0 k0 r0 t0 u1) (.cons (EqA.at_ I h1 k1 r1 t1 u2) .nilR))
        refine at_refs (by simpa using c) fun e => ?_
        subst e; rw [h2] at k2; cases k2
      | some d =>
        obtain ⟨z2, k2, k3⟩ := k2
        have cc := cmp_tuples (A := A) (bs := [EqA.eqd a1 b1, EqA.eqd a2 b2, EqA.eqd c d]) I h2 k2 (by omega) (fun us ws v1 v2 => match us, ws, v1, v2 with | _, _, .cons r0 (.cons r1 (.cons r2 .nil)), .cons t0 (.cons t1 (.cons t2 .nil)) => .cons (EqA.at_ I h0 k0 r0 t0 u1) (.cons (EqA.at_ I h1 k1 r1 t1 u2) (.cons (EqA.at_ I h3 k3 r2 t2 u3) .nilL)))
        refine at_refs (by simpa using cc) fun e => ?_
        subst e; rw [h2] at k2; cases k2
        show (EqA.eqd a1 b1 && (EqA.eqd a2 b2 && EqA.eqd c d)) = true
        rw [EqA.same h0 k0, EqA.same h1 k1, EqA.same h3 k3]; rfl
  same := fun {K H x a b} hx hy => by
    obtain ⟨a1, a2, a3⟩ := a; obtain ⟨b1, b2, b3⟩ := b
    obtain ⟨p, y0, y1, rfl, h0, h1, h2⟩ := hx
    obtain ⟨q, z0, z1, e, k0, k1, k2⟩ := hy
    cases e
    cases a3 with
    | none =>
      cases b3 with
      | none => rw [h2] at k2; cases k2; dsimp only; rw [EqA.same h0 k0, EqA.same h1 k1]; rfl
      | some d => obtain ⟨z2, k2, k3⟩ := k2; rw [h2] at k2; cases k2
    | some c =>
      obtain ⟨y2, h2, h3⟩ := h2
      cases b3 with
      | none => rw [h2] at k2; cases k2
      | some d => obtain ⟨z2, k2, k3⟩ := k2; rw [h2] at k2; cases k2; show (EqA.eqd a1 b1 && (EqA.eqd a2 b2 && EqA.eqd c d)) = true; rw [EqA.same h0 k0, EqA.same h1 k1, EqA.same h3 k3]; rfl
instance {α β γ : Type} [Py α] [EqA α] [DecidableEq α] [EqL α] [Py β] [EqA β] [DecidableEq β] [EqL β] [Py γ] [EqA γ] [DecidableEq γ] [EqL γ] : EqL (TO α β γ) := ⟨fun a b => by
  obtain ⟨a1, a2, a3⟩ := a; obtain ⟨b1, b2, b3⟩ := b
  show (EqA.eqd a1 b1 && (EqA.eqd a2 b2 && _)) = _
  rw [EqL.lw, EqL.lw]
  cases a3 <;> cases b3 <;> (try dsimp only) <;> (try rw [EqL.lw]) <;> rw [Bool.eq_iff_iff] <;> simp⟩
/-! ### the comparison itself; dicts -/
class EqC (α : Type) [Py α] where
  eqc : α → α → Bool
  dpc : Nat
  cmp : ∀ {X : Cx} {pins : List (Addr × Obj)} {σ : L2.St} {H : Hp} {s : Shared} {x y : V} {v u : Value} {a b : α} {A : Around}, Inv X pins σ H s → Py.R X.K H x a → Py.R X.K H y b → RelV x v → RelV y u → A.units + dpc < cLine →
    (∀ (E Q : Value → Shared → Prop), Q (.bool (eqc a b)) s → wpAny (model X.prog X.w) A (compareOp .Eq v u) Q E s) ∧ ∀ (E Q : Value → Shared → Prop), Q (.bool (!eqc a b)) s → wpAny (model X.prog X.w) A (compareOp .NotEq v u) Q E s
instance {α : Type} [Py α] [EqA α] : EqC α where
  eqc := EqA.eqd
  dpc := EqA.dep α
  cmp := fun I hx hy rx ry hu => let c := EqA.cmp I hx hy rx ry hu; ⟨fun E Q q => c.1 _ _ E Q q, fun E Q q => c.2 _ _ E Q q⟩
section
variable {κ α : Type} [Sc κ] [DecidableEq κ] [Kt κ] [Py α] [EqA α]
def eqDs (m n : Dct κ α) : Bool := m.kv.length == n.kv.length && m.kv.all fun p => match dGet n.kv p.1 with
  | none => false
  | some b => EqA.eqd p.2 b
theorem hitsD {X : Cx} {pins : List (Addr × Obj)} {σ : L2.St} {H : Hp} {s : Shared} {A : Around} (I : Inv X pins σ H s) (hu : A.units + EqA.dep α < cLine) {n : List (κ × α)} {kb : List (Key × V)} {vb : List (Key × Value)} (pb : Paired (EntK X.K H) kb n) (rb : KV kb vb) :
    ∀ {m : List (κ × α)} {ka : List (Key × V)} {va : List (Key × Value)}, Paired (EntK X.K H) ka m → KV ka va → PySem.W.KeqHits A s vb va (m.all fun p => match dGet n p.1 with | none => false | some b => EqA.eqd p.2 b)
  | _, _, _, .nil, .nil => .nil
  | _, _, (key, v) :: r, .cons (b := q) e t, .cons h t2 => by
    have e1 : Kt.key q.1 = key := e.1.symm.trans h.1
    rw [List.all_cons]
    have rr := rb.val key
    rw [← e1] at rr ⊢
    rcases ent_get q.1 pb with ⟨h1, h2⟩ | ⟨w, a, h1, h2, h3⟩
    · rw [h2]
      dsimp only
      rw [Bool.false_and]
      rw [h1] at rr
      refine .miss ?_
      cases hv : valueAt vb (Kt.key q.1) with
      | none => rfl
      | some y => rw [hv] at rr; exact rr.elim
    · rw [h2]
      dsimp only
      rw [h1] at rr
      obtain ⟨y, hy, ry⟩ := rr.some_of
      exact .hit hy (EqA.at_ I e.2 h3 h.2 ry hu) (hitsD I hu pb rb t t2)
instance : EqC (Dct κ α) where
  eqc := eqDs
  dpc := EqA.dep α + 1
  cmp := fun {X pins σ H s x y v u a b A} I hx hy rx ry hu => by
    obtain ⟨p, ka, rfl, hp, h1⟩ := hx
    obtain ⟨q, kb, rfl, hq, h2⟩ := hy
    cases (show v = Value.ref p from rx); cases (show u = Value.ref q from ry)
    obtain ⟨_, ya, va, ra, da⟩ := (show ObjOk X.prog X.w H s.heap p (.dK ka) from I.hok p _ hp)
    obtain ⟨_, yb, vb, rb, db⟩ := (show ObjOk X.prog X.w H s.heap q (.dK kb) from I.hok q _ hq)
    have hits := hitsD (A := A.in1) I (by show A.units + 1 + _ < cLine; omega) h2 rb h1 ra
    have la : va.length = a.kv.length := by rw [← ra.length]; exact h1.pLen
    have lb : vb.length = b.kv.length := by rw [← rb.length]; exact h2.pLen
    refine ⟨fun E Q hQ => PySem.W.keq_eq (knd := mixKind X.prog X.w) ya yb da db (by omega) (fun _ => hits) ?_, fun E Q hQ => PySem.W.keq_ne (knd := mixKind X.prog X.w) ya yb da db (by omega) (fun _ => hits) ?_⟩
    · rw [la, lb]; exact hQ
    · rw [la, lb]; exact hQ
end
def rEqC (K : Fr) : R2 := fun x y H Q => ∃ (b : Bool) (n : Nat), n ≤ 64 ∧ (∀ {X : Cx} {pins : List (Addr × Obj)} {σ : L2.St} {s : Shared} {v u : Value}, X.K = K → Inv X pins σ H s → RelV x v → RelV y u → X.A.units + n < cLine →
  ∀ (E Q : Value → Shared → Prop), Q (.bool b) s → wpAny (model X.prog X.w) X.A (compareOp .Eq v u) Q E s) ∧ Q (.bl b) H
def rNeC (K : Fr) : R2 := fun x y H Q => ∃ (b : Bool) (n : Nat), n ≤ 64 ∧ (∀ {X : Cx} {pins : List (Addr × Obj)} {σ : L2.St} {s : Shared} {v u : Value}, X.K = K → Inv X pins σ H s → RelV x v → RelV y u → X.A.units + n < cLine →
  ∀ (E Q : Value → Shared → Prop), Q (.bool b) s → wpAny (model X.prog X.w) X.A (compareOp .NotEq v u) Q E s) ∧ Q (.bl b) H
theorem op_eqC {X : Cx} (hu : X.A.units + 64 < cLine) : OpR X (compareOp .Eq) (rEqC X.K) := by
  intro pins s σ H x y v u Q I rx ry h
  obtain ⟨b, n, hn, h, q⟩ := h
  exact h rfl I rx ry (by omega) _ _ ⟨.bl b, H, I, rfl, q⟩
theorem op_neC {X : Cx} (hu : X.A.units + 64 < cLine) : OpR X (compareOp .NotEq) (rNeC X.K) := by
  intro pins s σ H x y v u Q I rx ry h
  obtain ⟨b, n, hn, h, q⟩ := h
  exact h rfl I rx ry (by omega) _ _ ⟨.bl b, H, I, rfl, q⟩
/-- what a value tells now -/
structure Rn {α : Type} [Py α] (K : Fr) (H : Hp) (v : V) (a : α) : Prop where
  r : Py.R K H v a
section
variable {K : Fr} {Z H Z0 H0 : Hp} {Q : VK} {α : Type} [Py α]
theorem Rn.tel {v : V} {a : α} (zh : Same Z H) (h : Py.R K Z v a) : Rn K H v a := ⟨Py.mono zh h⟩
theorem Rn.own {S : Sh α} [Dat S] {v : V} {ps : List Addr} {a : α} (zh : Same Z H) (o : OwnO S K H0 Z H v ps a) : Rn K H v a := ⟨Py.mono (o.seez zh) o.see⟩
theorem Rn.ownG {S : Sh α} [Dat S] {v : V} {a : α} {G : List Rt} (h : Sep K Z0 H0 Z H G) (i : Nat) (e : G[i]? = some ⟨S, v, a⟩) : Rn K H v a := let ⟨_, o⟩ := h.nth i e; Rn.own h.zh o
theorem Rn.sc {α : Type} [Sc α] {a : α} : Rn K H (Sc.emb a) a := ⟨rfl⟩
theorem Rn.some {v : V} {a : α} (h : Rn K H v a) : Rn K H v (some a) := ⟨h.r⟩
theorem Rn.none : Rn K H .non (none : Option α) := ⟨rfl⟩
theorem k_eqC [EqC α] {x y : V} {a b : α} (hx : Rn K H x a) (hy : Rn K H y b) (hd : EqC.dpc α ≤ 64) (k : Q (.bl (EqC.eqc a b)) H) : rEqC K x y H Q :=
  ⟨_, _, hd, fun e I rx ry hu E Q' q => (EqC.cmp (A := _) I (by rw [e]; exact hx.r) (by rw [e]; exact hy.r) rx ry hu).1 E Q' q, k⟩
theorem k_neC [EqC α] {x y : V} {a b : α} (hx : Rn K H x a) (hy : Rn K H y b) (hd : EqC.dpc α ≤ 64) (k : Q (.bl (!EqC.eqc a b)) H) : rNeC K x y H Q :=
  ⟨_, _, hd, fun e I rx ry hu E Q' q => (EqC.cmp (A := _) I (by rw [e]; exact hx.r) (by rw [e]; exact hy.r) rx ry hu).2 E Q' q, k⟩
theorem k_eqL [EqA α] [DecidableEq α] [EqL α] {x y : V} {a b : α} (hx : Rn K H x a) (hy : Rn K H y b) (hd : EqA.dep α ≤ 64) (k : Q (.bl (decide (a = b))) H) : rEqC K x y H Q := k_eqC hx hy hd (by rw [show EqC.eqc a b = decide (a = b) from EqL.lw a b]; exact k)
theorem k_neL [EqA α] [DecidableEq α] [EqL α] {x y : V} {a b : α} (hx : Rn K H x a) (hy : Rn K H y b) (hd : EqA.dep α ≤ 64) (k : Q (.bl (!decide (a = b))) H) : rNeC K x y H Q := k_neC hx hy hd (by rw [show EqC.eqc a b = decide (a = b) from EqL.lw a b]; exact k)
end
end Cd

set_option Elab.async false
set_option linter.all false
set_option maxRecDepth 100000
set_option maxHeartbeats 4000000
namespace Cd
open PySem L2 PyProof.Rows
/-! ### a dict that is locked while it is walked -/
class AllND (G : List Rt) : Prop where
  nd : ∀ r ∈ G, NDS r.S
instance : AllND [] := ⟨fun _ h => nomatch h⟩
instance {α : Type} {S : Sh α} [h : NDS S] {v : V} {a : α} {G : List Rt} [t : AllND G] : AllND (⟨S, v, a⟩ :: G) := ⟨fun r hr => (List.mem_cons.mp hr).elim (fun e => e ▸ h) (t.nd r)⟩
section
variable {K : Fr} {Z0 H0 Z H Z' H' : Hp} {G : List Rt} {d : Addr} {kvs : List (Key × V)} {od : Obj}
theorem Sep.lock (h : Sep K Z0 H0 Z H G) [AllND G] (hd : Z d = some (.dK kvs)) (od : Obj) : Sep K (delL Z0 [d]) (delL H0 [d]) (upd Z d (.frz od (.dK kvs))) (upd H d (.frz od (.dK kvs))) G := by
  obtain ⟨c, f, h1, h2⟩ := h
  exact ⟨c.lock hd od, f, fun i r e => by
    haveI := AllND.nd r (List.mem_of_getElem? e)
    exact (h1 i r e).lock hd, h2⟩
theorem Sep.unlock (h : Sep K (delL Z0 [d]) (delL H0 [d]) Z' H' G) [AllND G] (c : Step Z0 H0 Z H) (hd : Z d = some (.dK kvs)) (hf : Z' d = some (.frz od (.dK kvs))) : Sep K Z0 H0 (upd Z' d (.dK kvs)) (upd H' d (.dK kvs)) G := by
  obtain ⟨c2, f, h1, h2⟩ := h
  exact ⟨Step.unlock c hd c2, f, fun i r e => by
    haveI := AllND.nd r (List.mem_of_getElem? e)
    exact (h1 i r e).unlock hf, h2⟩
end
/-- lent while a scalar is reckoned -/
structure BorS (Z H Zb : Hp) (ps : List Addr) : Prop where
  zz : Same Z Zb
  nz : ∀ q ∈ ps, Z q = none
  zb : ∀ q, q ∉ ps → Zb q = Z q
theorem Sep.bor0S {K : Fr} {Z0 H0 Z H : Hp} {G : List Rt} (h : Sep K Z0 H0 Z H G) : BorS Z H Z [] := ⟨Same.refl _, (fun _ h => nomatch h), fun _ _ => rfl⟩
theorem Sep.borS {K : Fr} {Z0 H0 Z H Zb : Hp} {G : List Rt} {ps : List Addr} {α : Type} [Py α] {S : Sh α} [Dat S] {v : V} {a : α} (h : Sep K Z0 H0 Zb H G) (b : BorS Z H Zb ps) (i : Nat) (e : G[i]? = some ⟨S, v, a⟩) : ∃ Zc qs, BorS Z H Zc qs ∧ Sep K Z0 H0 Zc H (G.set i ⟨Sh.told, v, a⟩) := by
  have c := h.st
  obtain ⟨qs, o, g⟩ := h.chg i e
  obtain ⟨Zc, c', s, r, hz⟩ := o.tell c
  refine ⟨Zc, qs ++ ps, ⟨b.zz.trans s, fun q hq => ?_, fun q hq => ?_⟩, g c' s (fun q u hq hu => ⟨hu, hz q hq⟩) (OwnO.ofR r) fun _ h => nomatch h⟩
  · rcases List.mem_append.mp hq with hq | hq
    · exact b.zz.free (o.nz q hq)
    · exact b.nz q hq
  · rw [List.mem_append, not_or] at hq
    rw [hz q hq.1, b.zb q hq.2]
theorem BorS.back {Z H Zb Z2 H2 : Hp} {ps : List Addr} (b : BorS Z H Zb ps) (zh : Same Z H) (st : Step Zb H Z2 H2) : Step Z H (delL Z2 ps) H2 := by
  refine ⟨st.hh, fun q u e => ?_, fun q u e => ?_, fun q u e => ?_⟩
  · unfold delL
    rw [if_neg (fun hm => by rw [b.nz q hm] at e; cases e)]
    exact st.zz _ _ (b.zz _ _ e)
  · unfold delL at e
    split at e
    · cases e
    · exact st.zh _ _ e
  · unfold delL
    by_cases hm : q ∈ ps
    · rw [if_pos hm, b.nz q hm]
    · rw [if_neg hm, st.fr q u e, b.zb q hm]
section
variable {Q : VK} {H : Hp} {p : Addr}
end
end Cd

set_option Elab.async false
set_option linter.all false
set_option maxRecDepth 100000
set_option maxHeartbeats 4000000
namespace Cd
open PySem L2
/-! ### the plain laws: what is reckoned, and what it is -/
def Yes {α : Type} (m : R α) (Q : α → Prop) : Prop := ∃ a, m = .ok a ∧ Q a
section
variable {α β γ S T : Type} {m : R α} {k : α → R β} {Q : α → Prop} {P : α → Prop} {V : β → Prop}
theorem Yes.ok {a : α} (h : Q a) : Yes (.ok a) Q := ⟨a, rfl, h⟩
theorem Yes.bind (h : Yes m P) (h2 : ∀ a, P a → Yes (k a) V) : Yes (m.bind k) V := by
  obtain ⟨a, rfl, p⟩ := h
  exact h2 a p
theorem Yes.bindE {a : α} (h : m = .ok a) (h2 : Yes (k a) V) : Yes (m.bind k) V := by rw [h]; exact h2
theorem Yes.imp (h : Yes m P) (h2 : ∀ a, P a → Q a) : Yes m Q := let ⟨a, e, p⟩ := h; ⟨a, e, h2 a p⟩
theorem Yes.chk {p : Prop} (hp : p) (h : Yes m Q) : Yes (Cd.chk p m) Q := by rw [chk_t hp]; exact h
theorem Yes.vl {a : α} (h : Yes (k a) V) : Yes (Cd.vl a k) V := h
theorem Yes.vli {a : α} (h : ∀ x, x = a → Yes (k x) V) : Yes (Cd.vl a k) V := h a rfl
theorem Yes.ite {c : Prop} [Decidable c] {n : R α} (h1 : c → Yes m Q) (h2 : ¬ c → Yes n Q) : Yes (if c then m else n) Q := by
  by_cases h : c
  · rw [if_pos h]; exact h1 h
  · rw [if_neg h]; exact h2 h
theorem Yes.itb {c : Bool} {n : R α} (h1 : c = true → Yes m Q) (h2 : c = false → Yes n Q) : Yes (if c = true then m else n) Q := by
  cases h : c
  · exact h2 h
  · exact h1 h
theorem Yes.iteT {c : Prop} [Decidable c] {n : R α} (h : c) (h1 : Yes m Q) : Yes (if c then m else n) Q := by rw [if_pos h]; exact h1
theorem Yes.iteF {c : Prop} [Decidable c] {n : R α} (h : ¬ c) (h1 : Yes n Q) : Yes (if c then m else n) Q := by rw [if_neg h]; exact h1
theorem Yes.opt {o : Option β} {n : R α} {f : β → R α} (h1 : o = none → Yes n Q) (h2 : ∀ b, o = some b → Yes (f b) Q) : Yes (optB o n f) Q := by
  cases o with
  | none => exact h1 rfl
  | some b => exact h2 b rfl
theorem Yes.eq (h : Yes m fun r => r = a) : m = .ok a := by obtain ⟨b, e, rfl⟩ := h; exact e
theorem Yes.of {a : α} (h : m = .ok a) (q : Q a) : Yes m Q := ⟨a, h, q⟩
theorem Yes.nx (h : Yes m Q) : Yes m.nx Q := by obtain ⟨a, rfl, q⟩ := h; exact ⟨a, rfl, q⟩
theorem Yes.and (h : Yes m P) (h2 : Yes m Q) : Yes m fun a => P a ∧ Q a := by
  obtain ⟨a, rfl, p⟩ := h
  obtain ⟨b, e, q⟩ := h2
  cases e
  exact ⟨a, rfl, p, q⟩
/-- a loop: I of what was walked -/
theorem Yes.forR {f : S → α → R S} {l : List α} {s : S} {W : S → Prop} (I : List α → S → Prop) (h0 : I [] s) (st : ∀ p x r, l = p ++ x :: r → ∀ s, I p s → Yes (f s x) (I (p ++ [x]))) (hw : ∀ s, I l s → W s) : Yes (Cd.forR f s l) W := by
  have key : ∀ (r p : List α) (s : S), l = p ++ r → I p s → Yes (Cd.forR f s r) (I l) := by
    intro r
    induction r with
    | nil => intro p s e h; rw [List.append_nil] at e; subst e; exact Yes.ok h
    | cons x r ih => intro p s e h; exact Yes.bind (st p x r e s h) fun s' h' => ih (p ++ [x]) s' (by rw [e]; simp) h'
  exact (key l [] s rfl h0).imp hw
/-- what a turn may come to -/
def Tn (N B : S → Prop) (V : T → Prop) : LR S T → Prop
  | .nxt s => N s
  | .brk s => B s
  | .ret v => V v
theorem Yes.forL {f : S → α → R (LR S T)} {l : List α} {s : S} {W : LR S T → Prop} (I : List α → S → Prop) (B : S → Prop) (V : T → Prop) (h0 : I [] s) (st : ∀ p x r, l = p ++ x :: r → ∀ s, I p s → Yes (f s x) (Tn (I (p ++ [x])) B V)) (hw : ∀ o, Tn (I l) B V o → W o) : Yes (Cd.forL f s l) W := by
  have key : ∀ (r p : List α) (s : S), l = p ++ r → I p s → Yes (Cd.forL f s r) (Tn (I l) B V) := by
    intro r
    induction r with
    | nil => intro p s e h; rw [List.append_nil] at e; subst e; exact Yes.ok h
    | cons x r ih =>
      intro p s e h
      refine Yes.bind (st p x r e s h) fun o ho => ?_
      cases o with
      | nxt s' => exact ih (p ++ [x]) s' (by rw [e]; simp) ho
      | brk s' => exact ⟨_, rfl, ho⟩
      | ret v => exact ⟨_, rfl, ho⟩
  exact (key l [] s rfl h0).imp hw
theorem Yes.go {N B : S → Prop} {W : T → Prop} {m : R (LR S T)} {k : S → R β} {k2 : T → R β} (h : Yes m (Tn N B W)) (h1 : ∀ s, N s → Yes (k s) V) (h2 : ∀ s, B s → Yes (k s) V) (h3 : ∀ v, W v → Yes (k2 v) V) : Yes (m.bind fun o => LR.go o k k2) V :=
  Yes.bind h fun o ho => match o, ho with
    | .nxt s, ho => h1 s ho
    | .brk s, ho => h2 s ho
    | .ret v, ho => h3 v ho
/-- a loop with returns (no breaks): I of what was walked, V of what is returned -/
theorem Yes.forLg {f : S → α → R (LR S T)} {l : List α} {s : S} {k : S → R β} {k2 : T → R β} (I : List α → S → Prop) (W : T → Prop) (h0 : I [] s) (st : ∀ p x r, l = p ++ x :: r → ∀ s, I p s → Yes (f s x) (Tn (I (p ++ [x])) (fun _ => False) W)) (h1 : ∀ s, I l s → Yes (k s) V) (h3 : ∀ v, W v → Yes (k2 v) V) : Yes ((Cd.forL f s l).bind fun o => LR.go o k k2) V :=
  Yes.go (Yes.forL I (fun _ => False) W h0 st fun _ h => h) h1 (fun _ h => h.elim) h3
theorem Yes.whR {c : S → R Bool} {f : S → R S} {s : S} {W : S → Prop} (I : S → Prop) (mu : S → Nat) (h0 : I s) (hc : ∀ s, I s → Yes (c s) fun b => if b = true then Yes (f s) (fun s' => I s' ∧ mu s' < mu s) else W s) {n : Nat} (hn : mu s < n) : Yes (Cd.whR c f n s) W := by
  induction n generalizing s with
  | zero => omega
  | succ n ih =>
    refine Yes.bind (hc s h0) fun b hb => ?_
    cases b with
    | false => exact ⟨_, rfl, hb⟩
    | true => exact Yes.bind (P := fun s' => I s' ∧ mu s' < mu s) hb fun s' h' => ih h'.1 (by omega)
theorem Yes.whL {c : S → R Bool} {f : S → R (LR S T)} {s : S} {W : LR S T → Prop} (I : S → Prop) (mu : S → Nat) (h0 : I s) (hc : ∀ s, I s → Yes (c s) fun b => if b = true then Yes (f s) (Tn (fun s' => I s' ∧ mu s' < mu s) (fun s' => W (.brk s')) (fun v => W (.ret v))) else W (.nxt s)) {n : Nat} (hn : mu s < n) : Yes (Cd.whL c f n s) W := by
  induction n generalizing s with
  | zero => omega
  | succ n ih =>
    refine Yes.bind (hc s h0) fun b hb => ?_
    cases b with
    | false => exact ⟨_, rfl, hb⟩
    | true =>
      refine Yes.bind (P := Tn (fun s' => I s' ∧ mu s' < mu s) (fun s' => W (.brk s')) (fun v => W (.ret v))) hb fun o ho => ?_
      cases o with
      | nxt s' => exact ih ho.1 (by have := ho.2; omega)
      | brk s' => exact ⟨_, rfl, ho⟩
      | ret v => exact ⟨_, rfl, ho⟩
theorem Yes.lcR {F : γ → R (Option β)} {l : List γ} {W : List β → Prop} (I : List γ → List β → Prop) (h0 : I [] []) (st : ∀ p x r, l = p ++ x :: r → ∀ s, I p s → Yes (F x) fun o => I (p ++ [x]) (s ++ o.toList)) (hw : ∀ s, I l s → W s) : Yes (Cd.lcR F l) W := by
  have key : ∀ (r p : List γ) (s : List β), l = p ++ r → I p s → Yes (Cd.lcR F r) fun t => I l (s ++ t) := by
    intro r
    induction r with
    | nil => intro p s e h; rw [List.append_nil] at e; subst e; exact ⟨[], rfl, by show I _ (s ++ []); rw [List.append_nil]; exact h⟩
    | cons x r ih =>
      intro p s e h
      refine Yes.bind (st p x r e s h) fun o ho => Yes.bind (ih (p ++ [x]) (s ++ o.toList) (by rw [e]; simp) ho) fun t ht => Yes.ok ?_
      show I l (s ++ (o.toList ++ t)); rw [← List.append_assoc]; exact ht
  exact (key l [] [] rfl h0).imp fun t ht => hw t ht
end
theorem mem_mid {α : Type} {l p r : List α} {x : α} (e : l = p ++ x :: r) : x ∈ l := by rw [e]; simp
theorem len_mid {α : Type} {l p r : List α} {x : α} (e : l = p ++ x :: r) : p.length < l.length := by rw [e]; simp
theorem b2 {b : Bool} (h : ¬ b = true) : b = false := by cases b <;> first | rfl | exact absurd rfl h
end Cd

set_option Elab.async false
set_option linter.all false
set_option maxRecDepth 100000
set_option maxHeartbeats 4000000
namespace Cd
open PySem L2
/-! ### cards, signs, columns, dealing (plain) -/
def KN : List Nat := [32, 48, 49, 50, 51, 52, 53, 54, 55, 56, 57, 65, 66, 67, 68, 69, 70, 71, 72, 73, 74, 75, 76, 77, 78, 79, 80, 81, 82, 83, 84, 85, 86, 87, 88, 89, 90]
def signOk (z : Str) : Prop := ∃ c ∈ KN, z = sg c
def textOk (z : Str) : Prop := ∀ c ∈ codes z, c ∈ KN
def cardOk (z : Str) : Prop := z.length = 40 ∧ textOk z
def markOk (z : Str) : Prop := z.length = 4 ∧ textOk z
def menuOk (z : Str) : Prop := (0 < z.length ∧ z.length ≤ 37) ∧ textOk z
def colsOk (l : List Int) : Prop := ∀ x ∈ l, 1 ≤ x ∧ x ≤ 40
theorem sign_in {z : Str} {i : Int} (h : textOk z) (h0 : 0 ≤ i) (h1 : i < (z.length : Int)) : signOk (chS z i) := by
  obtain ⟨c, hc, e⟩ := chS_mem h0 h1
  exact ⟨c, h c hc, e⟩
theorem text_app {a b : Str} (ha : textOk a) (hb : textOk b) : textOk (a ++ b) := fun c hc => by
  rw [codes_app, List.mem_append] at hc
  exact hc.elim (ha c) (hb c)
theorem text_sign {a : Str} (h : signOk a) : textOk a := by
  obtain ⟨c, hc, rfl⟩ := h
  intro d hd
  rw [codes_sg, List.mem_singleton] at hd
  rw [hd]; exact hc
theorem text_cut {a : Str} {lo hi : Option Int} (h : textOk a) : textOk (cutS a lo hi) := fun c hc => by
  rw [codes_cut] at hc
  exact h c (cutL_mem hc)
theorem cut_to_len (z : Str) {j : Int} (h0 : 0 ≤ j) (h1 : j ≤ (z.length : Int)) : (cutS z none (some j)).length = j.toNat := by
  rw [len_codes, codes_cut, cutL_to h0, List.length_take, ← len_codes]
  omega
theorem all_app1 {α : Type} {P : α → Prop} {l : List α} {a : α} (h : ∀ z ∈ l, P z) (ha : P a) : ∀ z ∈ l ++ [a], P z := fun z hz => by
  rw [List.mem_append, List.mem_singleton] at hz
  rcases hz with hz | rfl
  · exact h z hz
  · exact ha
theorem toStr_digits (n : Nat) : ∀ c ∈ codes (toStr (n : Int)), 48 ≤ c ∧ c ≤ 57 := fun c hc => by
  rw [toStr_codes, List.mem_map] at hc
  obtain ⟨d, hd, rfl⟩ := hc
  have h := Nat.isDigit_of_mem_toDigits (by decide) (by decide) hd
  unfold Char.isDigit at h
  rw [Bool.and_eq_true] at h
  have h1 := of_decide_eq_true h.1
  have h2 := of_decide_eq_true h.2
  exact ⟨UInt32.le_iff_toNat_le.mp h1, UInt32.le_iff_toNat_le.mp h2⟩
def deckOk (l : List Str) : Prop := ∀ z ∈ l, cardOk z
theorem deck_nil : deckOk [] := fun z h => nomatch h
theorem deck_app {l : List Str} {a : Str} (h : deckOk l) (ha : cardOk a) : deckOk (l ++ [a]) := all_app1 h ha
def codeAt (c : Int) (z : Str) : Nat := (codes z).getD (c - 1).toNat 0
def buckets (c : Int) (l : List Str) : List (List Str) := KN.map (fun s => l.filter (fun z => decide (codeAt c z = s)))
def dealt (c : Int) (l : List Str) : List Str := (buckets c l).flatten
def dealtAll : List Int → List Str → List Str
  | [], l => l
  | c :: r, l => dealtAll r (dealt c l)
def keyOf (cols : List Int) (z : Str) : List Nat := cols.map (fun c => codeAt c z)
def stepOf (l : List Str) (p : TO Str Int Str) : List Str := if p.x1 = "deal" then dealt p.x2 l else l.filter (fun z => decide (chS z (p.x2 - 1) = p.x3.getD default))
theorem sign_of {i : Int} (h0 : 0 ≤ i) (h1 : i < 37) : signOk (chS " 0123456789ABCDEFGHIJKLMNOPQRSTUVWXYZ" i) := by
  refine sign_in (z := " 0123456789ABCDEFGHIJKLMNOPQRSTUVWXYZ") ?_ h0 ?_
  · show ∀ c ∈ codes " 0123456789ABCDEFGHIJKLMNOPQRSTUVWXYZ", c ∈ KN
    decide +kernel
  · rw [show (" 0123456789ABCDEFGHIJKLMNOPQRSTUVWXYZ" : Str).length = 37 by decide +kernel]
    omega
theorem sign_mod (x : Int) : signOk (chS " 0123456789ABCDEFGHIJKLMNOPQRSTUVWXYZ" (x % 37)) := sign_of (Int.emod_nonneg _ (by decide)) (Int.emod_lt_of_pos _ (by decide))
def digL : Nat → Int → List Nat
  | 0, _ => []
  | w + 1, v => digL w (v / 10) ++ [48 + (v % 10).toNat]
theorem str_len (x : Int) : (toStr (x % ((10 : Int) ^ ((40 : Int)).toNat))).length ≤ 40 := by
  have hm : (0 : Int) < (10 : Int) ^ ((40 : Int)).toNat := by decide +kernel
  exact toStr_len 39 (Int.emod_nonneg _ (by omega)) (Int.emod_lt_of_pos _ hm)
theorem sz_le {n : Nat} (h : n ≤ 1000000) : n ≤ sizeLine := Nat.le_trans h (by decide)
theorem sz_lt {n : Nat} (h : n < 1000000) : n < sizeLine := Nat.lt_of_lt_of_le h (by decide)
/-- the walked range: what was walked, and the next -/
theorem range_mid {lo : Int} {n : Nat} {p r : List Int} {x : Int} (e : rangeL lo n = p ++ x :: r) : x = lo + (p.length : Int) ∧ p.length < n := by
  have h1 := len_mid e
  rw [rangeL_len] at h1
  have h2 : (rangeL lo n)[p.length]? = some x := by rw [e]; simp
  exact ⟨(rangeL_at h2).2, h1⟩
theorem rangeL_mem {lo : Int} {n : Nat} {x : Int} (h : x ∈ rangeL lo n) : lo ≤ x ∧ x < lo + (n : Int) := by
  unfold rangeL at h
  obtain ⟨i, hi, rfl⟩ := List.mem_map.mp h
  have := List.mem_range.mp hi
  omega
/-! the signs -/
theorem sgs_len : (" 0123456789ABCDEFGHIJKLMNOPQRSTUVWXYZ" : Str).length = 37 := by decide +kernel
theorem sgs_codes : codes (" 0123456789ABCDEFGHIJKLMNOPQRSTUVWXYZ" : Str) = KN := by decide +kernel
theorem sgs_ix {i : Int} (h0 : 0 ≤ i) (h1 : i < 37) : okIx (" 0123456789ABCDEFGHIJKLMNOPQRSTUVWXYZ" : Str) i := ⟨by rw [sgs_len]; decide, by rw [sgs_len]; unfold inR; omega⟩
theorem sgs_mod (x : Int) : okIx (" 0123456789ABCDEFGHIJKLMNOPQRSTUVWXYZ" : Str) (x % 37) := sgs_ix (Int.emod_nonneg _ (by decide)) (Int.emod_lt_of_pos _ (by decide))
/-! dealing: the same cards, in the order of the column, else as they were -/
end Cd

set_option Elab.async false
set_option linter.all false
set_option maxRecDepth 100000
set_option maxHeartbeats 4000000
namespace Cd
open PySem L2 PyProof.Rows
/-! ### a thing of one's own goes into a list of one's own -/
theorem Sep.tyL {K : Fr} {Z0 H0 Z H : Hp} {G : List Rt} {β : Type} {T : ShL β} {p : Addr} {l : β} (h : Sep K Z0 H0 Z H G) (i : Nat) (e : G[i]? = some ⟨Sh.lst T, .ref p, l⟩) : tyV K "list" (.ref p) H := by
  obtain ⟨ps, o⟩ := h.nth i e
  obtain ⟨p', xs, qs, e1, _, h1, _⟩ := o.r
  cases e1
  exact .inl ⟨rfl, xs, SqL.of h1⟩
end Cd

set_option Elab.async false
set_option linter.all false
set_option maxRecDepth 100000
set_option maxHeartbeats 4000000
namespace Cd
open PySem L2
/-! ### boards (plain) -/
def wireOk (w : Int × Int) : Prop := (1 ≤ w.1 ∧ w.1 ≤ 40) ∧ 1 ≤ w.2 ∧ w.2 ≤ 36
def boardOk (l : List (Int × Int)) : Prop := ∀ w ∈ l, wireOk w
theorem nodup_bound : ∀ (n : Nat) (l : List Int), l.Nodup → (∀ x ∈ l, 1 ≤ x ∧ x ≤ (n : Int)) → l.length ≤ n
  | 0, l, _, h => by
    cases l with
    | nil => exact Nat.le_refl _
    | cons a r => have := h a List.mem_cons_self; omega
  | n + 1, l, hn, h => by
    by_cases hm : ((n + 1 : Nat) : Int) ∈ l
    · have h1 := nodup_bound n (l.erase ((n + 1 : Nat) : Int)) (hn.erase _) (fun x hx => by
        have h2 := h x (List.mem_of_mem_erase hx)
        have h3 : x ≠ ((n + 1 : Nat) : Int) := fun e => hn.not_mem_erase (e ▸ hx)
        omega)
      rw [List.length_erase_of_mem hm] at h1
      omega
    · have h1 := nodup_bound n l hn (fun x hx => by
        have h2 := h x hx
        have h3 : x ≠ ((n + 1 : Nat) : Int) := fun e => hm (e ▸ hx)
        omega)
      omega
def swp (w : Int × Int) : Int × Int := (w.2, w.1)
/-- the board as the law writes it -/
def due (l : List (Int × Int)) : List (Int × Int) := (sortP (l.map swp)).map swp
/-! texts joined and split again -/
theorem map_mk (l : List Str) : (l.map codes).map SX.S = l := by
  rw [List.map_map]
  exact (List.map_congr_left fun x _ => mk_codes x).trans (List.map_id l)
theorem join_len {a : Str} {n : Nat} : ∀ {l : List Str}, (∀ x ∈ l, x.length ≤ n) → (Txt.join a l).length ≤ l.length * n + l.length * a.length := by
  have key : ∀ l : List Str, (∀ x ∈ l, x.length ≤ n) → (Str.join a l).length ≤ l.length * n + l.length * a.length := by
    intro l
    induction l with
    | nil => intro _; show (Str.empty).length ≤ _; rw [show Str.empty.length = 0 by decide +kernel]; omega
    | cons x r ih =>
      intro h
      have hx := h x List.mem_cons_self
      cases r with
      | nil => show x.length ≤ _; simp; omega
      | cons y r =>
        have := ih fun z hz => h z (List.mem_cons_of_mem _ hz)
        show (x ++ a ++ Str.join a (y :: r)).length ≤ _
        rw [len_app, len_app]
        simp only [List.length_cons] at this ⊢
        have e1 : (r.length + 1 + 1) * n = (r.length + 1) * n + n := by rw [Nat.add_mul (r.length + 1) 1 n, Nat.one_mul]
        have e2 : (r.length + 1 + 1) * a.length = (r.length + 1) * a.length + a.length := by rw [Nat.add_mul (r.length + 1) 1, Nat.one_mul]
        omega
  intro l h
  rw [show Txt.join a l = Str.join a l from PySem.StrLaws.glued_eq_join a l]
  exact key l h
/-! numbers up to forty as texts -/
def NumOk (n : Nat) : Bool := let z := toStr (n : Int); decide (PySem.intText? z = some (n : Int)) && (decide (z.length ≤ 2) && (decide (1 ≤ z.length) && (((codes z).all fun c => decide (48 ≤ c) && decide (c ≤ 57)) && (!decide (chS z 0 = ("0" : Str))))))
structure Num (z : Str) (n : Int) : Prop where
  it : PySem.intText? z = some n
  l2 : z.length ≤ 2
  l1 : 1 ≤ z.length
  fg : ∀ c ∈ codes z, 48 ≤ c ∧ c ≤ 57
  n0 : ¬ chS z 0 = "0"
theorem Num.int {z : Str} {n : Int} (h : Num z n) : intS z = n := by unfold intS; rw [h.it]; rfl
/-- a run of wires -/
def ex (p : (Int × Int) × (Int × Int)) : List (Int × Int) := (rangeL 0 (p.2.1 - p.1.1 + 1).toNat).map fun k => (p.1.1 + k, p.1.2 + k)
structure RunOk (p : (Int × Int) × (Int × Int)) : Prop where
  a : wireOk p.1
  b : wireOk p.2
  le : p.1.1 ≤ p.2.1
  w : p.2.1 - p.1.1 = p.2.2 - p.1.2
def sideT (a b : Int) : Str := if a = b then toStr a else toStr a ++ "-" ++ toStr b
def pieceT (p : (Int × Int) × (Int × Int)) : Str := sideT p.1.1 p.2.1 ++ ">" ++ sideT p.1.2 p.2.2
/-- the runs of a board -/
def rStep (rs : List ((Int × Int) × (Int × Int))) (w : Int × Int) : List ((Int × Int) × (Int × Int)) := match rs.getLast? with
  | none => [(w, w)]
  | some p => if w = (p.2.1 + 1, p.2.2 + 1) then rs.dropLast ++ [(p.1, w)] else rs ++ [(w, w)]
def runs (l : List (Int × Int)) : List ((Int × Int) × (Int × Int)) := l.foldl rStep []
end Cd

set_option Elab.async false
set_option linter.all false
set_option maxRecDepth 100000
set_option maxHeartbeats 4000000
namespace Cd
open PySem L2 PyProof.Rows
/-! ### a list of two taken apart by a target -/
end Cd

set_option Elab.async false
set_option linter.all false
set_option maxRecDepth 100000
set_option maxHeartbeats 4000000
/-! ### several except clauses, with names or without, and else -/
namespace L2
open PySem PySem.Spec PyProof.Rows
/-- the reading of a clause that names the refusal, in slot i -/
def asT (i : Nat) (ts : Addr → Value → Option Addr → TS) : Addr → Value → Option Addr → TS := fun a cls d D σ H =>
  ts a cls d { nx := fun σ' H' => D.nx (σ'.set i none) H', rt := D.rt, bk := fun σ' H' => D.bk (σ'.set i none) H', ct := fun σ' H' => D.ct (σ'.set i none) H' } (σ.set i (some (.ref a))) H
/-- the clauses, one after the other, and their readings -/
inductive HdsN (X : Cx) : List ExceptHandler → List (Value × (Addr → Value → Option Addr → TS)) → Prop
  | nil : HdsN X [] []
  | cons {x : Str} {c : Value} {ts : Addr → Value → Option Addr → TS} {b₀ : Stmt} {suite : List Stmt} {np pos' : Pos} {hds : List ExceptHandler} {l : List (Value × (Addr → Value → Option Addr → TS))} (hc : Names X x c)
      (hsu : ∀ (a : Addr) (oe : Obj) (cls : Value) (d : Option Addr) (pn : List (Addr × Obj)), Zc cls d oe → (∃ vs, oe.data = .fields vs) → PSs (X.suite a ((a, oe) :: pn)) (b₀ :: suite) (ts a cls d)) (r : HdsN X hds l) :
      HdsN X (.ExceptHandler (some (.Name x np)) none (b₀ :: suite) pos' :: hds) ((c, ts) :: l)
  | named {x n : Str} {i : Nat} {c : Value} {ts : Addr → Value → Option Addr → TS} {b₀ : Stmt} {suite : List Stmt} {np pos' : Pos} {hds : List ExceptHandler} {l : List (Value × (Addr → Value → Option Addr → TS))} (hN : X.N.Nodup) (hi : X.N[i]? = some n) (hln : X.env.kindOf n = some .local) (hc : Names X x c)
      (hsu : ∀ (a : Addr) (oe : Obj) (cls : Value) (d : Option Addr) (pn : List (Addr × Obj)), Zc cls d oe → (∃ vs, oe.data = .fields vs) → PSs (X.suite a ((a, oe) :: pn)) (b₀ :: suite) (ts a cls d)) (r : HdsN X hds l) :
      HdsN X (.ExceptHandler (some (.Name x np)) (some n) (b₀ :: suite) pos' :: hds) ((c, asT i ts) :: l)
section
variable {X : Cx} {body : List Stmt} {h₀ : ExceptHandler} {hds : List ExceptHandler} {l : List (Value × (Addr → Value → Option Addr → TS))} {pos : Pos} {tb : WX → TS} {Wout : WX}
theorem ps_try_manyN {orelse : List Stmt} {u : TS} (ho : PSs X orelse u) (hs : X.stack = X.env :: X.outer) (hf : X.env.frame = some X.env.locals) (tk : Takes X Wout)
    (hb : ∀ (W : WX) (pn : List (Addr × Obj)) (xe : Value → Shared → Prop), Takes (X.tr pn xe) W → PassesOwn (model X.prog X.w) X.A X.env xe → PSs (X.tr pn xe) body (tb W))
    (hh : HdsN X (h₀ :: hds) l) : PS X (.Try body (h₀ :: hds) orelse [] pos) (fun D σ H => tb (wMany X.K Wout D l) { D with nx := u D } σ H) := by
  refine ⟨fun pins s σ H D I h => ?_⟩
  have ok := I.ok
  have hfr : X.A.frames = some (X.env :: X.outer) := by rw [ok.frames, hs]
  refine wpAny_Try_except ?_
  refine wpAny_mono ((hb (wMany X.K Wout D l) (X.pn ++ pins) (fun e s₁ => wpAny (model X.prog X.w) X.A (noteFrame e X.env) (fun _ s₂ => wpAny (model X.prog X.w) X.A (setFlight e none) (fun _ s₃ =>
    wpAny (model X.prog X.w) X.A (handleBy e X.env (h₀ :: hds)) (SP X pins D) X.xe s₃) X.xe s₂) X.xe s₁) (fun w s' xx => ?_) PassesOwn.looking).run [] s σ H { D with nx := u D } (I.toTry _) h) (fun f s1 hsp => ?_) (fun e s1 he => he)
  · obtain ⟨a, B, sI, pins', σ', H', cls, d, rfl, J', nb, up, sky, na, os, ag, w⟩ := xx
    have J : Inv X pins σ' H' sI := J'.ofTry ok
    have sky' : Sky B (X.env :: X.outer) a (Zc cls d) X.env.locals s'.heap := by rw [← hs]; exact sky
    show wpAny (model X.prog X.w) X.A (noteFrame (.ref a) X.env) _ _ _
    refine Sky.land Zc.steady hfr hf sky' fun h3 fl3 up3 => ?_
    have J3 : Inv X pins σ' H' { s' with heap := h3 } := J.landed nb fl3.1 (up.trans up3) os ag
    obtain ⟨oe3, vs3, he3, hz3, hd3⟩ := fl3.there
    have nfr : a ∉ frs (X.env :: X.outer) := fun hm => by
      obtain ⟨_, o', e', hnf⟩ := fl3.2.2.1.mem hm
      rw [he3] at e'; cases e'
      exact hnf _ hd3
    have nL : a ≠ X.env.locals := fun z => nfr (List.mem_filterMap.mpr ⟨X.env, List.mem_cons_self, by rw [hf, z]⟩)
    have nF : a ∉ X.fs := fun hm => by
      obtain ⟨e, he, q⟩ := List.mem_filterMap.mp hm
      exact nfr (List.mem_filterMap.mpr ⟨e, List.mem_cons_of_mem _ he, q⟩)
    have S3 := J3.suite he3 hd3 na nL nF
    have test : ∀ {x : Str} {np : Pos} {c : Value}, Names X x c → ∀ {Q : Value → Shared → Prop} {E : Value → Shared → Prop}, Q c { s' with heap := h3 } → wpAny (model X.prog X.w) (X.A.mark (some (.ref a))) (eval (.Name x np) X.env) Q E { s' with heap := h3 } := fun {x np c} hc {Q E} q => by
      obtain ⟨hg, hdbg, hm | ⟨hm, hv, hnn⟩⟩ := hc
      · exact ld_glob (X := X.suite a ((a, oe3) :: (X.pn ++ pins))) S3 hg hm q hdbg
      · exact ld_blt (X := X.suite a ((a, oe3) :: (X.pn ++ pins))) S3 hg hm hv q hnn hdbg
    have LT : PySem.W.Looks (model X.prog X.w) h3 (typeOf (.ref a)) cls := fun A Q E s k q => wpAny_typeOf_ref (k _ _ he3) (by rw [hz3.1]; exact q)
    have go : ∀ {hds' : List ExceptHandler} {l' : List (Value × (Addr → Value → Option Addr → TS))}, HdsN X hds' l' → wMany X.K Wout D l' cls d σ' H' →
        wpAny (model X.prog X.w) X.A (handleBy (.ref a) X.env hds') (SP X pins D) X.xe { s' with heap := h3 } := by
      intro hds' l' hk
      induction hk with
      | nil =>
        intro w
        refine wpAny_handleBy_nil ?_
        obtain ⟨k1, k2, k3, oe, vs, T, oT, ts', he, hz, hd, h1, hr⟩ := id fl3
        unfold PySem.passOn
        refine wpAny_bind (wpAny_field he hd h1 ?_)
        rw [if_neg (show ¬ ((Value.ref T == Value.none) = true) from by simp)]
        have fin : wpAny (model X.prog X.w) X.A (setFlight (.ref a) X.env.frame) (fun _ s4 => wpAny (model X.prog X.w) X.A (throw (.ref a) : Sem Flow) (SP X pins D) X.xe s4) X.xe { s' with heap := h3 } := by
          rw [hf]
          refine HandSPX.setFlight_upZ fl3 fun h4 hh4 up4 => wpAny_throw (tk _ _ ?_)
          exact ⟨a, B, sI, pins, σ', H', cls, d, rfl, J, nb, (up.trans up3).trans up4, .inr (.inr (by rw [hs]; exact hh4)), na, os, ag, w⟩
        first
          | exact wpAny_bind (wpAny_pure (wpAny_bind fin))
          | exact wpAny_bind fin
      | @cons x c ts b₀ suite np pos' hds2 l2 hc hsu r ih =>
        intro w
        obtain ⟨b, hb1, hyes, hno⟩ := w
        refine wpAny_handleBy_cons (codeAny_handlers_test ?_) (by intro q; cases q)
        refine test hc ((PySem.W.exm_one (M := model X.prog X.w) (J3.kIn) LT hb1).here ?_)
        cases b with
        | true =>
          refine codeAny_handlers_suite (HandSPX.lands_againZ fl3 fun h4 fl4 up4 => ?_)
          have J4 : Inv X pins σ' H' { s' with heap := h4 } := J.landed nb fl4.1 ((up.trans up3).trans up4) os ag
          obtain ⟨oe4, vs4, he4, hz4, hd4⟩ := fl4.there
          refine wpAny_mono ((hsu a oe4 cls d (X.pn ++ pins) hz4 ⟨_, hd4⟩).run [] _ _ H' _ (J4.suite he4 hd4 na nL nF) (hyes rfl a na)) (fun f s6 hsp => ?_) (fun _ _ z => False.elim z)
          cases f with
          | next => obtain ⟨σ6, H6, S6, q6⟩ := hsp; exact ⟨_, _, S6.unsuite ok, q6⟩
          | brk => obtain ⟨σ6, H6, S6, q6⟩ := hsp; exact ⟨_, _, S6.unsuite ok, q6⟩
          | cont => obtain ⟨σ6, H6, S6, q6⟩ := hsp; exact ⟨_, _, S6.unsuite ok, q6⟩
          | ret u => obtain ⟨v6, σ6, H6, S6, r6, q6⟩ := hsp; exact ⟨_, _, _, S6.unsuite ok, r6, q6⟩
        | false =>
          show wpAny _ X.A (handleBy (.ref a) X.env hds2) _ _ _
          exact ih (hno rfl)
      | @named x n i c ts b₀ suite np pos' hds2 l2 hN hi hln hc hsu r ih =>
        intro w
        obtain ⟨b, hb1, hyes, hno⟩ := w
        refine wpAny_handleBy_cons (codeAny_handlers_test ?_) (by intro q; cases q)
        refine test hc ((PySem.W.exm_one (M := model X.prog X.w) (J3.kIn) LT hb1).here ?_)
        cases b with
        | true =>
          refine codeAny_handlers_suite_as (HandSPX.lands_againZ fl3 fun h4 fl4 up4 => ?_)
          have J4 : Inv X pins σ' H' { s' with heap := h4 } := J.landed nb fl4.1 ((up.trans up3).trans up4) os ag
          obtain ⟨oe4, vs4, he4, hz4, hd4⟩ := fl4.there
          refine store_ok (X := X.suite a ((a, oe4) :: (X.pn ++ pins))) (v := .ref a) (J4.suite he4 hd4 na nL nF) hN hi (.inl hln) rfl (fun s5 S5 => ?_) (.inr hln)
          refine wpAny_mono ((hsu a oe4 cls d (X.pn ++ pins) hz4 ⟨_, hd4⟩).run [] s5 _ H' _ S5 (hyes rfl a na)) (fun f s6 hsp => ?_) (fun _ _ z => False.elim z)
          have end_ : ∀ {σ6 : St} {H6 : Hp} {Q : Shared → Prop}, Inv (X.suite a ((a, oe4) :: (X.pn ++ pins))) [] σ6 H6 s6 → (∀ s7, Inv X pins (σ6.set i none) H6 s7 → Q s7) →
              wpAny (model X.prog X.w) X.A (do bindName X.env n .none; unbindBehindTheSuite X.env n pos') (fun _ s7 => Q s7) X.xe s6 := fun {σ6 H6 Q} S6 hq => gone_ok (S6.unsuite ok) hN hi hln hq
          cases f with
          | next => obtain ⟨σ6, H6, S6, q6⟩ := hsp; exact end_ S6 fun s7 J7 => ⟨_, _, J7, q6⟩
          | brk => obtain ⟨σ6, H6, S6, q6⟩ := hsp; exact end_ S6 fun s7 J7 => ⟨_, _, J7, q6⟩
          | cont => obtain ⟨σ6, H6, S6, q6⟩ := hsp; exact end_ S6 fun s7 J7 => ⟨_, _, J7, q6⟩
          | ret u => obtain ⟨v6, σ6, H6, S6, r6, q6⟩ := hsp; exact end_ S6 fun s7 J7 => ⟨_, _, _, J7, r6, q6⟩
        | false =>
          show wpAny _ X.A (handleBy (.ref a) X.env hds2) _ _ _
          exact ih (hno rfl)
    exact go hh w
  · cases f with
    | next => obtain ⟨σ', H', J', q⟩ := hsp; exact ho.run pins s1 σ' H' D (J'.ofTry ok) q
    | brk => obtain ⟨σ', H', J', q⟩ := hsp; exact ⟨σ', H', J'.ofTry ok, q⟩
    | cont => obtain ⟨σ', H', J', q⟩ := hsp; exact ⟨σ', H', J'.ofTry ok, q⟩
    | ret u => obtain ⟨v, σ', H', J', r, q⟩ := hsp; exact ⟨v, σ', H', J'.ofTry ok, r, q⟩
end
end L2
namespace Cd
open PySem L2
/-! ### a try, as a mirror -/
/-- what is not caught goes on -/
def R.tr {α β : Type} (m : R α) (k : α → R β) (f : Er → R β) : R β := match m with
  | .ok a => k a
  | .ex e => f e
  | .bad => .bad
theorem Good.tr {α β : Type} {m : R α} {k : α → R β} {f : Er → R β} {V : β → Prop} {E : Er → Prop} (h : Good (m.tr k f) V E) : Good m (fun a => Good (k a) V E) (fun e => Good (f e) V E) := by
  cases m with
  | ok a => exact h
  | ex e => exact h
  | bad => exact h
end Cd

set_option Elab.async false
set_option linter.all false
set_option maxRecDepth 100000
set_option maxHeartbeats 4000000
namespace Cd
open PySem L2 PyProof.Rows
/-! ### objects: a husk and its attributes, each a thing by itself -/
/-- an instance of the class that the module's name nm names -/
def Sh.objK {β : Type} (nm : Str) (ns : List Str) (T : ShL β) : Sh β where
  R := fun K Z H v ps b => ∃ C, PySem.W.nsIn K mainGlobals nm = some (some (.ref C)) ∧ (Sh.ins C ns T).R K Z H v ps b
  keep := fun s h ⟨C, e, r⟩ => ⟨C, e, (Sh.ins C ns T).keep s h r⟩
  stands := fun ⟨C, _, r⟩ q hq => (Sh.ins C ns T).stands r q hq
/-- the object without its attributes' things: what it holds is the list of its attributes' values -/
def Sh.husk (nm : Str) (ns : List Str) : Sh (List V) where
  R := fun K Z H v ps vs => ∃ C p dx, PySem.W.nsIn K mainGlobals nm = some (some (.ref C)) ∧ v = .ref p ∧ ps = [p, dx] ∧ H p = some (.ins C dx (ns.zip vs)) ∧ H dx = some (.own p) ∧ vs.length = ns.length
  keep := fun s h ⟨C, p, dx, e0, e1, e2, h1, h2, hl⟩ => ⟨C, p, dx, e0, e1, e2, (h p (by rw [e2]; simp)).trans h1, (h dx (by rw [e2]; simp)).trans h2, hl⟩
  stands := fun ⟨C, p, dx, e0, e1, e2, h1, h2, hl⟩ q hq => by
    rw [e2] at hq
    rcases List.mem_cons.mp hq with rfl | hq
    · exact ⟨_, h1⟩
    · rw [List.mem_singleton] at hq; subst hq; exact ⟨_, h2⟩
/-- the attributes' things, at the values vs -/
def Sh.rowS {β : Type} (T : ShL β) (vs : List V) : Sh β where
  R := fun K Z H _ ps b => T.R K Z H vs ps b
  keep := fun s h r => T.keep s h r
  stands := fun r q hq => T.stands r q hq
section
variable {K : Fr} {Z0 H0 Z H : Hp} {G : List Rt} {α β γ : Type}
theorem Sep.split2 {S1 : Sh α} {S2 : Sh β} {S3 : Sh γ} {v1 v2 v3 : V} {a1 : α} {a2 : β} {a3 : γ} (h : Sep K Z0 H0 Z H (⟨S3, v3, a3⟩ :: G)) {f : Nat → List Addr} (hf : f = f)
    (c : ∀ rs, S3.R K Z H v3 rs a3 → ∃ ps qs, rs = ps ++ qs ∧ S1.R K Z H v1 ps a1 ∧ S2.R K Z H v2 qs a2) : Sep K Z0 H0 Z H (⟨S1, v1, a1⟩ :: ⟨S2, v2, a2⟩ :: G) := by
  obtain ⟨st, f, h1, h2⟩ := h
  have o : OwnO S3 K H0 Z H v3 (f 0) a3 := h1 0 _ rfl
  obtain ⟨ps, qs, e, r1, r2⟩ := c _ o.r
  obtain ⟨n1, n2, n3⟩ := List.nodup_append.mp (e ▸ o.nd)
  have i1 : ∀ q ∈ ps, q ∈ f 0 := fun q hq => by rw [e]; exact List.mem_append_left _ hq
  have i2 : ∀ q ∈ qs, q ∈ f 0 := fun q hq => by rw [e]; exact List.mem_append_right _ hq
  refine ⟨st, fun i => match i with | 0 => ps | 1 => qs | i + 2 => f (i + 1), fun i r er => ?_, fun i j r s ne er es => ?_⟩
  · match i with
    | 0 => simp only [List.getElem?_cons_zero, Option.some.injEq] at er; subst er; exact ⟨r1, n1, fun q hq => o.nz q (i1 q hq), fun q hq => o.n0 q (i1 q hq)⟩
    | 1 => simp only [List.getElem?_cons_succ, List.getElem?_cons_zero, Option.some.injEq] at er; subst er; exact ⟨r2, n2, fun q hq => o.nz q (i2 q hq), fun q hq => o.n0 q (i2 q hq)⟩
    | i + 2 => exact h1 (i + 1) r (by simpa using er)
  · have key : ∀ i r, G[i]? = some r → ∀ q ∈ f (i + 1), q ∉ f 0 := fun i r e => h2 (i + 1) 0 r _ (by omega) (by simpa using e) rfl
    match i, j with
    | 0, 0 => exact (ne rfl).elim
    | 0, 1 => exact fun q hq hq2 => n3 q hq q hq2 rfl
    | 1, 0 => exact fun q hq hq2 => n3 q hq2 q hq rfl
    | 1, 1 => exact (ne rfl).elim
    | 0, j + 2 => exact fun q hq hq2 => key j s (by simpa using es) q hq2 (i1 q hq)
    | 1, j + 2 => exact fun q hq hq2 => key j s (by simpa using es) q hq2 (i2 q hq)
    | i + 2, 0 => exact fun q hq hq2 => key i r (by simpa using er) q hq (i1 q hq2)
    | i + 2, 1 => exact fun q hq hq2 => key i r (by simpa using er) q hq (i2 q hq2)
    | i + 2, j + 2 => exact h2 (i + 1) (j + 1) r s (by omega) (by simpa using er) (by simpa using es)
theorem Sep.join2 {S1 : Sh α} {S2 : Sh β} {S3 : Sh γ} {v1 v2 v3 : V} {a1 : α} {a2 : β} {a3 : γ} (h : Sep K Z0 H0 Z H (⟨S1, v1, a1⟩ :: ⟨S2, v2, a2⟩ :: G))
    (c : ∀ ps qs, S1.R K Z H v1 ps a1 → S2.R K Z H v2 qs a2 → S3.R K Z H v3 (ps ++ qs) a3) : Sep K Z0 H0 Z H (⟨S3, v3, a3⟩ :: G) := by
  obtain ⟨st, f, h1, h2⟩ := h
  have o : OwnO S1 K H0 Z H v1 (f 0) a1 := h1 0 _ rfl
  have o2 : OwnO S2 K H0 Z H v2 (f 1) a2 := h1 1 _ rfl
  refine ⟨st, fun i => match i with | 0 => f 0 ++ f 1 | i + 1 => f (i + 2), fun i r er => ?_, fun i j r s ne er es => ?_⟩
  · match i with
    | 0 =>
      simp only [List.getElem?_cons_zero, Option.some.injEq] at er
      subst er
      exact ⟨c _ _ o.r o2.r, List.nodup_append.mpr ⟨o.nd, o2.nd, fun x hx y hy e => h2 0 1 _ _ (by decide) rfl rfl x hx (e ▸ hy)⟩, fun q hq => (List.mem_append.mp hq).elim (o.nz q) (o2.nz q), fun q hq => (List.mem_append.mp hq).elim (o.n0 q) (o2.n0 q)⟩
    | i + 1 => exact h1 (i + 2) r (by simpa using er)
  · have key : ∀ i r, G[i]? = some r → ∀ q ∈ f (i + 2), q ∉ f 0 ++ f 1 := fun i r e q hq hm => by
      rcases List.mem_append.mp hm with hm | hm
      · exact h2 (i + 2) 0 r _ (by omega) (by simpa using e) rfl q hq hm
      · exact h2 (i + 2) 1 r _ (by omega) (by simpa using e) rfl q hq hm
    match i, j with
    | 0, 0 => exact (ne rfl).elim
    | 0, j + 1 => exact fun q hq hq2 => key j s (by simpa using es) q hq2 hq
    | i + 1, 0 => exact fun q hq hq2 => key i r (by simpa using er) q hq hq2
    | i + 1, j + 1 => exact h2 (i + 2) (j + 2) r s (by omega) (by simpa using er) (by simpa using es)
/-- an object is opened -/
theorem Sep.opnObj {nm : Str} {ns : List Str} {T : ShL β} {f : α → β} {v : V} {a : α} (h : Sep K Z0 H0 Z H (⟨(Sh.objK nm ns T).via f, v, a⟩ :: G)) :
    ∃ p vs, v = .ref p ∧ vs.length = ns.length ∧ Sep K Z0 H0 Z H (⟨Sh.husk nm ns, .ref p, vs⟩ :: ⟨Sh.rowS T vs, .non, f a⟩ :: G) := by
  obtain ⟨ps, o⟩ := h.nth 0 rfl
  obtain ⟨C, eC, p, dx, xs, qs, e1, e2, h1, h2, hl, h3⟩ := o.r
  have e1 : v = .ref p := e1
  subst e1
  refine ⟨p, xs, rfl, hl, h.split2 (f := fun _ => []) rfl fun rs r => ?_⟩
  obtain ⟨C', eC', p', dx', xs', qs', e1', e2', h1', h2', hl', h3'⟩ := r
  cases e1'
  rw [h1] at h1'
  injection h1' with h1'
  injection h1' with i1 i2 h5
  subst i2
  have ex : xs = xs' := by
    have h6 := congrArg (List.map Prod.snd) h5
    rw [List.map_snd_zip (by omega), List.map_snd_zip (by omega)] at h6
    exact h6
  subst ex
  exact ⟨[p, dx], qs', by rw [e2']; rfl, ⟨C, p, dx, eC, rfl, rfl, h1, h2, hl⟩, h3'⟩
/-- .. and closed -/
theorem Sep.clsObj {nm : Str} {ns : List Str} {T : ShL β} {f : α → β} {v : V} {vs : List V} {a : α} {b : β} (e : b = f a) (h : Sep K Z0 H0 Z H (⟨Sh.husk nm ns, v, vs⟩ :: ⟨Sh.rowS T vs, .non, b⟩ :: G)) : Sep K Z0 H0 Z H (⟨(Sh.objK nm ns T).via f, v, a⟩ :: G) := by
  subst e
  refine h.join2 fun ps qs r1 r2 => ?_
  obtain ⟨C, p, dx, e0, e1, e2, h1, h2, hl⟩ := r1
  exact ⟨C, e0, p, dx, vs, qs, e1, by rw [e2]; rfl, h1, h2, hl, r2⟩
theorem Sep.unrow {S : Sh α} {T : ShL β} {vs : List V} {c : α × β} (h : Sep K Z0 H0 Z H (⟨Sh.rowS (ShL.cons S T) vs, .non, c⟩ :: G)) :
    ∃ v ws, vs = v :: ws ∧ Sep K Z0 H0 Z H (⟨S, v, c.1⟩ :: ⟨Sh.rowS T ws, .non, c.2⟩ :: G) := by
  obtain ⟨ps, o⟩ := h.nth 0 rfl
  obtain ⟨v, ws, qs, rs, e1, e2, r1, r2⟩ := o.r
  have e1 : vs = v :: ws := e1
  subst e1
  refine ⟨v, ws, rfl, h.split2 (f := fun _ => []) rfl fun ts r => ?_⟩
  obtain ⟨v', ws', qs', rs', e1', e2', r1', r2'⟩ := r
  cases e1'
  exact ⟨qs', rs', e2', r1', r2'⟩
theorem Sep.nilrow {vs : List V} {c : Unit} (h : Sep K Z0 H0 Z H (⟨Sh.rowS ShL.nil vs, .non, c⟩ :: G)) : vs = [] ∧ Sep K Z0 H0 Z H G := by
  obtain ⟨ps, o⟩ := h.nth 0 rfl
  exact ⟨o.r.1, h.drop⟩
theorem Sep.mknil (h : Sep K Z0 H0 Z H G) : Sep K Z0 H0 Z H (⟨Sh.rowS ShL.nil [], .non, ()⟩ :: G) :=
  h.pushO (ps := []) ⟨⟨rfl, rfl⟩, List.nodup_nil, (fun _ h => nomatch h), (fun _ h => nomatch h)⟩ fun _ _ _ _ _ _ _ h => nomatch h
theorem Sep.mkrow {S : Sh α} {T : ShL β} {v : V} {ws : List V} {a : α} {b : β} (h : Sep K Z0 H0 Z H (⟨S, v, a⟩ :: ⟨Sh.rowS T ws, .non, b⟩ :: G)) : Sep K Z0 H0 Z H (⟨Sh.rowS (ShL.cons S T) (v :: ws), .non, (a, b)⟩ :: G) :=
  h.join2 fun ps qs r1 r2 => ⟨v, ws, ps, qs, rfl, rfl, r1, r2⟩
end
end Cd

set_option Elab.async false
set_option linter.all false
set_option maxRecDepth 100000
set_option maxHeartbeats 4000000
namespace Cd
open PySem L2 PyProof.Rows
instance {β : Type} {nm : Str} {ns : List Str} {T : ShL β} : IsRef (Sh.objK nm ns T) := ⟨fun ⟨_, _, p, _, _, _, e, _⟩ => ⟨p, e⟩⟩
instance {nm : Str} {ns : List Str} : IsRef (Sh.husk nm ns) := ⟨fun ⟨_, p, _, _, e, _⟩ => ⟨p, e⟩⟩
theorem zip_none : ∀ {ns : List Str} {xs : List V} {m : Str}, m ∉ ns → (ns.zip xs).lookup m = none
  | [], _, _, _ => rfl
  | n :: r, [], _, _ => rfl
  | n :: r, x :: xs, m, h => by
    rw [List.zip_cons_cons, List.lookup_cons]
    have h1 : ¬ m = n := fun e => h (by rw [e]; exact List.mem_cons_self)
    rw [show (m == n) = false by simpa using h1]
    exact zip_none fun q => h (List.mem_cons_of_mem _ q)
section
variable {K : Fr} {Z0 H0 Z H : Hp} {G : List Rt} {α β : Type} {nm : Str} {ns : List Str} {p A : Addr} {vs : List V} {Q : VK}
theorem Sep.hus (h : Sep K Z0 H0 Z H G) (i : Nat) (e : G[i]? = some ⟨Sh.husk nm ns, .ref p, vs⟩) (nk : PySem.W.nsIn K mainGlobals nm = some (some (.ref A))) : ∃ dx, H p = some (.ins A dx (ns.zip vs)) ∧ H dx = some (.own p) ∧ vs.length = ns.length := by
  obtain ⟨ps, o⟩ := h.nth i e
  obtain ⟨C, p', dx, e0, e1, e2, h1, h2, hl⟩ := o.r
  cases e1
  rw [nk] at e0
  cases e0
  exact ⟨dx, h1, h2, hl⟩
/-- self.f -/
theorem Sep.fld {f : Str} {v : V} {P : V → Prop} (h : Sep K Z0 H0 Z H G) (i : Nat) (e : G[i]? = some ⟨Sh.husk nm ns, .ref p, vs⟩) (nk : PySem.W.nsIn K mainGlobals nm = some (some (.ref A))) (cl : Cls K A) (na : NoAttr K A f) (lk : (ns.zip vs).lookup f = some v) (k : P v) :
    ∃ a C dx fs v, V.ref p = .ref a ∧ H a = some (.ins C dx fs) ∧ Cls K C ∧ NoAttr K C f ∧ fs.lookup f = some v ∧ P v := by
  obtain ⟨dx, h1, _, _⟩ := h.hus i e nk
  exact ⟨p, A, dx, _, v, rfl, h1, cl, na, lk, k⟩
theorem Sep.put0 {f : Str} {v : V} {ns' : List Str} {vs' : List V} {dx : Addr} (h : Sep K Z0 H0 Z H G) (i : Nat) (e : G[i]? = some ⟨Sh.husk nm ns, .ref p, vs⟩) (nk : PySem.W.nsIn K mainGlobals nm = some (some (.ref A))) (hd : H p = some (.ins A dx (ns.zip vs))) (e2 : putF f v (ns.zip vs) = ns'.zip vs') (hl : vs'.length = ns'.length) :
    Sep K Z0 H0 Z (upd H p (.ins A dx (putF f v (ns.zip vs)))) (G.set i ⟨Sh.husk nm ns', .ref p, vs'⟩) := by
  obtain ⟨ps, o, g⟩ := h.chg1 i e
  obtain ⟨⟨C, p', dx', e0, e1, e3, h1, h2, _⟩, nd, nz, n0⟩ := o
  cases e1
  rw [nk] at e0
  cases e0
  rw [hd] at h1
  injection h1 with h1
  injection h1 with _ i2 _
  subst i2
  have hp : p ∈ ps := by rw [e3]; simp
  have hne : dx ≠ p := fun q => by rw [q, hd] at h2; cases h2
  refine g p _ _ hp ⟨⟨A, p, dx, nk, rfl, e3, ?_, ?_, hl⟩, nd, nz, n0⟩
  · rw [upd_same, e2]
  · rw [upd_ne hne]; exact h2
/-- self.f = v -/
theorem Sep.put {f : Str} {v : V} {ns' : List Str} {vs' : List V} {P : Hp → Prop} (h : Sep K Z0 H0 Z H G) (i : Nat) (e : G[i]? = some ⟨Sh.husk nm ns, .ref p, vs⟩) (nk : PySem.W.nsIn K mainGlobals nm = some (some (.ref A))) (cl : Cls K A) (na : NoAttr K A f) (hn : (ns.zip vs).length < 1000) (e2 : putF f v (ns.zip vs) = ns'.zip vs') (hl : vs'.length = ns'.length)
    (k : ∀ H', Sep K Z0 H0 Z H' (G.set i ⟨Sh.husk nm ns', .ref p, vs'⟩) → P H') : ∃ a C dx fs, V.ref p = .ref a ∧ H a = some (.ins C dx fs) ∧ Cls K C ∧ NoAttr K C f ∧ fs.length < 1000 ∧ P (upd H a (.ins C dx (putF f v fs))) := by
  obtain ⟨dx, h1, _, _⟩ := h.hus i e nk
  exact ⟨p, A, dx, _, rfl, h1, cl, na, hn, k _ (h.put0 i e nk h1 e2 hl)⟩
/-- an object of one's own, its method looked up -/
theorem Sep.mth {T : ShL β} {f : α → β} {a : α} {m : Str} {P : Prop} (h : Sep K Z0 H0 Z H G) (i : Nat) (e : G[i]? = some ⟨(Sh.objK nm ns T).via f, .ref p, a⟩) (nk : PySem.W.nsIn K mainGlobals nm = some (some (.ref A))) (hm : m ∉ ns) (k : P) : ∃ a dx fs, V.ref p = .ref a ∧ H a = some (.ins A dx fs) ∧ fs.lookup m = none ∧ P := by
  obtain ⟨ps, o⟩ := h.nth i e
  obtain ⟨C, eC, p', dx, xs, qs, e1, e2, h1, h2, hl, h3⟩ := o.r
  cases e1
  rw [nk] at eC
  cases eC
  exact ⟨p, dx, _, rfl, h1, zip_none hm, k⟩
/-! rows at the head -/
theorem Sep.swap {r s : Rt} (h : Sep K Z0 H0 Z H (r :: s :: G)) : Sep K Z0 H0 Z H (s :: r :: G) := by
  obtain ⟨c, f, h1, h2⟩ := h
  have ix : ∀ (i : Nat) (t : Rt), (s :: r :: G)[i]? = some t → (r :: s :: G)[match i with | 0 => 1 | 1 => 0 | i => i]? = some t := fun i t e => by
    match i with
    | 0 => exact e
    | 1 => exact e
    | i + 2 => exact e
  refine ⟨c, fun i => f (match i with | 0 => 1 | 1 => 0 | i => i), fun i t e => h1 _ t (ix i t e), fun i j t u ne e1 e2 => h2 _ _ t u ?_ (ix i t e1) (ix j u e2)⟩
  match i, j with
  | 0, 0 => exact (ne rfl).elim
  | 1, 1 => exact (ne rfl).elim
  | 0, 1 => decide
  | 1, 0 => decide
  | 0, j + 2 => show 1 ≠ j + 2; omega
  | 1, j + 2 => show 0 ≠ j + 2; omega
  | i + 2, 0 => show i + 2 ≠ 1; omega
  | i + 2, 1 => show i + 2 ≠ 0; omega
  | i + 2, j + 2 => exact ne
theorem Sep.unr {S : Sh α} {T : ShL β} {vs : List V} {c : α × β} (h : Sep K Z0 H0 Z H (⟨Sh.rowS (ShL.cons S T) vs, .non, c⟩ :: G)) : ∃ v ws, vs = v :: ws ∧ Sep K Z0 H0 Z H (⟨Sh.rowS T ws, .non, c.2⟩ :: ⟨S, v, c.1⟩ :: G) := by
  obtain ⟨v, ws, e, h2⟩ := h.unrow
  exact ⟨v, ws, e, h2.swap⟩
theorem Sep.mkr {S : Sh α} {T : ShL β} {v : V} {ws : List V} {a : α} {b : β} (h : Sep K Z0 H0 Z H (⟨Sh.rowS T ws, .non, b⟩ :: ⟨S, v, a⟩ :: G)) : Sep K Z0 H0 Z H (⟨Sh.rowS (ShL.cons S T) (v :: ws), .non, (a, b)⟩ :: G) := h.swap.mkrow
theorem Sep.clsO {T : ShL β} {f : α → β} {v : V} {vs : List V} {a : α} {b : β} (e : b = f a) (h : Sep K Z0 H0 Z H (⟨Sh.rowS T vs, .non, b⟩ :: ⟨Sh.husk nm ns, v, vs⟩ :: G)) : Sep K Z0 H0 Z H (⟨(Sh.objK nm ns T).via f, v, a⟩ :: G) := Sep.clsObj e h.swap
theorem Sep.opnO {T : ShL β} {f : α → β} {v : V} {a : α} (h : Sep K Z0 H0 Z H (⟨(Sh.objK nm ns T).via f, v, a⟩ :: G)) :
    ∃ p vs, v = .ref p ∧ vs.length = ns.length ∧ Sep K Z0 H0 Z H (⟨Sh.rowS T vs, .non, f a⟩ :: ⟨Sh.husk nm ns, .ref p, vs⟩ :: G) := by
  obtain ⟨p, vs, e1, e2, h2⟩ := h.opnObj
  exact ⟨p, vs, e1, e2, h2.swap⟩
/-- two of them, apart -/
theorem Sep.nth2 (h : Sep K Z0 H0 Z H G) (i j : Nat) {r s : Rt} (ne : i ≠ j) (e : G[i]? = some r) (e2 : G[j]? = some s) : ∃ ps qs, OwnO r.S K H0 Z H r.v ps r.a ∧ OwnO s.S K H0 Z H s.v qs s.a ∧ ∀ q ∈ ps, q ∉ qs := by
  obtain ⟨c, f, h1, h2⟩ := h
  exact ⟨f i, f j, h1 i r e, h1 j s e2, h2 i j r s ne e e2⟩
end
/-! ### new objects, methods -/
theorem Sep.newH {K : Fr} {Z H : Hp} {nm : Str} {C p dx : Addr} (zh : Same Z (delL H [p, dx])) (nk : PySem.W.nsIn K mainGlobals nm = some (some (.ref C))) (hp : H p = some (.ins C dx [])) (hd : H dx = some (.own p)) : Sep K Z (delL H [p, dx]) Z H [⟨Sh.husk nm [], .ref p, []⟩] := by
  have ne : dx ≠ p := fun e => by rw [e, hp] at hd; cases hd
  have st : Step Z (delL H [p, dx]) Z H := Step.lent (zh.trans delL_same)
  refine (Sep.base (K := K) st).pushO (ps := [p, dx]) ⟨⟨C, p, dx, nk, rfl, rfl, hp, hd, rfl⟩, ?_, fun q hq => zh.free (delL_in hq), fun q hq => delL_in hq⟩ fun _ _ _ _ e => by simp at e
  exact List.nodup_cons.mpr ⟨fun h => ne (List.mem_singleton.mp h).symm, by simp⟩
theorem new_zh {Z H : Hp} {x dx C : Addr} (zh : Same Z H) (nx : H x = none) (ndx : H dx = none) (ne : dx ≠ x) : Same Z (delL (upd (upd H dx (.own x)) x (.ins C dx [])) [x, dx]) := by rw [del_new nx ndx ne]; exact zh
theorem new_dx {H : Hp} {x dx C : Addr} (ne : dx ≠ x) : (upd (upd H dx (.own x)) x (.ins C dx [])) dx = some (.own x) := by rw [upd_ne ne, upd_same]
structure MetX (P : Program) (w : World) (K : PySem.W.Frag) (mg : Str → Option Value) (base : Heap) (CX : CXT) (k : Nat) (C : Addr) (m : Str) (ps : List Str) (sp : Sp) : Prop where
  ex : ∃ (f : Addr) (fd : FuncData), Cls K C ∧ Meth K C m f ∧ FnOk P w K mg base CX k f fd ps sp ∧ Binds K fd ps []
structure MakX (P : Program) (w : World) (K : PySem.W.Frag) (mg : Str → Option Value) (base : Heap) (CX : CXT) (k : Nat) (x : Str) (C : Addr) (ps : List Str) (sp : Sp) : Prop where
  ex : ∃ (f : Addr) (fd : FuncData), Mk K C f ∧ FnOk P w K mg base CX k f fd ps sp ∧ mg x = some (.ref C) ∧ Binds K fd ps []
section
variable {X : Cx} {CX : CXT} {k : Nat} {C : Addr} {x m : Str} {ps : List Str} {sp : Sp} {E : XK} {ta : TE} {t : TA} {o e : Expr} {es : List Expr} {p pos apos : Pos}
theorem pe_mtX {pl : Sem Bool} (c : MetX X.prog X.w X.K X.mg X.base CX k C m ps sp) (hr : Room k X.A) (hx : Passes CX X E) (he : PE X o ta) (ha : PA X (e :: es) t)
    (hst : starEach (e :: es) X.env = (false, eval e X.env) :: starEach es X.env := by rfl) (hpl : (backTo pos (starEach es X.env)).any (·.1) = false := by rfl)
    (ht : eval (.Call (.Attribute o m apos) (e :: es) [] pos) X.env = (do
      let ov ← eval o X.env
      standAt apos.atName
      let (f, first) ← holding [ov] (getMethod ov m pl)
      callWith pos f first (backTo pos (starEach (e :: es) X.env)) (backToKw pos (keywordEach [] X.env))) := by rfl) :
    PE X (.Call (.Attribute o m apos) (e :: es) [] pos) (tMeth C m sp [] E ta t) := by
  obtain ⟨f, fd, cl, hm, F, hb⟩ := c.ex
  exact pe_meth he cl hm F hr hb .nil hx ha hst hpl ht
theorem pe_mkX0 (c : MakX X.prog X.w X.K X.mg X.base CX k x C ps sp) (hr : Room (k + 1) X.A) (hx : Passes CX X E) (hg : Gl X x := by rfl) (hdb : (x == ("__debug__" : Str)) = false := by decide) : PE X (.Call (.Name x p) [] [] pos) (tMake C sp [] E tNil) := by
  obtain ⟨f, fd, M, F, hm, hb⟩ := c.ex
  exact pe_make0 M F hr hg hm hb .nil hx hdb
end
end Cd

set_option Elab.async false
set_option linter.all false
set_option maxRecDepth 100000
set_option maxHeartbeats 4000000
namespace Cd
open PySem L2 PyProof.Rows
/-! ### a thing lent to be changed; with it comes a new thing -/
theorem Sep.lendO {K : Fr} {Z0 H0 Z H : Hp} {G : List Rt} {α : Type} {S : Sh α} {v : V} {a : α} (h : Sep K Z0 H0 Z H G) (i : Nat) (e : G[i]? = some ⟨S, v, a⟩) : ∃ ps, (S.R K Z H v ps a ∧ ps.Nodup ∧ ∀ q ∈ ps, Z q = none) ∧
    ∀ {Z' H' : Hp} {ps' qs : List Addr} {β γ : Type} {S' : Sh β} {T : Sh γ} {b : β} {c : γ} {w : V}, Step Z (delL H ps) Z' H' → OwnO S' K (delL H ps) Z' H' v ps' b → OwnO T K (delL H ps) Z' H' w qs c → (∀ q ∈ ps', q ∉ qs) → Sep K Z0 H0 Z' H' (⟨T, w, c⟩ :: G.set i ⟨S', v, b⟩) := by
  obtain ⟨st0, f, h1, h2⟩ := h
  have o : OwnO S K H0 Z H v (f i) a := h1 i _ e
  refine ⟨f i, ⟨o.r, o.nd, o.nz⟩, fun {Z' H' ps' qs β γ S' T b c w} st o1 o2 hd => ?_⟩
  have hf : ∀ {rs : List Addr}, (∀ q ∈ rs, delL H (f i) q = none) → ∀ q ∈ rs, q ∈ f i ∨ H q = none := fun {rs} hn q hq => by
    by_cases m : q ∈ f i
    · exact .inl m
    · exact .inr (by have := hn q hq; rw [delL_out m] at this; exact this)
  have n0 : ∀ {rs : List Addr}, (∀ q ∈ rs, delL H (f i) q = none) → ∀ q ∈ rs, H0 q = none := fun {rs} hn q hq => (hf hn q hq).elim (o.n0 q) fun x => st0.hh.free x
  have old : ∀ j t, j ≠ i → (G.set i ⟨S', v, b⟩)[j]? = some t → G[j]? = some t := fun j t q ej => by rw [List.getElem?_set, if_neg (fun x => q x.symm)] at ej; exact ej
  have at_ : ∀ t, (G.set i ⟨S', v, b⟩)[i]? = some t → t = ⟨S', v, b⟩ := fun t ej => by
    rw [List.getElem?_set, if_pos rfl] at ej
    split at ej
    · cases ej; rfl
    · cases ej
  have far : ∀ j t, j ≠ i → G[j]? = some t → ∀ {rs : List Addr}, (∀ q ∈ rs, delL H (f i) q = none) → ∀ q ∈ f j, q ∉ rs := fun j t qj ej rs hn q hq hm => by
    rcases hf hn q hm with h | h
    · exact h2 j i t _ qj ej e q hq h
    · obtain ⟨u, hu⟩ := (h1 j t ej).stands q hq
      rw [h] at hu; cases hu
  refine ⟨st0.back o.n0 st, fun k => match k with | 0 => qs | j + 1 => if j = i then ps' else f j, fun k r ek => ?_, fun k l r s ne ek el => ?_⟩
  · cases k with
    | zero => simp only [List.getElem?_cons_zero, Option.some.injEq] at ek; subst ek; exact ⟨o2.r, o2.nd, o2.nz, n0 o2.n0⟩
    | succ j =>
      simp only [List.getElem?_cons_succ] at ek
      by_cases q : j = i
      · subst q
        rw [at_ r ek]
        show OwnO S' K H0 Z' H' v (if j = j then ps' else f j) b
        rw [if_pos rfl]; exact ⟨o1.r, o1.nd, o1.nz, n0 o1.n0⟩
      · have ej := old j r q ek
        show OwnO r.S K H0 Z' H' r.v (if j = i then ps' else f j) r.a
        rw [if_neg q]
        have oj := h1 j r ej
        refine oj.keep st.zz (fun x hx => ?_) fun x hx => ?_
        · obtain ⟨u, hu⟩ := oj.stands x hx
          rw [hu]
          exact st.hh _ _ (by rw [delL_out (h2 j i r _ q ej e x hx)]; exact hu)
        · obtain ⟨u, hu⟩ := oj.stands x hx
          exact st.fr _ _ (by rw [delL_out (h2 j i r _ q ej e x hx)]; exact hu)
  · have key : ∀ j t, (G.set i ⟨S', v, b⟩)[j]? = some t → ∀ q ∈ (if j = i then ps' else f j), q ∉ qs := fun j t ej => by
      by_cases q : j = i
      · rw [if_pos q]; exact hd
      · rw [if_neg q]; exact far j t q (old j t q ej) o2.n0
    cases k with
    | zero =>
      cases l with
      | zero => exact (ne rfl).elim
      | succ l => intro q hq hq2; simp only [List.getElem?_cons_succ] at el; exact key l s el q hq2 hq
    | succ k =>
      cases l with
      | zero => intro q hq hq2; simp only [List.getElem?_cons_succ] at ek; exact key k r ek q hq hq2
      | succ l =>
        simp only [List.getElem?_cons_succ] at ek el
        show ∀ q ∈ (if k = i then ps' else f k), q ∉ (if l = i then ps' else f l)
        by_cases qk : k = i
        · by_cases ql : l = i
          · exact (ne (by rw [qk, ql])).elim
          · rw [if_pos qk, if_neg ql]
            exact fun q hq hq2 => far l s ql (old l s ql el) o1.n0 q hq2 hq
        · by_cases ql : l = i
          · rw [if_neg qk, if_pos ql]; exact far k r qk (old k r qk ek) o1.n0
          · rw [if_neg qk, if_neg ql]; exact h2 k l r s (fun x => ne (by rw [x])) (old k r qk ek) (old l s ql el)
end Cd

set_option Elab.async false
set_option linter.all false
set_option maxRecDepth 100000
set_option maxHeartbeats 4000000
namespace Cd
open PySem L2 PyProof.Rows
/-! ### objects as told data -/
class PyRow (β : Type) where
  R : Fr → Hp → List V → β → Prop
  mono : ∀ {K : Fr} {Z Z' : Hp} {vs : List V} {b : β}, Same Z Z' → R K Z vs b → R K Z' vs b
instance : PyRow Unit := ⟨fun _ _ vs _ => vs = [], fun _ h => h⟩
instance {α β : Type} [Py α] [PyRow β] : PyRow (α × β) := ⟨fun K Z vs c => ∃ v ws, vs = v :: ws ∧ Py.R K Z v c.1 ∧ PyRow.R K Z ws c.2, fun s ⟨v, ws, e, h1, h2⟩ => ⟨v, ws, e, Py.mono s h1, PyRow.mono s h2⟩⟩
def objR {β : Type} [PyRow β] (nm : Str) (ns : List Str) (K : Fr) (Z : Hp) (v : V) (b : β) : Prop :=
  ∃ C p dx vs, PySem.W.nsIn K mainGlobals nm = some (some (.ref C)) ∧ v = .ref p ∧ Z p = some (.ins C dx (ns.zip vs)) ∧ Z dx = some (.own p) ∧ vs.length = ns.length ∧ PyRow.R K Z vs b
def pyObj {α β : Type} [PyRow β] (nm : Str) (ns : List Str) (f : α → β) : Py α :=
  ⟨fun K Z v a => objR nm ns K Z v (f a), fun s ⟨C, p, dx, vs, e0, e1, h1, h2, hl, h3⟩ => ⟨C, p, dx, vs, e0, e1, s _ _ h1, s _ _ h2, hl, PyRow.mono s h3⟩⟩
class DatL {β : Type} [PyRow β] (T : ShL β) : Prop where
  dat : ∀ {K : Fr} {Z : Hp} {vs : List V} {ps : List Addr} {b : β}, T.R K Z Z vs ps b → PyRow.R K Z vs b
instance : DatL ShL.nil := ⟨fun h => h.1⟩
instance {α β : Type} [Py α] [PyRow β] {S : Sh α} {T : ShL β} [Dat S] [DatL T] : DatL (ShL.cons S T) := ⟨fun ⟨v, ws, qs, rs, e1, _, h1, h2⟩ => ⟨v, ws, e1, Dat.dat h1, DatL.dat h2⟩⟩
theorem dat_obj {α β : Type} [PyRow β] {nm : Str} {ns : List Str} {T : ShL β} [DatL T] {f : α → β} : @Dat α (pyObj nm ns f) ((Sh.objK nm ns T).via f) :=
  @Dat.mk α (pyObj nm ns f) _ fun ⟨C, eC, p, dx, xs, qs, e1, e2, h1, h2, hl, h3⟩ => ⟨C, p, dx, xs, eC, e1, h1, h2, hl, DatL.dat h3⟩
class MutL {β : Type} (T : ShL β) : Prop where
  mt : ∀ {K : Fr} {Z H : Hp} {vs : List V} {ps : List Addr} {b : β}, T.R K Z H vs ps b → ∀ q ∈ ps, ∃ u, H q = some u ∧ MutO u
instance : MutL ShL.nil := ⟨fun ⟨_, e⟩ q hq => by rw [e] at hq; cases hq⟩
instance {α β : Type} {S : Sh α} {T : ShL β} [MutS S] [MutL T] : MutL (ShL.cons S T) := ⟨fun ⟨v, ws, qs, rs, _, e2, h1, h2⟩ q hq => by
  rw [e2] at hq
  exact (List.mem_append.mp hq).elim (MutS.mt h1 q) (MutL.mt h2 q)⟩
theorem mut_obj {α β : Type} {nm : Str} {ns : List Str} {T : ShL β} [MutL T] {f : α → β} : MutS ((Sh.objK nm ns T).via f) := ⟨fun ⟨C, eC, p, dx, xs, qs, e1, e2, h1, h2, hl, h3⟩ q hq => by
  rw [e2] at hq
  rcases List.mem_cons.mp hq with rfl | hq
  · exact ⟨_, h1, trivial⟩
  · rcases List.mem_cons.mp hq with rfl | hq
    · exact ⟨_, h2, trivial⟩
    · exact MutL.mt h3 q hq⟩
instance {α : Type} {S : Sh α} [MutS S] : MutS (Sh.opt S) := ⟨fun {K Z H v ps a} r => by
  cases a with
  | none => intro q hq; rw [r.2] at hq; cases hq
  | some a => exact MutS.mt (S := S) r⟩
section
variable {K : Fr} {Z H : Hp} {β : Type} [PyRow β] {nm : Str} {ns : List Str} {v : V} {b : β} {A : Addr}
theorem objR.at (h : objR nm ns K Z v b) (zh : Same Z H) (nk : PySem.W.nsIn K mainGlobals nm = some (some (.ref A))) : ∃ p dx vs, v = .ref p ∧ H p = some (.ins A dx (ns.zip vs)) ∧ vs.length = ns.length ∧ PyRow.R K Z vs b := by
  obtain ⟨C, p, dx, vs, e0, e1, h1, h2, hl, h3⟩ := h
  rw [nk] at e0
  cases e0
  exact ⟨p, dx, vs, e1, zh _ _ h1, hl, h3⟩
end
/-- the method of an opened object looked up -/
theorem Sep.mthH {K : Fr} {Z0 H0 Z H : Hp} {G : List Rt} {nm m : Str} {ns : List Str} {p A : Addr} {vs : List V} {P : Prop} (h : Sep K Z0 H0 Z H G) (i : Nat) (e : G[i]? = some ⟨Sh.husk nm ns, .ref p, vs⟩) (nk : PySem.W.nsIn K mainGlobals nm = some (some (.ref A))) (hm : m ∉ ns) (k : P) : ∃ a dx fs, V.ref p = .ref a ∧ H a = some (.ins A dx fs) ∧ fs.lookup m = none ∧ P := by
  obtain ⟨dx, h1, _, _⟩ := h.hus i e nk
  exact ⟨p, dx, _, rfl, h1, zip_none hm, k⟩
end Cd

set_option Elab.async false
set_option linter.all false
set_option maxRecDepth 100000
set_option maxHeartbeats 4000000
namespace Cd
open PySem L2 PyProof.Rows
/-! ### a list of one's own things, of which one is taken out and put in again -/
/-- the things but the one at n -/
def allX {α : Type} (S : Sh α) (K : Fr) (Z H : Hp) : Nat → List V → List Addr → List α → Prop
  | 0, vs, ps, [] => vs = [] ∧ ps = []
  | _ + 1, vs, ps, [] => vs = [] ∧ ps = []
  | 0, vs, ps, _ :: r => ∃ v ws, vs = v :: ws ∧ allR S K Z H ws ps r
  | n + 1, vs, ps, a :: r => ∃ v ws qs rs, vs = v :: ws ∧ ps = qs ++ rs ∧ S.R K Z H v qs a ∧ allX S K Z H n ws rs r
section
variable {α : Type} {S : Sh α} {K : Fr} {Z Z' H H' : Hp}
theorem allX_keep : ∀ {n : Nat} {l : List α} {vs : List V} {ps : List Addr}, Same Z Z' → (∀ q ∈ ps, H' q = H q) → allX S K Z H n vs ps l → allX S K Z' H' n vs ps l
  | 0, [], _, _, _, _, h => h
  | _ + 1, [], _, _, _, _, h => h
  | 0, _ :: _, _, _, s, h, ⟨v, ws, e, r⟩ => ⟨v, ws, e, allR_keep s h r⟩
  | n + 1, a :: r, _, _, s, h, ⟨v, ws, qs, rs, e1, e2, h1, h2⟩ => ⟨v, ws, qs, rs, e1, e2, S.keep s (fun q hq => h q (by rw [e2]; exact List.mem_append_left _ hq)) h1, allX_keep s (fun q hq => h q (by rw [e2]; exact List.mem_append_right _ hq)) h2⟩
theorem allX_stands : ∀ {n : Nat} {l : List α} {vs : List V} {ps : List Addr}, allX S K Z H n vs ps l → ∀ q ∈ ps, ∃ u, H q = some u
  | 0, [], _, _, ⟨_, e⟩, q, hq => by rw [e] at hq; cases hq
  | _ + 1, [], _, _, ⟨_, e⟩, q, hq => by rw [e] at hq; cases hq
  | 0, _ :: _, _, _, ⟨v, ws, e, r⟩, q, hq => allR_stands r q hq
  | n + 1, a :: r, _, _, ⟨v, ws, qs, rs, e1, e2, h1, h2⟩, q, hq => by
    rw [e2] at hq
    exact (List.mem_append.mp hq).elim (S.stands h1 q) (allX_stands h2 q)
theorem allX_len : ∀ {n : Nat} {l : List α} {vs : List V} {ps : List Addr}, allX S K Z H n vs ps l → vs.length = l.length
  | 0, [], _, _, ⟨e, _⟩ => by rw [e]; rfl
  | _ + 1, [], _, _, ⟨e, _⟩ => by rw [e]; rfl
  | 0, _ :: _, _, _, ⟨v, ws, e, r⟩ => by rw [e, List.length_cons, List.length_cons, allR_len r]
  | n + 1, a :: r, _, _, ⟨v, ws, qs, rs, e1, e2, h1, h2⟩ => by rw [e1, List.length_cons, List.length_cons, allX_len h2]
/-- taken out -/
theorem allX_take : ∀ {n : Nat} {l : List α} {vs : List V} {ps : List Addr} (hn : n < l.length), allR S K Z H vs ps l → ∃ v qs rs, vs[n]? = some v ∧ ps.Perm (qs ++ rs) ∧ S.R K Z H v qs l[n] ∧ allX S K Z H n vs rs l
  | 0, a :: r, _, _, _, ⟨v, ws, qs, rs, e1, e2, h1, h2⟩ => ⟨v, qs, rs, by rw [e1]; rfl, by rw [e2], h1, v, ws, e1, h2⟩
  | n + 1, a :: r, _, _, hn, ⟨v, ws, qs, rs, e1, e2, h1, h2⟩ => by
    obtain ⟨v2, q2, r2, g1, g2, g3, g4⟩ := allX_take (n := n) (by simpa using hn) h2
    refine ⟨v2, q2, qs ++ r2, by rw [e1]; simpa using g1, ?_, g3, v, ws, qs, r2, e1, rfl, h1, g4⟩
    rw [e2]
    refine (List.Perm.append_left qs g2).trans ?_
    rw [← List.append_assoc, ← List.append_assoc]
    exact List.Perm.append_right r2 List.perm_append_comm
/-- put in again -/
theorem allX_give : ∀ {n : Nat} {l : List α} {vs : List V} {rs qs : List Addr} {v : V} {b : α} (hn : n < l.length), allX S K Z H n vs rs l → vs[n]? = some v → S.R K Z H v qs b → ∃ ps, ps.Perm (qs ++ rs) ∧ allR S K Z H vs ps (l.set n b)
  | 0, a :: r, _, rs, qs, v, b, _, ⟨w, ws, e, h⟩, hv, hb => by
    rw [e] at hv
    obtain rfl : w = v := by simpa using hv
    exact ⟨qs ++ rs, .refl _, w, ws, qs, rs, e, rfl, hb, h⟩
  | n + 1, a :: r, _, _, qs, v, b, hn, ⟨w, ws, q1, r1, e1, e2, h1, h2⟩, hv, hb => by
    rw [e1] at hv
    obtain ⟨p2, g1, g2⟩ := allX_give (n := n) (by simpa using hn) h2 (by simpa using hv) hb
    refine ⟨q1 ++ p2, ?_, w, ws, q1, p2, e1, rfl, h1, g2⟩
    rw [e2]
    refine (List.Perm.append_left q1 g1).trans ?_
    rw [← List.append_assoc, ← List.append_assoc]
    exact List.Perm.append_right r1 List.perm_append_comm
end
/-- a list whose values are xs -/
def Sh.lstV {α : Type} (xs : List V) (S : Sh α) : Sh (List α) where
  R := fun K Z H v ps l => ∃ p qs, v = .ref p ∧ ps = p :: qs ∧ H p = some (.lst xs) ∧ allR S K Z H xs qs l
  keep := fun s h ⟨p, qs, e1, e2, h1, h2⟩ => ⟨p, qs, e1, e2, (h p (by rw [e2]; exact List.mem_cons_self)).trans h1, allR_keep s (fun q hq => h q (by rw [e2]; exact List.mem_cons_of_mem _ hq)) h2⟩
  stands := fun ⟨p, qs, e1, e2, h1, h2⟩ q hq => by
    rw [e2] at hq
    rcases List.mem_cons.mp hq with rfl | hq
    · exact ⟨_, h1⟩
    · exact allR_stands h2 q hq
/-- .. the thing at n taken out -/
def Sh.lstH {α : Type} (xs : List V) (n : Nat) (S : Sh α) : Sh (List α) where
  R := fun K Z H v ps l => ∃ p qs, v = .ref p ∧ ps = p :: qs ∧ H p = some (.lst xs) ∧ allX S K Z H n xs qs l
  keep := fun s h ⟨p, qs, e1, e2, h1, h2⟩ => ⟨p, qs, e1, e2, (h p (by rw [e2]; exact List.mem_cons_self)).trans h1, allX_keep s (fun q hq => h q (by rw [e2]; exact List.mem_cons_of_mem _ hq)) h2⟩
  stands := fun ⟨p, qs, e1, e2, h1, h2⟩ q hq => by
    rw [e2] at hq
    rcases List.mem_cons.mp hq with rfl | hq
    · exact ⟨_, h1⟩
    · exact allX_stands h2 q hq
instance {α : Type} {xs : List V} {S : Sh α} : IsRef (Sh.lstV xs S) := ⟨fun ⟨p, _, e, _⟩ => ⟨p, e⟩⟩
instance {α : Type} {xs : List V} {n : Nat} {S : Sh α} : IsRef (Sh.lstH xs n S) := ⟨fun ⟨p, _, e, _⟩ => ⟨p, e⟩⟩
section
variable {K : Fr} {Z0 H0 Z H : Hp} {G : List Rt} {α β γ : Type}
theorem OwnO.perm {S : Sh α} {T : Sh β} {v w : V} {ps qs : List Addr} {a : α} {b : β} (o : OwnO S K H0 Z H v ps a) (r : T.R K Z H w qs b) (e : qs.Perm ps) : OwnO T K H0 Z H w qs b :=
  ⟨r, e.nodup_iff.mpr o.nd, fun q hq => o.nz q (e.mem_iff.mp hq), fun q hq => o.n0 q (e.mem_iff.mp hq)⟩
/-- the head's shape is another -/
theorem Sep.head {S : Sh α} {T : Sh β} {v w : V} {a : α} {b : β} (h : Sep K Z0 H0 Z H (⟨S, v, a⟩ :: G)) (c : ∀ rs, S.R K Z H v rs a → ∃ ts, ts.Perm rs ∧ T.R K Z H w ts b) : Sep K Z0 H0 Z H (⟨T, w, b⟩ :: G) := by
  obtain ⟨st, f, h1, h2⟩ := h
  have o : OwnO S K H0 Z H v (f 0) a := h1 0 _ rfl
  obtain ⟨ts, p, r⟩ := c _ o.r
  refine ⟨st, fun i => match i with | 0 => ts | i + 1 => f (i + 1), fun i r er => ?_, fun i j r s ne er es => ?_⟩
  · match i with
    | 0 => simp only [List.getElem?_cons_zero, Option.some.injEq] at er; subst er; exact o.perm (by assumption) p
    | i + 1 => exact h1 (i + 1) r (by simpa using er)
  · have key : ∀ i r, G[i]? = some r → ∀ q ∈ f (i + 1), q ∉ ts := fun i r e q hq hm => h2 (i + 1) 0 r _ (by omega) (by simpa using e) rfl q hq (p.mem_iff.mp hm)
    match i, j with
    | 0, 0 => exact (ne rfl).elim
    | 0, j + 1 => exact fun q hq hq2 => key j s (by simpa using es) q hq2 hq
    | i + 1, 0 => exact key i r (by simpa using er)
    | i + 1, j + 1 => exact h2 (i + 1) (j + 1) r s ne (by simpa using er) (by simpa using es)
/-- two shapes as one, for a while -/
def Sh.two {α β : Type} (S : Sh α) (T : Sh β) (v w : V) : Sh (α × β) where
  R := fun K Z H _ ps c => ∃ qs rs, ps = qs ++ rs ∧ S.R K Z H v qs c.1 ∧ T.R K Z H w rs c.2
  keep := fun s h ⟨qs, rs, e, h1, h2⟩ => ⟨qs, rs, e, S.keep s (fun q hq => h q (by rw [e]; exact List.mem_append_left _ hq)) h1, T.keep s (fun q hq => h q (by rw [e]; exact List.mem_append_right _ hq)) h2⟩
  stands := fun ⟨qs, rs, e, h1, h2⟩ q hq => by rw [e] at hq; exact (List.mem_append.mp hq).elim (S.stands h1 q) (T.stands h2 q)
theorem Sep.split2P {S1 : Sh α} {S2 : Sh β} {S3 : Sh γ} {v1 v2 v3 : V} {a1 : α} {a2 : β} {a3 : γ} (h : Sep K Z0 H0 Z H (⟨S3, v3, a3⟩ :: G))
    (c : ∀ rs, S3.R K Z H v3 rs a3 → ∃ ps qs, rs.Perm (ps ++ qs) ∧ S1.R K Z H v1 ps a1 ∧ S2.R K Z H v2 qs a2) : Sep K Z0 H0 Z H (⟨S1, v1, a1⟩ :: ⟨S2, v2, a2⟩ :: G) :=
  (h.head (T := Sh.two S1 S2 v1 v2) (w := .non) (b := (a1, a2)) fun rs r => by
    obtain ⟨ps, qs, e, r1, r2⟩ := c rs r
    exact ⟨ps ++ qs, e.symm, ps, qs, rfl, r1, r2⟩).split2 (f := fun _ => []) rfl fun rs ⟨ps, qs, e, r1, r2⟩ => ⟨ps, qs, e, r1, r2⟩
theorem Sep.join2P {S1 : Sh α} {S2 : Sh β} {S3 : Sh γ} {v1 v2 v3 : V} {a1 : α} {a2 : β} {a3 : γ} (h : Sep K Z0 H0 Z H (⟨S1, v1, a1⟩ :: ⟨S2, v2, a2⟩ :: G))
    (c : ∀ ps qs, S1.R K Z H v1 ps a1 → S2.R K Z H v2 qs a2 → ∃ rs, rs.Perm (ps ++ qs) ∧ S3.R K Z H v3 rs a3) : Sep K Z0 H0 Z H (⟨S3, v3, a3⟩ :: G) :=
  (h.join2 (S3 := Sh.two S1 S2 v1 v2) (v3 := .non) (a3 := (a1, a2)) fun ps qs r1 r2 => ⟨ps, qs, rfl, r1, r2⟩).head fun rs ⟨ps, qs, e, r1, r2⟩ => by
    obtain ⟨ts, p, r⟩ := c ps qs r1 r2
    exact ⟨ts, e ▸ p, r⟩
variable {S : Sh α} {v : V} {l : List α}
/-- the list's values -/
theorem Sep.vals (h : Sep K Z0 H0 Z H (⟨Sh.lst (ShL.all S), v, l⟩ :: G)) : ∃ xs, xs.length = l.length ∧ Sep K Z0 H0 Z H (⟨Sh.lstV xs S, v, l⟩ :: G) := by
  obtain ⟨ps, o⟩ := h.nth 0 rfl
  obtain ⟨p, xs, qs, e1, e2, h1, h2⟩ := o.r
  have e1 : v = .ref p := e1
  subst e1
  have h2 : allR S K Z H xs qs l := h2
  refine ⟨xs, allR_len h2, h.head fun rs r => ⟨rs, .refl _, ?_⟩⟩
  obtain ⟨p', xs', qs', e1', e2', h1', h2'⟩ := r
  cases e1'
  have h1 : H p = some (.lst xs) := h1
  have h1' : H p = some (.lst xs') := h1'
  rw [h1] at h1'
  cases h1'
  exact ⟨p, qs', rfl, e2', h1, h2'⟩
theorem Sep.unvals {xs : List V} (h : Sep K Z0 H0 Z H (⟨Sh.lstV xs S, v, l⟩ :: G)) : Sep K Z0 H0 Z H (⟨Sh.lst (ShL.all S), v, l⟩ :: G) :=
  h.head fun rs ⟨p, qs, e1, e2, h1, h2⟩ => ⟨rs, .refl _, p, xs, qs, e1, e2, h1, h2⟩
theorem Sep.take {xs : List V} {n : Nat} (hn : n < l.length) (h : Sep K Z0 H0 Z H (⟨Sh.lstV xs S, v, l⟩ :: G)) : ∃ x, xs[n]? = some x ∧ Sep K Z0 H0 Z H (⟨S, x, l[n]⟩ :: ⟨Sh.lstH xs n S, v, l⟩ :: G) := by
  obtain ⟨ps, o⟩ := h.nth 0 rfl
  obtain ⟨p, qs, e1, e2, h1, h2⟩ := o.r
  obtain ⟨x, q1, r1, g1, g2, g3, g4⟩ := allX_take hn h2
  refine ⟨x, g1, h.split2P fun rs r => ?_⟩
  obtain ⟨p', qs', e1', e2', h1', h2'⟩ := r
  obtain ⟨x', q1', r1', g1', g2', g3', g4'⟩ := allX_take hn h2'
  rw [g1] at g1'
  cases g1'
  refine ⟨q1', p' :: r1', ?_, g3', p', r1', e1', rfl, h1', g4'⟩
  rw [e2']
  exact (List.Perm.cons p' g2').trans (List.perm_middle.symm)
theorem Sep.give {xs : List V} {n : Nat} {x : V} {b : α} (hn : n < l.length) (hx : xs[n]? = some x) (h : Sep K Z0 H0 Z H (⟨S, x, b⟩ :: ⟨Sh.lstH xs n S, v, l⟩ :: G)) : Sep K Z0 H0 Z H (⟨Sh.lstV xs S, v, l.set n b⟩ :: G) :=
  h.join2P fun ps qs r1 ⟨p, q1, e1, e2, h1, h2⟩ => by
    obtain ⟨ts, g1, g2⟩ := allX_give hn h2 hx r1
    exact ⟨p :: ts, by rw [e2]; exact (List.Perm.cons p g1).trans List.perm_middle.symm, p, ts, e1, rfl, h1, g2⟩
theorem Sep.atH {xs : List V} {n : Nat} {p : Addr} (h : Sep K Z0 H0 Z H G) (i : Nat) (e : G[i]? = some ⟨Sh.lstH xs n S, .ref p, l⟩) : H p = some (.lst xs) ∧ xs.length = l.length := by
  obtain ⟨ps, o⟩ := h.nth i e
  obtain ⟨p', qs, e1, e2, h1, h2⟩ := o.r
  cases e1
  exact ⟨h1, allX_len h2⟩
end
end Cd

set_option Elab.async false
set_option linter.all false
set_option maxRecDepth 100000
set_option maxHeartbeats 4000000
namespace Cd
open PySem L2 PyProof.Rows
/-! ### a walk over one's own things that changes them: by the index -/
structure SrcG {γ : Type} (J : It) (Kp : Hp → Prop) (L : List γ) (Y : γ → V → Hp → Hp → Prop) : Prop where
  go : ∀ i a H, L[i]? = some a → Kp H → J.go i H
  yld : ∀ i a H x H', L[i]? = some a → Kp H → J.yld i H x H' → Y a x H H'
  stop : ∀ H, Kp H → J.stop L.length H
section
variable {K : Fr} {Z H : Hp}
theorem k_ixV {p : Addr} {xs : List V} {i : Int} {x : V} {Q : VK} (h : H p = some (.lst xs)) (e : atI xs i = some x) (k : Q x H) : rIxL K (.ref p) (.int i) H Q := ⟨p, xs, i, x, rfl, rfl, SqL.of h, e, k⟩
end
/-- the index as a number of places -/
def jx (n : Nat) (i : Int) : Nat := (ixN n i).getD 0
theorem jx_lt {n : Nat} {i : Int} (h : inR n i) : jx n i < n ∧ ixN n i = some (jx n i) := by
  obtain ⟨j, e, hl⟩ := ixN_some h
  unfold jx
  rw [e]
  exact ⟨hl, rfl⟩
theorem getI_jx {α : Type} [Inhabited α] {l : List α} {i : Int} (h : inR l.length i) : getI l i = l[jx l.length i]'(jx_lt h).1 := by
  have e := atI_get h
  unfold atI at e
  rw [(jx_lt h).2] at e
  have e2 : l[jx l.length i]? = some (getI l i) := e
  rw [List.getElem?_eq_getElem (jx_lt h).1] at e2
  exact (Option.some.inj e2).symm
theorem setI_jx {α : Type} {l : List α} {i : Int} {a : α} (h : inR l.length i) : setI l i a = l.set (jx l.length i) a := by
  unfold setI
  rw [(jx_lt h).2]
section
variable {K : Fr} {Z0 H0 Z H : Hp} {G : List Rt} {α : Type} [Inhabited α] {S : Sh α} {v x : V} {l : List α} {xs : List V} {i : Int}
theorem Sep.takeI (hi : inR l.length i) (h : Sep K Z0 H0 Z H (⟨Sh.lstV xs S, v, l⟩ :: G)) : ∃ x, atI xs i = some x ∧ Sep K Z0 H0 Z H (⟨S, x, getI l i⟩ :: ⟨Sh.lstH xs (jx l.length i) S, v, l⟩ :: G) := by
  obtain ⟨ps, o⟩ := h.nth 0 rfl
  obtain ⟨p, qs, e1, e2, h1, h2⟩ := o.r
  have hl := allR_len h2
  obtain ⟨x, hx, h3⟩ := h.take (jx_lt hi).1
  refine ⟨x, ?_, by rw [getI_jx hi]; exact h3⟩
  unfold atI
  rw [hl, (jx_lt hi).2]
  exact hx
theorem Sep.giveI {b : α} (hi : inR l.length i) (hx : atI xs i = some x) (h : Sep K Z0 H0 Z H (⟨S, x, b⟩ :: ⟨Sh.lstH xs (jx l.length i) S, v, l⟩ :: G)) : Sep K Z0 H0 Z H (⟨Sh.lstV xs S, v, setI l i b⟩ :: G) := by
  obtain ⟨ps, o⟩ := h.drop.nth 0 rfl
  obtain ⟨p, qs, e1, e2, h1, h2⟩ := o.r
  have hl := allX_len h2
  rw [setI_jx hi]
  refine h.give (jx_lt hi).1 ?_
  unfold atI at hx
  rw [hl, (jx_lt hi).2] at hx
  exact hx
end
end Cd

set_option Elab.async false
set_option linter.all false
set_option maxRecDepth 100000
set_option maxHeartbeats 4000000
namespace Cd
open PySem L2 PyProof.Rows
/-! ### enumerate(list, start=k) -/
section
variable {X : Cx} {elts : List Expr} {kk : Nat} {tpos : Pos}
def iEnumK (K : Fr) (ta tk : TA) : TI := fun σ H R => ta σ H fun vs H1 => tk σ H1 fun zs H2 => ∃ a k xs, vs = [V.ref a] ∧ zs = [V.int k] ∧ -(2 ^ 63) ≤ k ∧ k < 2 ^ 63 ∧ SqL K H2 a xs ∧
  R (Iteg k (fun H n => ∃ xs, SqL K H a xs ∧ xs.length = n) (fun i H v => ∀ xs, SqL K H a xs → xs[i]? = some v)) H2
end
theorem new_fitP {α : Type} {S : Sh α} {K : Fr} {Z H : Hp} {x dx C : Addr} {r : α} {P : Hp → Prop} (nx : H x = none) (ndx : H dx = none) (ne : dx ≠ x) (k : ∀ ps' Z' H', Step Z H Z' H' → OwnO S K H Z' H' (.ref x) ps' r → P H') :
    ∀ (Z' H' : Hp) (ps' : List Addr), Step Z (delL (upd (upd H dx (.own x)) x (.ins C dx [])) [x, dx]) Z' H' → OwnO S K (delL (upd (upd H dx (.own x)) x (.ins C dx [])) [x, dx]) Z' H' (.ref x) ps' r → (V.non = V.non ∧ P H') := by
  rw [del_new nx ndx ne]
  exact fun Z' H' ps' st o => ⟨rfl, k ps' Z' H' st o⟩
class ImmL {β : Type} (T : ShL β) : Prop where
  imm : ∀ {K : Fr} {Z Z' H : Hp} {vs : List V} {ps : List Addr} {b : β}, (∀ b u, Z b = some u → ¬ MutO u → Z' b = some u) → T.R K Z H vs ps b → T.R K Z' H vs ps b
instance : ImmL ShL.nil := ⟨fun _ h => h⟩
instance {α β : Type} {S : Sh α} {T : ShL β} [ImmS S] [ImmL T] : ImmL (ShL.cons S T) := ⟨fun s ⟨v, ws, qs, rs, e1, e2, h1, h2⟩ => ⟨v, ws, qs, rs, e1, e2, ImmS.imm s h1, ImmL.imm s h2⟩⟩
end Cd

set_option Elab.async false
set_option linter.all false
set_option maxRecDepth 100000
set_option maxHeartbeats 4000000
namespace Cd
open PySem L2
/-! ### fields, numbers, lines of a counter: plain -/
/-! the figures of a number, k of them -/
def dg : Nat → Nat → List Nat
  | 0, _ => []
  | k + 1, n => dg k (n / 10) ++ [48 + n % 10]
def fieldOk (f : Int × Int) : Prop := 1 ≤ f.1 ∧ f.1 ≤ f.2 ∧ f.2 ≤ 36
def fieldsOk (l : List (Int × Int)) : Prop := ∀ f ∈ l, fieldOk f
def partT (z : Str) (f : Int × Int) : Str := cutS z (some (f.1 - 1)) (some f.2)
def digV (c : Nat) : Int := if 48 ≤ c ∧ c ≤ 57 then ((c - 48 : Nat) : Int) else 0
def valN (l : List Nat) : Int := l.foldl (fun t c => 10 * t + digV c) 0
def numT (z : Str) (f : Int × Int) : Int := valN (codes (partT z f))
/-! the card laid by a board -/
def boardD (z : Str) (bd : List (Int × Int)) : List (Int × Str) := bd.foldl (fun d w => dPut d w.2 (chS z (w.1 - 1))) []
def sAt (z : Str) (bd : List (Int × Int)) (c : Int) : Str := (dGet (boardD z bd) c).getD " "
def layT (z : Str) (bd : List (Int × Int)) : Str := Txt.join "" ((rangeL 1 36).map (sAt z bd))
/-! ### rows of wheels, by their totals -/
def pw (F : Int) : Int := 10 ^ F.toNat
def stepW (full : Int) (s : List Int × List (Int × Bool)) (q : Int × Int) : List Int × List (Int × Bool) :=
  (setI s.1 q.1 ((getI s.1 q.1 + q.2) % full), if full ≤ getI s.1 q.1 + q.2 then dPut s.2 q.1 true else s.2)
def raiseW (full : Int) (row : List Int) (vals : List Int) (ev : List (Int × Bool)) : List Int × List (Int × Bool) := ((rangeL 0 row.length).zip vals).foldl (stepW full) (row, ev)
/-- the list of those run over: which they may be -/
def EvOk (n : Nat) (ev : List (Int × Bool)) : Prop := (ev.map (·.1)).Nodup ∧ ∀ x ∈ ev, 0 ≤ x.1 ∧ x.1 < (n : Int) ∧ x.2 = true
theorem EvOk.len {n : Nat} {ev : List (Int × Bool)} (h : EvOk n ev) : ev.length ≤ n := by
  have e : (ev.map (·.1)).length ≤ n := by
    have := nodup_bound n ((ev.map (·.1)).map (· + 1)) (by
      rw [List.nodup_iff_pairwise_ne, List.pairwise_map]
      exact (List.nodup_iff_pairwise_ne.mp h.1).imp fun q z => q (by omega)) (fun x hx => by
      obtain ⟨y, hy, rfl⟩ := List.mem_map.mp hx
      obtain ⟨z, hz, rfl⟩ := List.mem_map.mp hy
      have := h.2 z hz
      omega)
    rwa [List.length_map] at this
  rwa [List.length_map] at e
theorem EvOk.nil (n : Nat) : EvOk n [] := ⟨List.nodup_nil, fun x h => nomatch h⟩
theorem EvOk.put {n : Nat} {ev : List (Int × Bool)} {k : Int} (h : EvOk n ev) (hk : 0 ≤ k ∧ k < (n : Int)) : EvOk n (dPut ev k true) := by
  refine ⟨dPut_nodup h.1, fun x hx => ?_⟩
  unfold dPut at hx
  split at hx
  · obtain ⟨y, hy, rfl⟩ := List.mem_map.mp hx
    have := h.2 y hy
    show 0 ≤ (if y.1 = k then (y.1, true) else y).1 ∧ (if y.1 = k then (y.1, true) else y).1 < (n : Int) ∧ (if y.1 = k then (y.1, true) else y).2 = true
    split
    · exact ⟨this.1, this.2.1, rfl⟩
    · exact this
  · rcases List.mem_append.mp hx with hx | hx
    · exact h.2 x hx
    · rw [List.mem_singleton] at hx; subst hx; exact ⟨hk.1, hk.2, rfl⟩
/-! what a raise comes to, place by place -/
def addM (full : Int) (row vals : List Int) : List Int := List.zipWith (fun t v => (t + v) % full) row vals
/-! ### a counter, plainly -/
structure CS where
  rows : List (List Int)
  ever : List (Int × Bool)
  last : Option Str
def CS.row (s : CS) (k : Int) : List Int := getI s.rows k
def raiseS (full : Int) (k : Int) (vals : List Int) (s : CS) : CS := ⟨setI s.rows k (raiseW full (s.row k) vals s.ever).1, (raiseW full (s.row k) vals s.ever).2, s.last⟩
def lineS (bs : List (Int × Int)) (F : Int) (k : Int) (s : CS) : Str :=
  Txt.join " " ([Txt.mul "*" ((bs.length : Int) + 1 - k)] ++ (cutL bs none (some k)).map (partT (s.last.getD default)) ++ (s.row k).map fun t => Txt.zfill (toStr t) F)
def zeroS (k : Int) (s : CS) : CS := ⟨setI s.rows k (List.replicate (s.row k).length 0), s.ever, s.last⟩
def closeS (full : Int) (k : Int) (s : CS) : CS := zeroS k (if 0 < k then raiseS full (k - 1) (s.row k) s else s)
def totS (bs : List (Int × Int)) (F : Int) (ks : List Int) (s : List Str × CS) : List Str × CS := ks.foldl (fun s k => (s.1 ++ [lineS bs F k s.2], closeS (pw F) k s.2)) s
def downL (n : Int) (o : Int) : List Int := rangeC n (-(1 : Int)) (n - (o - 1)).toNat
def brokenS (bs : List (Int × Int)) (z w : Str) : Int := match (enumL 1 bs).find? fun q => !decide (partT z q.2 = partT w q.2) with
  | some q => q.1
  | none => (bs.length : Int) + 1
def lineC (z : Str) (bd : List (Int × Int)) : Str := (cutS z (some 36) none ++ " ") ++ layT z bd
def headS (bs : List (Int × Int)) (F : Int) (s : CS) (z : Str) : List Str × CS := match s.last with
  | none => ([], s)
  | some l => totS bs F (downL (bs.length : Int) (brokenS bs z l)) ([], s)
def feedS (bs ss : List (Int × Int)) (F : Int) (bd : List (Int × Int)) (s : CS) (z : Str) : List Str × CS :=
  let t := headS bs F s z
  let u := raiseS (pw F) (bs.length : Int) (ss.map (numT z)) t.2
  (t.1 ++ [lineC z bd], ⟨u.rows, u.ever, some z⟩)
def finS (bs : List (Int × Int)) (F : Int) (s : CS) : List Str × CS := match s.last with
  | none => ([lineS bs F 0 s], closeS (pw F) 0 s)
  | some _ => totS bs F (downL (bs.length : Int) 0) ([], s)
/-- what a counter may be -/
structure CSOk (bs : List (Int × Int)) (n : Nat) (F : Int) (s : CS) : Prop where
  ln : s.rows.length = bs.length + 1
  rw : ∀ r ∈ s.rows, r.length = n ∧ ∀ t ∈ r, 0 ≤ t ∧ t < pw F
  ev : EvOk n s.ever
  lz : ∀ z, s.last = some z → z.length = 40
def start (bs ss : List (Int × Int)) : CS := ⟨List.replicate (bs.length + 1) (List.replicate ss.length 0), [], none⟩
end Cd

set_option Elab.async false
set_option linter.all false
set_option maxRecDepth 100000
set_option maxHeartbeats 4000000
/-! ### refusals that bear something; what is inherited from a class -/
namespace L2
open PySem PySem.Spec PyProof.Rows PySem.HandSPX
def oexB (K : PySem.W.Frag) (C : Addr) : Bool := match K.lookup C with
  | some ⟨.type "type", _, .cls cd, sl⟩ => (match cd.mro, sl.toList with
    | .ref C' :: bm, [_, _, _, _, some (.builtin n), _] => C' == C && n == "ValueError.__new__" && !cd.hasDel && cd.hasDict && refsVE bm
    | _, _ => false)
  | _ => false
/-- a class whose attributes are read plainly -/
structure CRd (K : PySem.W.Frag) (A : Addr) : Prop where
  rd : PySem.W.readsIn K A (.type "type") = true
  ga : PySem.W.specialIn K (.ref A) "__getattribute__" = some (some (.builtin "type.__getattribute__"))
section
variable {X : Cx} {o e : Expr} {es : List Expr} {to te : TE} {ta : TA} {f x : Str} {A : Addr} {p p' p1 p2 pos : Pos}
end
end L2
namespace Cd
open PySem L2 PyProof.Rows
structure MkE (P : Program) (w : World) (K : PySem.W.Frag) (mg : Str → Option Value) (base : Heap) (k : Nat) (x : Str) (C : Addr) (ps : List Str) (sp : Sp) : Prop where
  ex : ∃ (f : Addr) (fd : FuncData), OexC K C ∧ PySem.W.findIn K (.ref C) "__init__" = some (some (.ref f)) ∧ PySem.W.typeIn K (.ref f) = some (.type "function") ∧ FnOk P w K mg base CX0 k f fd ps sp ∧ Binds K fd ps [] ∧ mg x = some (.ref C)
section
variable {X : Cx} {e : Expr} {es : List Expr} {ta : TA} {x : Str} {C : Addr} {k : Nat} {ps : List Str} {sp : Sp} {p pos : Pos}
end
/-- NoOrder(d, p) -/
def sp_NoOrder (K : Fr) : Sp := fun vs H Q _ => ∃ (a C : Addr) (d p : Int), vs = [.ref a, .int d, .int p] ∧ OexC K C ∧ PySem.W.findIn K (.ref C) "deck" = some none ∧ PySem.W.findIn K (.ref C) "place" = some none ∧ H a = some (exo a C none) ∧
  ∀ dx, H dx = none → dx ≠ a → Q .non (upd (upd (upd H dx (exd dx [("deck", .int d)])) a (exo a C (some dx))) dx (exd dx [("place", .int p), ("deck", .int d)]))
def sp_Meet (K : Fr) : Sp := fun vs H Q _ => ∃ (a C : Addr) (u v : V), vs = [.ref a, u, v] ∧ OexC K C ∧ PySem.W.findIn K (.ref C) "one" = some none ∧ PySem.W.findIn K (.ref C) "other" = some none ∧ H a = some (exo a C none) ∧
  ∀ dx, H dx = none → dx ≠ a → Q .non (upd (upd (upd H dx (exd dx [("one", u)])) a (exo a C (some dx))) dx (exd dx [("other", v), ("one", u)]))
section
variable {K : Fr} {Z H : Hp} {C : Addr} {Q : XK}
end
/-! ### a value of which nothing is asked -/
structure AnyV where
deriving Inhabited
instance : Py AnyV := ⟨fun _ _ _ _ => True, fun _ _ => trivial⟩
/-! ### what a refusal bears, told -/
structure Xd where
  fs : List (Str × V)
deriving Inhabited
instance : Py Xd where
  R K Z v a := ∃ p, v = .ref p ∧ Z p = some (.xd a.fs)
  mono := fun s ⟨p, e, h⟩ => ⟨p, e, s _ _ h⟩
def rIsEx (K : Fr) (cls : Value) (d : Option Addr) (a : Addr) : List V → Hp → VK → Prop := fun xs H Q => ∃ (D : Addr) (c : V) (cv : Value) (b : Bool), cls = .ref D ∧ (d = none ∨ ∃ dd fs, d = some dd ∧ H dd = some (.xd fs)) ∧ ExcC K D ∧ xs = [.ref a, c] ∧ (∀ u, RelV c u → u = cv) ∧ PySem.W.kitOne K (.ref D) cv = some b ∧ Q (.bl b) H
theorem k_isEx {K : Fr} {D a : Addr} {d : Option Addr} {c : V} {cv : Value} {b : Bool} {H : Hp} {Q : VK} (hd : d = none ∨ ∃ dd fs, d = some dd ∧ H dd = some (.xd fs)) (C : ExcC K D) (hc : ∀ u, RelV c u → u = cv) (hk : PySem.W.kitOne K (.ref D) cv = some b) (k : Q (.bl b) H) : rIsEx K (.ref D) d a [.ref a, c] H Q := ⟨D, c, cv, b, rfl, hd, C, rfl, hc, hk, k⟩
theorem isx_run {X : Cx} {a D : Addr} {oe : Obj} {d : Option Addr} {pins : List Pn} {σ : L2.St} {H : Hp} {s : Shared} {c : Value} {b : Bool} {Q : VK} (C : ExcC X.K D) (I : Inv X pins σ H s) (hget : s.heap.get? a = some oe) (hz : Zc (.ref D) d oe) (hf : ∃ vs, oe.data = .fields vs)
    (hd : d = none ∨ ∃ dd fs, d = some dd ∧ H dd = some (.xd fs)) (e : PySem.W.kitOne X.K (.ref D) c = some b) (q : Q (.bl b) H) : wpAny (model X.prog X.w) X.A (call (.builtin "isinstance") [.ref a, c]) (EP X pins σ Q) X.xe s := by
  obtain ⟨vs, hv⟩ := hf
  have J : ∃ od, PySem.W.InstAt s.heap a oe D od := by
    rcases hd with rfl | ⟨dd, fs, rfl, hx⟩
    · refine ⟨none, hget, hz.1, by unfold PySem.W.notCls; rw [hv] <;> rfl, by rw [hz.2]; trivial⟩
    · have hx : ObjOk X.prog X.w H s.heap dd (.xd fs) := I.hok dd _ hx
      obtain ⟨mA, hns, hr⟩ := hx
      obtain ⟨od, ho, hl⟩ := lookIn_ns hns
      exact ⟨some od, hget, hz.1, by unfold PySem.W.notCls; rw [hv] <;> rfl, by rw [hz.2]; exact ho⟩
  obtain ⟨od, J⟩ := J
  have hcl : (PySem.W.clsIn X.K D).isSome = true := by obtain ⟨cd, hc, _⟩ := PySem.W.any_some C.hd; rw [hc]; rfl
  exact PySem.W.kia_one (PySem.W.kitx_exc hcl C.hg C.hk C.hs C.ha C.hn C.ht C.hm) I.kIn J e (fun z => nomatch z) fun tk => ⟨.bl b, H, I.kept (t' := tk) fun _ _ z => z, rfl, q⟩
theorem call_isPx {X : Cx} {K : Fr} (eK : X.K = K) {a D : Addr} {d : Option Addr} {p : Pn} (hp : p ∈ X.pn) (h : Rf (.ref D) d a p) : CallR X (.builtin "isinstance") (rIsEx K (.ref D) d a) := by
  subst eK
  obtain ⟨rfl, hz, hf⟩ := h
  intro pins s σ H xs us Q I r h
  obtain ⟨D', c, cv, b, eD, hd, C, rfl, hcv, e, q⟩ := h
  cases eD
  cases r with
  | cons rx rr =>
    cases rr with
    | cons rt rr =>
      cases rr
      cases rx
      obtain rfl := hcv _ rt
      exact isx_run C I (I.pin p (List.mem_append_left _ hp)).1 hz hf hd e q
theorem Good.trW {α β : Type} {m : R α} {k : α → R β} {f : Er → R β} {V : β → Prop} {E : Er → Prop} (h : Good (m.tr k f) V E) : ∃ (W' : α → Prop) (E' : Er → Prop), Good m W' E' ∧ (∀ a, W' a → Good (k a) V E) ∧ ∀ e, E' e → Good (f e) V E := ⟨_, _, Good.tr h, fun _ h => h, fun _ h => h⟩
end Cd

set_option Elab.async false
set_option linter.all false
set_option maxRecDepth 100000
set_option maxHeartbeats 4000000
namespace L2
open PySem PySem.Spec PyProof.Rows PySem.HandSPX
/-- what is asked of a refusal's class object -/
def oexO (C : Addr) (o : Obj) : Bool := match (some o) with
  | some ⟨.type "type", _, .cls cd, sl⟩ => (match cd.mro, sl.toList with
    | .ref C' :: bm, [_, _, _, _, some (.builtin n), _] => C' == C && n == "ValueError.__new__" && !cd.hasDel && cd.hasDict && refsVE bm
    | _, _ => false)
  | _ => false
end L2
namespace Cd
open PySem L2 PyProof.Rows
/-! ### < of told data of one shape -/
class AlkD (α : Type) [Py α] [DecidableEq α] [PyD α] : Prop where
  alike : ∀ a b : α, PySem.W.alike (PyD.d a) (PyD.d b) = true
  nn : ∀ a : α, PyD.d a ≠ .none
instance : AlkD Int := ⟨fun a b => SrtD.alike a b, fun a => by simp [PyD.d]⟩
instance : AlkD Str := ⟨fun a b => SrtD.alike a b, fun a => by simp [PyD.d]⟩
instance {α : Type} [Py α] [DecidableEq α] [PyD α] [AlkD α] : AlkD (List α) := ⟨fun a b => by
  show PySem.W.alikeAll (a.map PyD.d) (b.map PyD.d) = true
  induction a generalizing b with
  | nil => simp [PySem.W.alikeAll]
  | cons x r ih => cases b with
    | nil => simp [PySem.W.alikeAll]
    | cons y s => simp only [List.map_cons, PySem.W.alikeAll, AlkD.alike, ih, Bool.and_self], fun a => by simp [PyD.d]⟩
instance {α β : Type} [Py α] [DecidableEq α] [PyD α] [AlkD α] [Py β] [DecidableEq β] [PyD β] [AlkD β] : AlkD (α × β) := ⟨fun a b => by
  show PySem.W.alikeAll [PyD.d a.1, PyD.d a.2] [PyD.d b.1, PyD.d b.2] = true
  simp [PySem.W.alikeAll, AlkD.alike], fun a => by simp [PyD.d]⟩
/-- less, as data -/
def ltD {α : Type} [Py α] [DecidableEq α] [PyD α] (a b : α) : Bool := PySem.W.dataLt (PyD.d a) (PyD.d b)
def rLtC (K : Fr) : R2 := fun x y H Q => ∃ d e, Dp K H x d ∧ Dp K H y e ∧ PySem.W.alike d e = true ∧ d ≠ .none ∧ d.depth ≤ 64 ∧ Q (.bl (PySem.W.dataLt d e)) H
end Cd
/-! ### list(range(a, b, -1)) -/
namespace L2
open PySem PySem.Spec PyProof.Rows
def rcV (i c : Int) (n : Nat) : List V := (List.range n).map fun k => V.int (i + (k : Nat) * c)
def rLst3 (i c : Int) (n : Nat) (H : Hp) (Q : VK) : Prop := n ≤ 2 ^ 24 ∧ ∀ q, H q = none → Q (.ref q) (upd H q (.lst (rcV i c n)))
def tLstRg3 (ta : TA) : TE := fun σ H Q => ta σ H fun vs H1 => ∃ (i j c : Int) (n : Nat), vs = [.int i, .int j, .int c] ∧ RgC i j c n ∧ rLst3 i c n H1 Q
end L2
namespace Cd
open PySem L2 PyProof.Rows
end Cd

set_option Elab.async false
set_option linter.all false
set_option maxRecDepth 100000
set_option maxHeartbeats 4000000
namespace Cd
open PySem L2 PyProof.Rows
/-! ### a list of one's own things, of which some are taken out -/
def allP {α : Type} (S : Sh α) (K : Fr) (Z H : Hp) : (Nat → Bool) → List V → List Addr → List α → Prop
  | _, vs, ps, [] => vs = [] ∧ ps = []
  | sk, vs, ps, a :: r => ∃ v ws qs rs, vs = v :: ws ∧ ps = qs ++ rs ∧ (if sk 0 = true then qs = [] else S.R K Z H v qs a) ∧ allP S K Z H (fun i => sk (i + 1)) ws rs r
section
variable {α : Type} {S : Sh α} {K : Fr} {Z Z' H H' : Hp}
theorem allP_keep : ∀ {l : List α} {sk : Nat → Bool} {vs : List V} {ps : List Addr}, Same Z Z' → (∀ q ∈ ps, H' q = H q) → allP S K Z H sk vs ps l → allP S K Z' H' sk vs ps l
  | [], _, _, _, _, _, h => h
  | a :: r, sk, _, _, s, h, ⟨v, ws, qs, rs, e1, e2, h1, h2⟩ => by
    refine ⟨v, ws, qs, rs, e1, e2, ?_, allP_keep s (fun q hq => h q (by rw [e2]; exact List.mem_append_right _ hq)) h2⟩
    split
    · rename_i c; rw [if_pos c] at h1; exact h1
    · rename_i c; rw [if_neg c] at h1; exact S.keep s (fun q hq => h q (by rw [e2]; exact List.mem_append_left _ hq)) h1
theorem allP_stands : ∀ {l : List α} {sk : Nat → Bool} {vs : List V} {ps : List Addr}, allP S K Z H sk vs ps l → ∀ q ∈ ps, ∃ u, H q = some u
  | [], _, _, _, ⟨_, e⟩, q, hq => by rw [e] at hq; cases hq
  | a :: r, sk, _, _, ⟨v, ws, qs, rs, e1, e2, h1, h2⟩, q, hq => by
    rw [e2] at hq
    rcases List.mem_append.mp hq with hq | hq
    · by_cases c : sk 0 = true
      · rw [if_pos c] at h1; rw [h1] at hq; cases hq
      · rw [if_neg c] at h1; exact S.stands h1 q hq
    · exact allP_stands h2 q hq
end
def Sh.lstP {α : Type} (xs : List V) (sk : Nat → Bool) (S : Sh α) : Sh (List α) where
  R := fun K Z H v ps l => ∃ p qs, v = .ref p ∧ ps = p :: qs ∧ H p = some (.lst xs) ∧ allP S K Z H sk xs qs l
  keep := fun s h ⟨p, qs, e1, e2, h1, h2⟩ => ⟨p, qs, e1, e2, (h p (by rw [e2]; exact List.mem_cons_self)).trans h1, allP_keep s (fun q hq => h q (by rw [e2]; exact List.mem_cons_of_mem _ hq)) h2⟩
  stands := fun ⟨p, qs, e1, e2, h1, h2⟩ q hq => by
    rw [e2] at hq
    rcases List.mem_cons.mp hq with rfl | hq
    · exact ⟨_, h1⟩
    · exact allP_stands h2 q hq
instance {α : Type} {xs : List V} {sk : Nat → Bool} {S : Sh α} : IsRef (Sh.lstP xs sk S) := ⟨fun ⟨p, _, e, _⟩ => ⟨p, e⟩⟩
section
variable {K : Fr} {Z0 H0 Z H : Hp} {G : List Rt} {α β γ : Type} {S : Sh α} {v : V} {l : List α} {xs : List V} {sk : Nat → Bool}
instance {α β : Type} {S : Sh α} {T : Sh β} {v w : V} [ImmS S] [ImmS T] : ImmS (Sh.two S T v w) := ⟨fun s ⟨qs, rs, e, h1, h2⟩ => ⟨qs, rs, e, ImmS.imm s h1, ImmS.imm s h2⟩⟩
end
end Cd
namespace Cd
open PySem L2
/-! ### a comprehension's own names are taken away again -/
end Cd

set_option Elab.async false
set_option linter.all false
set_option maxRecDepth 100000
set_option maxHeartbeats 4000000
namespace Cd
open PySem L2 PyProof.Rows
/-! ### told data of any kind -/
mutual
inductive Dyr (K : Fr) (Z : Hp) : V → PyData → Prop
  | non : Dyr K Z .non .none
  | bl (b : Bool) : Dyr K Z (.bl b) (.bool b)
  | int (i : Int) : Dyr K Z (.int i) (.int i)
  | str (x : Str) : Dyr K Z (.str x) (.str x)
  | lst {a : Addr} {xs : List V} {ds : List PyData} : Z a = some (.lst xs) → DyrAll K Z xs ds → Dyr K Z (.ref a) (.list ds)
  | tup {a : Addr} {xs : List V} {ds : List PyData} : Z a = some (.tup xs) → DyrAll K Z xs ds → Dyr K Z (.ref a) (.tuple ds)
inductive DyrAll (K : Fr) (Z : Hp) : List V → List PyData → Prop
  | nil : DyrAll K Z [] []
  | cons {v : V} {vs : List V} {d : PyData} {ds : List PyData} : Dyr K Z v d → DyrAll K Z vs ds → DyrAll K Z (v :: vs) (d :: ds)
end
mutual
theorem Dyr.mono {K : Fr} {Z Z' : Hp} (s : Same Z Z') : ∀ (d : PyData) (v : V), Dyr K Z v d → Dyr K Z' v d
  | .none, _, h => by cases h; exact .non
  | .bool b, _, h => by cases h; exact .bl b
  | .int i, _, h => by cases h; exact .int i
  | .str x, _, h => by cases h; exact .str x
  | .list ds, _, h => by
    cases h with
    | lst hs ha => exact .lst (s _ _ hs) (DyrAll.mono s ds _ ha)
  | .tuple ds, _, h => by
    cases h with
    | tup hs ha => exact .tup (s _ _ hs) (DyrAll.mono s ds _ ha)
  | .dict _, _, h => by cases h
theorem DyrAll.mono {K : Fr} {Z Z' : Hp} (s : Same Z Z') : ∀ (ds : List PyData) (vs : List V), DyrAll K Z vs ds → DyrAll K Z' vs ds
  | [], _, h => by cases h; exact .nil
  | d :: ds, _, h => by
    cases h with
    | cons h1 h2 => exact .cons (Dyr.mono s d _ h1) (DyrAll.mono s ds _ h2)
end
mutual
/-- as the kit's == wants it -/
theorem Dyr.dp {K : Fr} {Z : Hp} : ∀ (d : PyData) (v : V), Dyr K Z v d → Dp K Z v d
  | .none, _, h => by cases h; exact .non
  | .bool b, _, h => by cases h; exact .bl b
  | .int i, _, h => by cases h; exact .int i
  | .str x, _, h => by cases h; exact .str x
  | .list ds, _, h => by
    cases h with
    | lst hs ha => exact .lst (SqL.of hs) (DyrAll.dp ds _ ha)
  | .tuple ds, _, h => by
    cases h with
    | tup hs ha => exact .tup (SqT.of hs) (DyrAll.dp ds _ ha)
  | .dict _, _, h => by cases h
theorem DyrAll.dp {K : Fr} {Z : Hp} : ∀ (ds : List PyData) (vs : List V), DyrAll K Z vs ds → DpAll K Z vs ds
  | [], _, h => by cases h; exact .nil
  | d :: ds, _, h => by
    cases h with
    | cons h1 h2 => exact .cons (Dyr.dp d _ h1) (DyrAll.dp ds _ h2)
end
instance : Py PyData := ⟨fun K Z v d => Dyr K Z v d, fun s h => Dyr.mono s _ _ h⟩
theorem dyAll_pr {K : Fr} {Z : Hp} : ∀ {vs : List V} {ds : List PyData}, DyrAll K Z vs ds → Paired (Py.R K Z) vs ds
  | _, _, .nil => .nil
  | _, _, .cons h t => .cons h (dyAll_pr t)
/-! ### typed data as data -/
class ToD (α : Type) [Py α] where
  td : α → PyData
  tr : ∀ {K : Fr} {Z : Hp} {v : V} {a : α}, Py.R K Z v a → Dyr K Z v (td a)
instance : ToD PyData := ⟨id, fun h => h⟩
instance : ToD Int := ⟨.int, fun {K Z v a} h => by cases (show v = V.int a from h); exact .int a⟩
instance : ToD Bool := ⟨.bool, fun {K Z v a} h => by cases (show v = V.bl a from h); exact .bl a⟩
instance : ToD Str := ⟨.str, fun {K Z v a} h => by cases (show v = V.str a from h); exact .str a⟩
instance : ToD Unit := ⟨fun _ => .none, fun {K Z v a} h => by cases (show v = V.non from h); exact .non⟩
theorem toAll {α : Type} [Py α] [ToD α] {K : Fr} {Z : Hp} : ∀ {vs : List V} {l : List α}, Paired (Py.R K Z) vs l → DyrAll K Z vs (l.map ToD.td)
  | _, _, .nil => .nil
  | _, _, .cons h t => .cons (ToD.tr h) (toAll t)
instance {α : Type} [Py α] [ToD α] : ToD (List α) := ⟨fun l => .list (l.map ToD.td), fun h => by
  obtain ⟨a, xs, rfl, hz, p⟩ := h
  exact .lst hz (toAll p)⟩
instance {α β : Type} [Py α] [ToD α] [Py β] [ToD β] : ToD (α × β) := ⟨fun p => .tuple [ToD.td p.1, ToD.td p.2], fun h => by
  obtain ⟨a, x, y, rfl, hz, h1, h2⟩ := h
  exact .tup hz (.cons (ToD.tr h1) (.cons (ToD.tr h2) .nil))⟩
instance {α : Type} [Py α] [ToD α] : ToD (Option α) := ⟨fun o => match o with | none => .none | some a => ToD.td a, fun {K Z v a} h => by
  cases a with
  | none => cases (show v = V.non from h); exact .non
  | some a => exact ToD.tr (show Py.R K Z v a from h)⟩
/-! ### data as typed data -/
class FromD (α : Type) [Py α] where
  fd : PyData → Option α
  ok : ∀ {K : Fr} {Z : Hp} {v : V} {d : PyData} {a : α}, fd d = some a → Dyr K Z v d → Py.R K Z v a
instance : FromD Int := ⟨fun d => match d with | .int i => some i | _ => none, fun {K Z v d a} e h => by
  cases d with
  | int i => cases e; cases h; rfl
  | _ => cases e⟩
instance : FromD Bool := ⟨fun d => match d with | .bool i => some i | _ => none, fun {K Z v d a} e h => by
  cases d with
  | bool i => cases e; cases h; rfl
  | _ => cases e⟩
instance : FromD Str := ⟨fun d => match d with | .str i => some i | _ => none, fun {K Z v d a} e h => by
  cases d with
  | str i => cases e; cases h; rfl
  | _ => cases e⟩
instance : FromD PyData := ⟨some, fun {K Z v d a} e h => by cases e; exact h⟩
instance {α β : Type} [Py α] [FromD α] [Py β] [FromD β] : FromD (α × β) := ⟨fun d => match d with
    | .tuple [x, y] => (match FromD.fd (α := α) x, FromD.fd (α := β) y with | some a, some b => some (a, b) | _, _ => none)
    | _ => none, fun {K Z v d a} e h => by
  split at e
  · rename_i x y
    split at e
    · rename_i p q h1 h2
      cases e
      cases h with
      | tup hs ha =>
        cases ha with
        | cons g1 g =>
          cases g with
          | cons g2 g3 =>
            cases g3
            exact ⟨_, _, _, rfl, hs, FromD.ok h1 g1, FromD.ok h2 g2⟩
    · cases e
  · cases e⟩
/-! ### what is asked of data -/
def dyItems : PyData → List PyData
  | .list l => l
  | .tuple l => l
  | _ => []
def dySeq : PyData → Bool
  | .list _ => true
  | .tuple _ => true
  | _ => false
def dyAt (d : PyData) (i : Int) : PyData := (atI (dyItems d) i).getD .none
def dyT : PyData → String
  | .none => "NoneType"
  | .bool _ => "bool"
  | .int _ => "int"
  | .str _ => "str"
  | .list _ => "list"
  | .tuple _ => "tuple"
  | .dict _ => "dict"
theorem Pt.dy {K : Fr} {Z H : Hp} {v : V} {d : PyData} (zh : Same Z H) (h : Py.R K Z v d) : Pt K H v (dyT d) := by
  have h : Dyr K Z v d := h
  cases h with
  | non => exact Pt.non ()
  | bl b => exact Pt.bl b
  | int i => exact Pt.int i
  | str x => exact Pt.str x
  | lst hs ha => exact .of (.base (.lst (zh _ _ hs)))
  | tup hs ha => exact .of (.base (.tup (zh _ _ hs)))
def rIxD (K : Fr) : R2 := fun x y H Q => rIxL K x y H Q ∨ rIxT K x y H Q
/-! == -/
end Cd

set_option Elab.async false
set_option linter.all false
set_option maxRecDepth 100000
set_option maxHeartbeats 4000000
namespace Cd
open PySem L2 PyProof.Rows
theorem RO.dy {α : Type} [Py α] [ToD α] {K : Fr} {Z H : Hp} {v : V} {l : List α} (h : RO K Z H v l) : RO K Z H v (l.map fun q => ToD.td q) := by
  obtain ⟨a, xs, e, hz, p⟩ := h
  exact ⟨a, xs, e, hz, dyAll_pr (toAll p)⟩
end Cd

set_option Elab.async false
set_option linter.all false
set_option maxRecDepth 100000
set_option maxHeartbeats 4000000
namespace Cd
open PySem L2 PyProof.Rows
/-! ### data: more kinds -/
instance : Inhabited PyData := ⟨.none⟩
instance {α β γ : Type} [Py α] [ToD α] [Py β] [ToD β] [Py γ] [ToD γ] : ToD (T3 α β γ) := ⟨fun p => .tuple [ToD.td p.x1, ToD.td p.x2, ToD.td p.x3], fun h => by
  obtain ⟨a, x, y, z, rfl, hz, h1, h2, h3⟩ := h
  exact .tup hz (.cons (ToD.tr h1) (.cons (ToD.tr h2) (.cons (ToD.tr h3) .nil)))⟩
instance {α β γ δ : Type} [Py α] [ToD α] [Py β] [ToD β] [Py γ] [ToD γ] [Py δ] [ToD δ] : ToD (T4 α β γ δ) := ⟨fun p => .tuple [ToD.td p.x1, ToD.td p.x2, ToD.td p.x3, ToD.td p.x4], fun h => by
  obtain ⟨a, x, y, z, w, rfl, hz, h1, h2, h3, h4⟩ := h
  exact .tup hz (.cons (ToD.tr h1) (.cons (ToD.tr h2) (.cons (ToD.tr h3) (.cons (ToD.tr h4) .nil))))⟩
instance {α : Type} [Py α] [ToD α] : ToD (TL α) := ⟨fun l => .tuple (l.l.map ToD.td), fun h => by
  obtain ⟨a, xs, rfl, hz, p⟩ := h
  exact .tup hz (toAll p)⟩
instance {α β γ : Type} [Py α] [FromD α] [Py β] [FromD β] [Py γ] [FromD γ] : FromD (T3 α β γ) := ⟨fun d => match d with
    | .tuple [x, y, z] => (match FromD.fd (α := α) x, FromD.fd (α := β) y, FromD.fd (α := γ) z with | some a, some b, some c => some ⟨a, b, c⟩ | _, _, _ => none)
    | _ => none, fun {K Z v d a} e h => by
  split at e
  · split at e
    · rename_i h1 h2 h3
      cases e
      cases h with
      | tup hs ha =>
        cases ha with
        | cons g1 g =>
          cases g with
          | cons g2 g =>
            cases g with
            | cons g3 g =>
              cases g
              exact ⟨_, _, _, _, rfl, hs, FromD.ok h1 g1, FromD.ok h2 g2, FromD.ok h3 g3⟩
    · cases e
  · cases e⟩
instance {α β γ δ : Type} [Py α] [FromD α] [Py β] [FromD β] [Py γ] [FromD γ] [Py δ] [FromD δ] : FromD (T4 α β γ δ) := ⟨fun d => match d with
    | .tuple [x, y, z, w] => (match FromD.fd (α := α) x, FromD.fd (α := β) y, FromD.fd (α := γ) z, FromD.fd (α := δ) w with | some a, some b, some c, some e => some ⟨a, b, c, e⟩ | _, _, _, _ => none)
    | _ => none, fun {K Z v d a} e h => by
  split at e
  · split at e
    · rename_i h1 h2 h3 h4
      cases e
      cases h with
      | tup hs ha =>
        cases ha with
        | cons g1 g =>
          cases g with
          | cons g2 g =>
            cases g with
            | cons g3 g =>
              cases g with
              | cons g4 g =>
                cases g
                exact ⟨_, _, _, _, _, rfl, hs, FromD.ok h1 g1, FromD.ok h2 g2, FromD.ok h3 g3, FromD.ok h4 g4⟩
    · cases e
  · cases e⟩
def fdAll {α : Type} [Py α] [FromD α] : List PyData → Option (List α)
  | [] => some []
  | d :: r => match FromD.fd (α := α) d, fdAll r with | some a, some l => some (a :: l) | _, _ => none
theorem fdAll_ok {α : Type} [Py α] [FromD α] {K : Fr} {Z : Hp} : ∀ {ds : List PyData} {vs : List V} {l : List α}, fdAll ds = some l → DyrAll K Z vs ds → Paired (Py.R K Z) vs l
  | [], _, _, e, h => by cases e; cases h; exact .nil
  | d :: r, _, _, e, h => by
    cases h with
    | cons h1 h2 =>
      unfold fdAll at e
      split at e
      · rename_i g1 g2
        cases e
        exact .cons (FromD.ok g1 h1) (fdAll_ok g2 h2)
      · cases e
instance {α : Type} [Py α] [FromD α] : FromD (List α) := ⟨fun d => match d with | .list ds => fdAll ds | _ => none, fun {K Z v d a} e h => by
  cases d with
  | list ds =>
    cases h with
    | lst hs ha => exact ⟨_, _, rfl, hs, fdAll_ok e ha⟩
  | _ => cases e⟩
instance {α : Type} [Py α] [FromD α] : FromD (TL α) := ⟨fun d => match d with | .tuple ds => (fdAll ds).map TL.mk | _ => none, fun {K Z v d a} e h => by
  cases d with
  | tuple ds =>
    cases h with
    | tup hs ha =>
      have e : (fdAll (α := α) ds).map TL.mk = some a := e
      cases g : fdAll (α := α) ds with
      | none => rw [g] at e; cases e
      | some l => rw [g] at e; cases e; exact ⟨_, _, rfl, hs, fdAll_ok g ha⟩
  | _ => cases e⟩
/-- there and back -/
class RtD (α : Type) [Py α] [ToD α] [FromD α] : Prop where
  rt : ∀ a : α, FromD.fd (ToD.td a) = some a
instance : RtD Int := ⟨fun _ => rfl⟩
instance : RtD Bool := ⟨fun _ => rfl⟩
instance : RtD Str := ⟨fun _ => rfl⟩
instance : RtD PyData := ⟨fun _ => rfl⟩
instance {α β : Type} [Py α] [ToD α] [FromD α] [RtD α] [Py β] [ToD β] [FromD β] [RtD β] : RtD (α × β) := ⟨fun p => by
  show (match FromD.fd (α := α) (ToD.td p.1), FromD.fd (α := β) (ToD.td p.2) with | some a, some b => some (a, b) | _, _ => none) = _
  rw [RtD.rt, RtD.rt]⟩
instance {α β γ : Type} [Py α] [ToD α] [FromD α] [RtD α] [Py β] [ToD β] [FromD β] [RtD β] [Py γ] [ToD γ] [FromD γ] [RtD γ] : RtD (T3 α β γ) := ⟨fun p => by
  show (match FromD.fd (α := α) (ToD.td p.x1), FromD.fd (α := β) (ToD.td p.x2), FromD.fd (α := γ) (ToD.td p.x3) with | some a, some b, some c => some (⟨a, b, c⟩ : T3 α β γ) | _, _, _ => none) = _
  rw [RtD.rt, RtD.rt, RtD.rt]⟩
instance {α β γ δ : Type} [Py α] [ToD α] [FromD α] [RtD α] [Py β] [ToD β] [FromD β] [RtD β] [Py γ] [ToD γ] [FromD γ] [RtD γ] [Py δ] [ToD δ] [FromD δ] [RtD δ] : RtD (T4 α β γ δ) := ⟨fun p => by
  show (match FromD.fd (α := α) (ToD.td p.x1), FromD.fd (α := β) (ToD.td p.x2), FromD.fd (α := γ) (ToD.td p.x3), FromD.fd (α := δ) (ToD.td p.x4) with | some a, some b, some c, some e => some (⟨a, b, c, e⟩ : T4 α β γ δ) | _, _, _, _ => none) = _
  rw [RtD.rt, RtD.rt, RtD.rt, RtD.rt]⟩
theorem rt_all {α : Type} [Py α] [ToD α] [FromD α] [RtD α] : ∀ l : List α, fdAll (l.map ToD.td) = some l
  | [] => rfl
  | a :: r => by
    rw [List.map_cons]
    unfold fdAll
    rw [RtD.rt, rt_all r]
instance {α : Type} [Py α] [ToD α] [FromD α] [RtD α] : RtD (List α) := ⟨fun l => rt_all l⟩
/-! an item of data, as typed data -/
/-! is None -/
def dyNone : PyData → Bool
  | .none => true
  | _ => false
theorem Rn.dy {α : Type} [Py α] [ToD α] {K : Fr} {H : Hp} {v : V} {a : α} (h : Rn K H v a) : Rn K H v (ToD.td a) := ⟨ToD.tr h.r⟩
theorem op_eqCK {X : Cx} {K : Fr} (e : X.K = K) (hu : X.A.units + 64 < cLine) : OpR X (compareOp .Eq) (rEqC K) := by subst e; exact op_eqC hu
theorem op_neCK {X : Cx} {K : Fr} (e : X.K = K) (hu : X.A.units + 64 < cLine) : OpR X (compareOp .NotEq) (rNeC K) := by subst e; exact op_neC hu
theorem k_ch2r {σ : L2.St} {H : Hp} {i j k : Int} {p1 p2 : Int → Int → Bool} {ta tb tc : TE} {D : L2.Ends} (ha : ∀ Q : VK, Q (.int i) H → ta σ H Q) (hb : ∀ Q : VK, Q (.int j) H → tb σ H Q) (hc : ∀ Q : VK, Q (.int k) H → tc σ H Q) (kk : D.rt (.bl (p1 i j && p2 j k)) H) : tRet (tChain (rC p1) (rC p2) ta tb tc) D σ H := k_ch2 ha hb hc kk
/-! ### x is True, of what may be None -/
def embB : Option Bool → V
  | none => .non
  | some b => .bl b
def rIsB (p : Bool) : R2 := fun x y H Q => ∃ (o : Option Bool) (b : Bool), x = embB o ∧ y = .bl b ∧ Q (.bl (p == decide (o = some b))) H
/-! ### lists of unlike kinds: the first four, and one more -/
/-! ### x or [] -/
/-! ### a class whose __init__ has defaults -/
/-- the tuple of a def's defaults, looked through -/
def relB2 : V → Value → Bool
  | .non, .none => true
  | .int i, .int j _ => decide (i = j)
  | _, _ => false
def relA2 : List V → List Value → Bool
  | [], [] => true
  | v :: vs, u :: us => relB2 v u && relA2 vs us
  | _, _ => false
def dflO (o : Obj) (dvs : List V) : Bool := match o.data with
  | .seq its _ => relA2 dvs its.toList
  | _ => false
/-- a new object within a try -/
def tMakeS (C : Addr) (sp : Sp) (dvs : List V) (E : L2.St → XK) (t : TA) : TE := fun σ H Q => t σ H fun vs H1 => ∀ x dx, H1 x = none → H1 dx = none → dx ≠ x →
  sp (.ref x :: (vs ++ dvs)) (upd (upd H1 dx (.own x)) x (.ins C dx [])) (fun v H2 => v = .non ∧ Q (.ref x) H2) (E σ)
/-- js: behind so many of the defaults' first ones the others stand -/
structure MakD (P : Program) (w : World) (K : PySem.W.Frag) (mg : Str → Option Value) (base : Heap) (CX : CXT) (k : Nat) (x : Str) (C : Addr) (ps : List Str) (dvs : List V) (js : List Nat) (sp : Sp) : Prop where
  ex : ∃ (f : Addr) (fd : FuncData), Mk K C f ∧ FnOk P w K mg base CX k f fd ps sp ∧ mg x = some (.ref C) ∧ ∀ j ∈ js, ∃ ds, Vals (dvs.drop j) ds ∧ Binds K fd ps ds
section
variable {X : Cx} {CX : CXT} {k : Nat} {C : Addr} {x : Str} {ps : List Str} {dvs : List V} {js : List Nat} {sp : Sp} {E : XK} {t : TA} {e : Expr} {es : List Expr} {p pos : Pos}
end
end Cd

set_option Elab.async false
set_option linter.all false
set_option maxRecDepth 100000
set_option maxHeartbeats 4000000
namespace Cd
open PySem L2 PyProof.Rows
/-! ### a list of five taken apart by a target -/
/-! ### list(x) if x is a list, else x -/
/-! ### text[::-1] -/
def revS (z : Str) : Str := mk (codes z).reverse
def tRevS (te : TE) : TE := fun σ H Q => te σ H fun x H1 => ∃ z, x = .str z ∧ z.length ≤ sizeLine ∧ Q (.str (revS z)) H1
end Cd

set_option Elab.async false
set_option linter.all false
set_option maxRecDepth 100000
set_option maxHeartbeats 4000000
namespace Cd
open PySem L2 PyProof.Rows
/-! ### a walk over a tuple that is data -/
def dyTup : PyData → Bool
  | .tuple _ => true
  | _ => false
/-! ### behind an expression a token is out -/
def PEk (X : Cx) (e : Expr) (t : TE) : Prop := ∀ (pins : List (Addr × Obj)) (s : Shared) (σ : L2.St) (H : Hp) (Q : VK), Inv X pins σ H s → t σ H Q → wpAny (model X.prog X.w) X.A (eval e X.env) (fun v s1 => 1 ≤ s1.toks ∧ EP X pins σ Q v s1) X.xe s
section
variable {X : Cx} {e f o : Expr} {te tf to : TE} {y z : Str} {j k : Nat} {c0 c1 apos pos p p' : Pos}
theorem pek_int {i : Int} : PEk X (.Constant (.int i) j pos) (tC (.int i)) := fun _ _ _ H _ I h => wpAny_Constant_int ⟨Nat.le_add_left _ _, .int i, H, I.tok _, ⟨_, rfl⟩, h⟩
theorem pekK {v : V} (h : PEk X e (tC v)) : PEk X e (tK v) := fun pins s σ H Q I q => h pins s σ H Q I q.2
theorem pet_replQ (ho : PE X o to) (hyz : (y == z) = false)
    (hst : starEach [.Constant (.str y) j c0, .Constant (.str z) k c1] X.env = [(false, eval (.Constant (.str y) j c0) X.env), (false, eval (.Constant (.str z) k c1) X.env)] := by rfl)
    (hbase : attributeBase o "replace" X.env (eval o X.env) = eval o X.env := by rfl) (hline : (apos.endLine == pos.line) = true := by rfl) :
    PET X (.Call (.Attribute o "replace" apos) [.Constant (.str y) j c0, .Constant (.str z) k c1] [] pos) (CwR.tReplC to y z) := CwR.pet_replC ho hyz hst hbase hline
end
end Cd

set_option Elab.async false
set_option linter.all false
set_option maxRecDepth 100000
set_option maxHeartbeats 4000000
namespace Cd
open PySem L2 PyProof.Rows
/-! ### a walk over a list that is data -/
def dyLst : PyData → Bool
  | .list _ => true
  | _ => false
end Cd

set_option Elab.async false
set_option linter.all false
set_option maxRecDepth 100000
set_option maxHeartbeats 4000000
namespace Cd
open PySem L2 PyProof.Rows
/-! ### Base.__init__(self, ..), a base class's own __init__ called by its name -/
structure BinX (P : Program) (w : World) (K : PySem.W.Frag) (mg : Str → Option Value) (base : Heap) (CX : CXT) (k : Nat) (x : Str) (A : Addr) (ps : List Str) (dvs : List V) (sp : Sp) : Prop where
  ex : ∃ (f : Addr) (fd : FuncData), CRd K A ∧ PySem.W.findCls K (.ref A) (.type "type") "__init__" = some (.val (.ref f)) ∧ PySem.W.keepIn K (.ref f) = true ∧ FnOk P w K mg base CX k f fd ps sp ∧ (∃ ds, Vals dvs ds ∧ Binds K fd ps ds) ∧ mg x = some (.ref A)
section
variable {X : Cx} {CX : CXT} {k : Nat} {A : Addr} {x : Str} {ps : List Str} {dvs : List V} {sp : Sp} {E : XK} {t : TA} {e : Expr} {es : List Expr} {p1 p2 pos : Pos}
end
end Cd

set_option Elab.async false
set_option linter.all false
set_option maxRecDepth 100000
set_option maxHeartbeats 4000000
namespace Cd
open PySem L2 PyProof.Rows
/-! ### {k: v, ..} of written keys and scalars -/
def dOf {κ α : Type} [DecidableEq κ] (l : List (κ × α)) : List (κ × α) := l.foldl (fun m q => dPut m q.1 q.2) []
/-- the pairs of a display that leaves the heap as it is -/
def tPW : List (TE × TE) → L2.St → Hp → (List (V × V) → Prop) → Prop
  | [], _, _, R => R []
  | (tk, tv) :: r, σ, H, R => tk σ H fun x H1 => H1 = H ∧ tv σ H fun y H2 => H2 = H ∧ tPW r σ H fun ps => R ((x, y) :: ps)
structure PPW (X : Cx) (pos : Pos) (keys : List (Option Expr)) (values : List Expr) (trs : List (TE × TE)) : Prop where
  run : ∀ (pins : List (Addr × Obj)) (s : Shared) (σ : L2.St) (H : Hp) (R : List (V × V) → Prop), Inv X pins σ H s → tPW trs σ H R →
    wpAny (model X.prog X.w) X.A (evalPairs (pairTrees keys values X.env pos)) (fun vs s' => ∃ ps, Inv X pins σ H s' ∧ VV ps vs ∧ R ps) X.xe s
@[irreducible] def rDispQ (H : Hp) (p : Addr) (ps : List (V × V)) (Q : VK) : Prop := ∃ kvs : List (Key × V), ps = kvs.map (fun kv => (kV kv.1, kv.2)) ∧ kvs.length ≤ 15 ∧ Q (.ref p) (upd H p (.dK (mergeK [] kvs)))
def tDispW (trs : List (TE × TE)) : TE := fun σ H Q => ∀ p, H p = none → tPW trs σ (upd H p (.dK [])) fun ps => rDispQ H p ps Q
end Cd

set_option Elab.async false
set_option linter.all false
set_option maxRecDepth 100000
set_option maxHeartbeats 4000000
namespace Cd
open PySem L2 PyProof.Rows
/-! ### isinstance(x, B), x an object of the class C under B -/
structure IsiC (K : Fr) (C B : Addr) : Prop where
  cl : Cls K C
  ha : PySem.W.findIn K (.ref C) "__class__" = some (some (.builtin "object.__class__"))
  hn : PySem.W.specialIn K (.builtin "object.__class__") "__get__" = some (some (.builtin "getset_descriptor.__get__"))
  ht : PySem.W.takesIn K (.builtin "object.__class__") = some true
  hm : PySem.W.mroIn K C (.type "object") = some true
  ki : PySem.W.kitOne K (.ref C) (.ref B) = some true
end Cd

set_option Elab.async false
set_option linter.all false
set_option maxRecDepth 100000
set_option maxHeartbeats 4000000
namespace Cd
open PySem L2 PyProof.Rows
/-! ### methods that refuse, called in a try -/
def tMethT (C : Addr) (m : Str) (sp : Sp) (E : L2.St → XK) (ta : TE) (t : TA) : TE := fun σ H Q => ta σ H fun x H1 => ∃ a dx fs, x = .ref a ∧ H1 a = some (.ins C dx fs) ∧ fs.lookup m = none ∧ t σ H1 fun vs H2 => sp (x :: vs) H2 Q (E σ)
theorem pe_mtXS {X : Cx} {CX : CXT} {k : Nat} {C : Addr} {m : Str} {ps : List Str} {sp : Sp} {E : L2.St → XK} {ta : TE} {t : TA} {o e : Expr} {es : List Expr} {pos apos : Pos} {pl : Sem Bool} (c : MetX X.prog X.w X.K X.mg X.base CX k C m ps sp) (hr : Room k X.A) (hx : ∀ σ, PassesAt CX X σ (E σ)) (he : PE X o ta) (ha : PA X (e :: es) t)
    (hst : starEach (e :: es) X.env = (false, eval e X.env) :: starEach es X.env := by rfl) (hpl : (backTo pos (starEach es X.env)).any (·.1) = false := by rfl)
    (ht : eval (.Call (.Attribute o m apos) (e :: es) [] pos) X.env = (do
      let ov ← eval o X.env
      standAt apos.atName
      let (f, first) ← holding [ov] (getMethod ov m pl)
      callWith pos f first (backTo pos (starEach (e :: es) X.env)) (backToKw pos (keywordEach [] X.env))) := by rfl) :
    PE X (.Call (.Attribute o m apos) (e :: es) [] pos) (tMethT C m sp E ta t) := by
  obtain ⟨f, fd, cl, hm, F, hb⟩ := c.ex
  refine ⟨fun pins s σ H Q I h => ?_⟩
  refine PySem.W.methodCall_KW (pl := pl) (thn (he.run pins s σ H _ I h) fun u s1 ⟨x, H1, I1, rx, a, dx, fs, ex, ea, l, q⟩ => ?_) ht
  subst ex
  obtain rfl : u = Value.ref a := rx
  refine getmeth_ok I1 ea cl hm l ?_
  refine PySem.W.callWith_K (first := [.ref a]) (h₀ := X.base) I.ok.mod.kin hm.kp (thn (ha.run pos pins s1 σ H1 _ I1 q) fun us s2 ⟨vs, H2, I2, r, q2⟩ => ⟨I2.kIn, ?_⟩) hst hpl
  exact run_fnS (us := .ref a :: us) (vs := .ref a :: vs) F hr hb (hx σ) I2 (.cons rfl r) q2
end Cd

set_option Elab.async false
set_option linter.all false
set_option maxRecDepth 100000
set_option maxHeartbeats 4000000
namespace Cd
open PySem L2 PyProof.Rows
section
variable {ok : List FaB} {fn : List He.DefD} {K : Fr}
theorem SaysB.fact (c : SaysB ok fn K) (i : Nat) {f : FaB} (h : ok[i]? = some f) : f K = true := by
  have c1 := (He.ba (show ((ok.all fun f => f K) && fn.all fun d => d.ok K) = true from congrArg (fun z : He.AlD => z.1) c)).1
  exact List.all_eq_true.mp c1 f (List.mem_of_getElem? h)
theorem SaysB.def_ (c : SaysB ok fn K) (i : Nat) {d : He.DefD} (h : fn[i]? = some d) : ∃ fd, FunD K d.name d.qual d.params d.body d.scope (d.dvs K) (d.kws K) (He.fAd K d.at_) fd := by
  have c2 := (He.ba (show ((ok.all fun f => f K) && fn.all fun d => d.ok K) = true from congrArg (fun z : He.AlD => z.1) c)).2
  have e : fn.map (fun d => He.fnW K d.at_) = fn.map He.DefD.val := congrArg (fun z : He.AlD => z.2) c
  have e2 : (fn.map fun d => He.fnW K d.at_)[i]? = (fn.map He.DefD.val)[i]? := by rw [e]
  rw [List.getElem?_map, List.getElem?_map, h] at e2
  exact He.DefD.funD (Option.some.inj e2) (List.all_eq_true.mp c2 d (List.mem_of_getElem? h))
end
theorem FunD.toFun {K : Fr} {x qual : Str} {st : Stmt} {f : Addr} {fd : FuncData} (F : FunD K x qual (defArgs st) (defBody st) (defScope st) [] [] f fd) : Fun K x qual st f fd := by
  obtain ⟨⟨oc, od, dV, kV, doc, pm, an, cdv, ct, osl, e, lk, cd, dv, kw⟩, kp⟩ := F
  rcases dv with ⟨_, rfl⟩ | ⟨h, _⟩
  · exact ⟨⟨oc, od, kV, doc, pm, an, cdv, ct, osl, e, lk, cd⟩, kp⟩
  · exact absurd rfl h
def fcB (o : Option PySem.W.CFound) (v : Value) : Bool := match o with
  | some (.val u) => decide (u = v)
  | _ => false
def oexK (K : Fr) (A : Addr) : Bool := match K.lookup A with
  | some o => oexO A o
  | none => false
/-- a law's end, the script's bits told, over facts by one look -/
theorem walk_ofBE {l : PySem.W.OpenLaw} {n k : Nat} {q : Program} {loose : List Str} {XP : (Str → Option Value) → Heap → Prop} {YP : World → Heap → Prop} {d : DefRec} {CX : CXT} {x : Str}
    (hn : l.most = some n) (hn2 : n ≤ sizeLine) (hdf : d.params.defaults = []) (hr : Room k callerA)
    (F : ∀ (w : World) (mg : Str → Option Value) (fa : Addr) (h : Heap), YP w h → h.Ns mainGlobals mg → mg d.name = some (.ref fa) →
      ∃ (K : Fr) (fd : FuncData) (sp : Sp), K.In h ∧ (∀ (s : Shared) (u : Value), BindsTo s fd ⟨[u], []⟩ [(x, u)]) ∧
        (∀ (H : Hp) (a : Addr) (ns : List Int), ns.length ≤ n → (∀ z ∈ ns, Builtin.Int.intBits z ≤ 1048576) → Only H → SqL K H a (ns.map V.int) → sp [.ref a] H (fun v _ => v = .bl true) fun _ _ _ => False) ∧
        ∀ base : Heap, K.In base → base.Ns mainGlobals mg → FnOk l.prog w K mg base CX k fa fd [x] sp)
    (hCX : ∀ (H : Hp) (s : Shared) (e : Value) (s' : Shared), CX [] H s (fun _ _ _ => False) e s' → False) :
    PySem.W.WalkO q loose XP YP l.row.toRowW d [] (fun f vs => PySem.call f vs) := by
  refine Att.attach_callB hn hdf fun w s₀ s₁ mg mb fa o pm cd doc a vs ns G Y ho hd hcd hmg hobj hints hlen hbits hg => ?_
  obtain ⟨K, fd, sp, KX, hb, hsp, hF⟩ := F w mg fa _ Y G.T.g hmg
  exact law_call KX G.T.g G.T.b G.T.builtins G.T.nolimit hg hobj hints (Nat.le_trans hlen hn2) hr hF hb (fun H hO hS => hsp H a ns hlen hbits hO hS) fun H e s' => hCX H s₁ e s'
end Cd

set_option Elab.async false
set_option linter.all false
set_option maxRecDepth 100000
set_option maxHeartbeats 4000000
namespace Cd
open PySem L2 PyProof.Rows
/-! ### a list of three taken apart by a target -/
/-! ### an attribute that a method leaves alone -/
def Sh.opq (v : V) : Sh Unit where
  R := fun _ _ _ u ps _ => u = v ∧ ps = []
  keep := fun _ _ h => h
  stands := fun ⟨_, e⟩ q hq => by rw [e] at hq; cases hq
instance {v : V} : MutS (Sh.opq v) := ⟨fun ⟨_, e⟩ q hq => by rw [e] at hq; cases hq⟩
theorem Sep.opq {K : Fr} {Z0 H0 Z H : Hp} {G : List Rt} (v : V) (h : Sep K Z0 H0 Z H G) : Sep K Z0 H0 Z H (⟨Sh.opq v, v, ()⟩ :: G) :=
  h.pushO (ps := []) ⟨⟨rfl, rfl⟩, List.nodup_nil, (fun _ h => nomatch h), (fun _ h => nomatch h)⟩ fun _ _ _ _ _ _ _ h => nomatch h
/-! ### a list of two unlike things of one's own -/
theorem SepF.lstV {K : Fr} {Z0 H0 Z H : Hp} {G G' : List Rt} {f : Nat → List Addr} {Q : VK} {is : List Nat} {vs : List V} {α β : Type} {T : ShL β} {b : β} {g : α → β} {a : α} (h : SepF K Z0 H0 Z H G f) (eb : b = g a) (r : RowF K H0 Z H G f is T vs b) (js : List Nat) (hj : js.Nodup) (hd : ∀ j ∈ js, j ∉ is) (e : js.map (fun j => G[j]?) = G'.map some) (hs : vs.length ≤ sizeLine)
    (k : ∀ p H', Step Z H Z H' → Sep K Z0 H0 Z H' (⟨(Sh.lst T).via g, .ref p, a⟩ :: G') → Q (.ref p) H') : rLstQ vs H Q := by
  refine ⟨hs, fun p hp => k p _ (Step.own h.st.zh hp) ?_⟩
  subst eb
  have h2 := h.laid (S := Sh.lst T) r js hj hd e hp (r.row.wrapL h.st hp)
  obtain ⟨ps, o, gg⟩ := h2.chg 0 rfl
  exact gg h2.st (Same.refl _) (fun q u _ hu => ⟨hu, rfl⟩) (OwnO.mkvia rfl o) fun _ h => .inl h
def Sh.lp {α β : Type} (S : Sh α) (T : Sh β) : Sh (α × β) := (Sh.lst (ShL.cons S (ShL.cons T ShL.nil))).via fun p => (p.1, (p.2, ()))
instance {α β : Type} {S : Sh α} {T : Sh β} : IsRef (Sh.lp S T) := inferInstanceAs (IsRef (Sh.via _ _))
def Sh.barL (xs : List V) : Sh Unit where
  R := fun _ _ H v ps _ => ∃ p, v = .ref p ∧ ps = [p] ∧ H p = some (.lst xs)
  keep := fun _ h ⟨p, e1, e2, h1⟩ => ⟨p, e1, e2, (h p (by rw [e2]; simp)).trans h1⟩
  stands := fun ⟨p, e1, e2, h1⟩ q hq => by rw [e2, List.mem_singleton] at hq; subst hq; exact ⟨_, h1⟩
end Cd

set_option Elab.async false
set_option linter.all false
set_option maxRecDepth 100000
set_option maxHeartbeats 4000000
namespace Cd
open PySem L2 PyProof.Rows
/-! ### {k: v, ..} of written keys; the values may be laid anew -/
def tPG : List (TE × TE) → L2.St → Hp → (List (V × V) → Hp → Prop) → Prop
  | [], _, H, R => R [] H
  | (tk, tv) :: r, σ, H, R => tk σ H fun x H1 => tv σ H1 fun y H2 => tPG r σ H2 fun ps H3 => R ((x, y) :: ps) H3
structure PPG (X : Cx) (pos : Pos) (keys : List (Option Expr)) (values : List Expr) (trs : List (TE × TE)) : Prop where
  run : ∀ (pins : List (Addr × Obj)) (s : Shared) (σ : L2.St) (H : Hp) (R : List (V × V) → Hp → Prop), Inv X pins σ H s → tPG trs σ H R →
    wpAny (model X.prog X.w) X.A (evalPairs (pairTrees keys values X.env pos)) (fun vs s' => ∃ ps H', Inv X pins σ H' s' ∧ VV ps vs ∧ R ps H') X.xe s
@[irreducible] def rDispG (H : Hp) (p : Addr) (ps : List (V × V)) (Q : VK) : Prop := H p = some (.dK []) ∧ ∃ kvs : List (Key × V), ps = kvs.map (fun kv => (kV kv.1, kv.2)) ∧ kvs.length ≤ 15 ∧ Q (.ref p) (upd H p (.dK (mergeK [] kvs)))
def tDispG (trs : List (TE × TE)) : TE := fun σ H Q => ∀ p, H p = none → tPG trs σ (upd H p (.dK [])) fun ps H2 => rDispG H2 p ps Q
end Cd

set_option Elab.async false
set_option linter.all false
set_option maxRecDepth 100000
set_option maxHeartbeats 4000000
namespace Cd
open PySem L2 PyProof.Rows
/-! ### a field of a refusal that was handed over -/
/-! ### a new object that may be refused, made within a try -/
/-! ### .. handed on to another def -/
end Cd

set_option Elab.async false
set_option linter.all false
set_option maxRecDepth 100000
set_option maxHeartbeats 4000000
namespace Cd
open PySem L2 PyProof.Rows
/-! ### a dict of one's own things; the things at the keys sk are taken out -/
section
variable {κ α : Type} [Sc κ] [DecidableEq κ] [Kt κ]
def entS (S : Sh α) (sk : κ → Bool) (K : Fr) (Z H : Hp) : List (Key × V) → List Addr → List (κ × α) → Prop
  | kvs, ps, [] => kvs = [] ∧ ps = []
  | kvs, ps, e :: r => ∃ v ws qs rs, kvs = (Kt.key e.1, v) :: ws ∧ ps = qs ++ rs ∧ (if sk e.1 = true then qs = [] else S.R K Z H v qs e.2) ∧ entS S sk K Z H ws rs r
variable {S : Sh α} {K : Fr} {Z Z' H H' : Hp}
theorem entS_keep {sk : κ → Bool} : ∀ {m : List (κ × α)} {kvs : List (Key × V)} {ps : List Addr}, Same Z Z' → (∀ q ∈ ps, H' q = H q) → entS S sk K Z H kvs ps m → entS S sk K Z' H' kvs ps m
  | [], _, _, _, _, h => h
  | e :: r, _, _, s, h, ⟨v, ws, qs, rs, e1, e2, h1, h2⟩ => by
    refine ⟨v, ws, qs, rs, e1, e2, ?_, entS_keep s (fun q hq => h q (by rw [e2]; exact List.mem_append_right _ hq)) h2⟩
    by_cases c : sk e.1 = true
    · rw [if_pos c] at h1 ⊢; exact h1
    · rw [if_neg c] at h1 ⊢; exact S.keep s (fun q hq => h q (by rw [e2]; exact List.mem_append_left _ hq)) h1
theorem entS_stands {sk : κ → Bool} : ∀ {m : List (κ × α)} {kvs : List (Key × V)} {ps : List Addr}, entS S sk K Z H kvs ps m → ∀ q ∈ ps, ∃ u, H q = some u
  | [], _, _, ⟨_, e⟩, q, hq => by rw [e] at hq; cases hq
  | e :: r, _, _, ⟨v, ws, qs, rs, e1, e2, h1, h2⟩, q, hq => by
    rw [e2] at hq
    rcases List.mem_append.mp hq with hq | hq
    · by_cases c : sk e.1 = true
      · rw [if_pos c] at h1; rw [h1] at hq; cases hq
      · rw [if_neg c] at h1; exact S.stands h1 q hq
    · exact entS_stands h2 q hq
end
/-- a dict, its values at hand, with the things at the keys sk taken out -/
def Sh.dP {κ α : Type} [Sc κ] [DecidableEq κ] [Kt κ] (kvs : List (Key × V)) (sk : κ → Bool) (S : Sh α) : Sh (Dct κ α) where
  R := fun K Z H v ps d => ∃ p qs, v = .ref p ∧ ps = p :: qs ∧ H p = some (.dK kvs) ∧ (d.kv.map fun e : κ × α => e.1).Nodup ∧ entS S sk K Z H kvs qs d.kv
  keep := fun s h ⟨p, qs, e1, e2, h1, nd, h2⟩ => ⟨p, qs, e1, e2, (h p (by rw [e2]; exact List.mem_cons_self)).trans h1, nd, entS_keep s (fun q hq => h q (by rw [e2]; exact List.mem_cons_of_mem _ hq)) h2⟩
  stands := fun ⟨p, qs, e1, e2, h1, nd, h2⟩ q hq => by
    rw [e2] at hq
    rcases List.mem_cons.mp hq with rfl | hq
    · exact ⟨_, h1⟩
    · exact entS_stands h2 q hq
def Sh.dS {α : Type} (κ : Type) [Sc κ] [DecidableEq κ] [Kt κ] (S : Sh α) : Sh (Dct κ α) where
  R := fun K Z H v ps d => ∃ kvs, (Sh.dP kvs (fun _ => false) S).R K Z H v ps d
  keep := fun s h ⟨kvs, r⟩ => ⟨kvs, (Sh.dP kvs (fun _ => false) S).keep s h r⟩
  stands := fun ⟨kvs, r⟩ q hq => (Sh.dP kvs (fun _ => false) S).stands r q hq
section
variable {κ α β : Type} [Sc κ] [DecidableEq κ] [Kt κ] {S : Sh α}
instance {kvs : List (Key × V)} {sk : κ → Bool} : IsRef (Sh.dP kvs sk S) := ⟨fun ⟨p, _, e, _⟩ => ⟨p, e⟩⟩
instance : IsRef (Sh.dS κ S) := ⟨fun ⟨_, p, _, e, _⟩ => ⟨p, e⟩⟩
theorem entS_mut [MutS S] {sk : κ → Bool} {K : Fr} {Z H : Hp} : ∀ {m : List (κ × α)} {kvs : List (Key × V)} {ps : List Addr}, entS S sk K Z H kvs ps m → ∀ q ∈ ps, ∃ u, H q = some u ∧ MutO u
  | [], _, _, ⟨_, e⟩, q, hq => by rw [e] at hq; cases hq
  | e :: r, _, _, ⟨v, ws, qs, rs, e1, e2, h1, h2⟩, q, hq => by
    rw [e2] at hq
    rcases List.mem_append.mp hq with hq | hq
    · by_cases c : sk e.1 = true
      · rw [if_pos c] at h1; rw [h1] at hq; cases hq
      · rw [if_neg c] at h1; exact MutS.mt h1 q hq
    · exact entS_mut h2 q hq
theorem entS_imm [ImmS S] {sk : κ → Bool} {K : Fr} {Z Z' H : Hp} (s : ∀ b u, Z b = some u → ¬ MutO u → Z' b = some u) : ∀ {m : List (κ × α)} {kvs : List (Key × V)} {ps : List Addr}, entS S sk K Z H kvs ps m → entS S sk K Z' H kvs ps m
  | [], _, _, h => h
  | e :: r, _, _, ⟨v, ws, qs, rs, e1, e2, h1, h2⟩ => by
    refine ⟨v, ws, qs, rs, e1, e2, ?_, entS_imm s h2⟩
    by_cases c : sk e.1 = true
    · rw [if_pos c] at h1 ⊢; exact h1
    · rw [if_neg c] at h1 ⊢; exact ImmS.imm s h1
theorem entS_dat [Py α] [Dat S] {K : Fr} {Z : Hp} : ∀ {m : List (κ × α)} {kvs : List (Key × V)} {ps : List Addr}, entS S (fun _ => false) K Z Z kvs ps m → Paired (EntK K Z) kvs m
  | [], _, _, ⟨e, _⟩ => by rw [e]; exact .nil
  | e :: r, _, _, ⟨v, ws, qs, rs, e1, e2, h1, h2⟩ => by
    rw [e1]
    exact .cons ⟨rfl, Dat.dat (by simpa using h1)⟩ (entS_dat h2)
instance [MutS S] : MutS (Sh.dS κ S) := ⟨fun ⟨kvs, p, qs, e1, e2, h1, _, h2⟩ q hq => by
  rw [e2] at hq
  rcases List.mem_cons.mp hq with rfl | hq
  · exact ⟨_, h1, trivial⟩
  · exact entS_mut h2 q hq⟩
instance [ImmS S] : ImmS (Sh.dS κ S) := ⟨fun s ⟨kvs, p, qs, e1, e2, h1, nd, h2⟩ => ⟨kvs, p, qs, e1, e2, h1, nd, entS_imm s h2⟩⟩
instance [Py α] [Dat S] : Dat (Sh.dS κ S) := ⟨fun ⟨kvs, p, qs, e1, e2, h1, nd, h2⟩ => ⟨p, kvs, e1, h1, entS_dat h2⟩⟩
variable {K : Fr} {Z0 H0 Z H : Hp} {G : List Rt} {v : V} {d : Dct κ α} {kvs : List (Key × V)} {sk : κ → Bool} {Q : VK}
end
end Cd

set_option Elab.async false
set_option linter.all false
set_option maxRecDepth 100000
set_option maxHeartbeats 4000000
namespace Cd
open PySem L2 PyProof.Rows
/-! ### an object of one of several classes: its methods -/
structure MetU (P : Program) (w : World) (K : PySem.W.Frag) (mg : Str → Option Value) (base : Heap) (CX : CXT) (k : Nat) (ns : List Str) (m : Str) (ps : List Str) (spn : Str → Sp) : Prop where
  ex : ∀ n ∈ ns, ∃ (C f : Addr) (fd : FuncData), PySem.W.nsIn K mainGlobals n = some (some (.ref C)) ∧ Cls K C ∧ Meth K C m f ∧ FnOk P w K mg base CX k f fd ps (spn n) ∧ Binds K fd ps []
section
variable {P : Program} {w : World} {K : PySem.W.Frag} {mg : Str → Option Value} {base : Heap} {CX : CXT} {j k : Nat} {ns : List Str} {m n : Str} {ps : List Str} {spn : Str → Sp} {C : Addr} {sp : Sp}
theorem MetU.nil : MetU P w K mg base CX k [] m ps spn := ⟨fun n hn => nomatch hn⟩
theorem MetU.cons (c : MetX P w K mg base CX j C m ps sp) (hj : j ≤ k) (nk : PySem.W.nsIn K mainGlobals n = some (some (.ref C))) (h : ∀ vs H Q E, spn n vs H Q E → sp vs H Q E) (r : MetU P w K mg base CX k ns m ps spn) : MetU P w K mg base CX k (n :: ns) m ps spn := by
  refine ⟨fun n' hn => ?_⟩
  rcases List.mem_cons.mp hn with rfl | hn
  · obtain ⟨f, fd, cl, hm, F, hb⟩ := c.ex
    exact ⟨C, f, fd, nk, cl, hm, (F.mono hj).imp h, hb⟩
  · exact r.ex n' hn
end
def tMethU (K : PySem.W.Frag) (ns : List Str) (m : Str) (spn : Str → Sp) (E : L2.St → XK) (ta : TE) (t : TA) : TE := fun σ H Q => ta σ H fun x H1 => ∃ n C a dx fs, n ∈ ns ∧ PySem.W.nsIn K mainGlobals n = some (some (.ref C)) ∧ x = .ref a ∧ H1 a = some (.ins C dx fs) ∧ fs.lookup m = none ∧ t σ H1 fun vs H2 => spn n (x :: vs) H2 Q (E σ)
section
variable {X : Cx} {CX : CXT} {k : Nat} {ns : List Str} {m : Str} {ps : List Str} {spn : Str → Sp} {ta : TE} {t : TA} {o e : Expr} {es : List Expr} {pos apos : Pos}
end
/-! what is known of such an object: the name of its class, its attributes' names -/
class UniS {α : Type} (S : Sh α) (nm : α → Str) (ns fl : List Str) : Prop where
  u : ∀ {K : Fr} {Z H : Hp} {v : V} {ps : List Addr} {a : α}, S.R K Z H v ps a → nm a ∈ ns ∧ ∃ C p dx fs, PySem.W.nsIn K mainGlobals (nm a) = some (some (.ref C)) ∧ v = .ref p ∧ H p = some (.ins C dx fs) ∧ ∀ m, m ∉ fl → fs.lookup m = none
class UniT (α : Type) [Py α] (nm : α → Str) (ns fl : List Str) : Prop where
  u : ∀ {K : Fr} {Z : Hp} {v : V} {a : α}, Py.R K Z v a → nm a ∈ ns ∧ ∃ C p dx fs, PySem.W.nsIn K mainGlobals (nm a) = some (some (.ref C)) ∧ v = .ref p ∧ Z p = some (.ins C dx fs) ∧ ∀ m, m ∉ fl → fs.lookup m = none
theorem OwnO.as {α β : Type} {S : Sh α} {T : Sh β} {K : Fr} {H0 Z H : Hp} {v : V} {ps : List Addr} {a : α} {b : β} (o : OwnO S K H0 Z H v ps a) (r : T.R K Z H v ps b) : OwnO T K H0 Z H v ps b := ⟨r, o.nd, o.nz, o.n0⟩
end Cd

set_option Elab.async false
set_option linter.all false
set_option maxRecDepth 100000
set_option maxHeartbeats 4000000
namespace Cd
open PySem L2 PyProof.Rows
/-! ### data of any kind of which every list is one's own -/
mutual
inductive Dyo (K : Fr) (Z H : Hp) : V → List Addr → PyData → Prop
  | non : Dyo K Z H .non [] .none
  | bl (b : Bool) : Dyo K Z H (.bl b) [] (.bool b)
  | int (i : Int) : Dyo K Z H (.int i) [] (.int i)
  | str (x : Str) : Dyo K Z H (.str x) [] (.str x)
  | lst {a : Addr} {xs : List V} {qs : List Addr} {ds : List PyData} : H a = some (.lst xs) → DyoAll K Z H xs qs ds → Dyo K Z H (.ref a) (a :: qs) (.list ds)
  | tup {a : Addr} {xs : List V} {qs : List Addr} {ds : List PyData} : Z a = some (.tup xs) → DyoAll K Z H xs qs ds → Dyo K Z H (.ref a) qs (.tuple ds)
inductive DyoAll (K : Fr) (Z H : Hp) : List V → List Addr → List PyData → Prop
  | nil : DyoAll K Z H [] [] []
  | cons {v : V} {vs : List V} {qs rs : List Addr} {d : PyData} {ds : List PyData} : Dyo K Z H v qs d → DyoAll K Z H vs rs ds → DyoAll K Z H (v :: vs) (qs ++ rs) (d :: ds)
end
section
variable {K : Fr} {Z Z' H H' : Hp}
mutual
theorem Dyo.keep (s : ∀ b u, Z b = some u → ¬ MutO u → Z' b = some u) : ∀ (d : PyData) (v : V) (ps : List Addr), (∀ q ∈ ps, H' q = H q) → Dyo K Z H v ps d → Dyo K Z' H' v ps d
  | .none, _, _, _, h => by cases h; exact .non
  | .bool b, _, _, _, h => by cases h; exact .bl b
  | .int i, _, _, _, h => by cases h; exact .int i
  | .str x, _, _, _, h => by cases h; exact .str x
  | .list ds, _, _, e, h => by
    cases h with
    | lst hs ha => exact .lst ((e _ List.mem_cons_self).trans hs) (DyoAll.keep s ds _ _ (fun q hq => e q (List.mem_cons_of_mem _ hq)) ha)
  | .tuple ds, _, _, e, h => by
    cases h with
    | tup hs ha => exact .tup (s _ _ hs fun z => z) (DyoAll.keep s ds _ _ e ha)
  | .dict _, _, _, _, h => by cases h
theorem DyoAll.keep (s : ∀ b u, Z b = some u → ¬ MutO u → Z' b = some u) : ∀ (ds : List PyData) (vs : List V) (ps : List Addr), (∀ q ∈ ps, H' q = H q) → DyoAll K Z H vs ps ds → DyoAll K Z' H' vs ps ds
  | [], _, _, _, h => by cases h; exact .nil
  | d :: ds, _, _, e, h => by
    cases h with
    | cons h1 h2 => exact .cons (Dyo.keep s d _ _ (fun q hq => e q (List.mem_append_left _ hq)) h1) (DyoAll.keep s ds _ _ (fun q hq => e q (List.mem_append_right _ hq)) h2)
end
mutual
theorem Dyo.mut : ∀ (d : PyData) (v : V) (ps : List Addr), Dyo K Z H v ps d → ∀ q ∈ ps, ∃ u, H q = some u ∧ MutO u
  | .none, _, _, h, q, hq => by cases h; cases hq
  | .bool b, _, _, h, q, hq => by cases h; cases hq
  | .int i, _, _, h, q, hq => by cases h; cases hq
  | .str x, _, _, h, q, hq => by cases h; cases hq
  | .list ds, _, _, h, q, hq => by
    cases h with
    | lst hs ha =>
      rcases List.mem_cons.mp hq with rfl | hq
      · exact ⟨_, hs, trivial⟩
      · exact DyoAll.mut ds _ _ ha q hq
  | .tuple ds, _, _, h, q, hq => by
    cases h with
    | tup hs ha => exact DyoAll.mut ds _ _ ha q hq
  | .dict _, _, _, h, _, _ => by cases h
theorem DyoAll.mut : ∀ (ds : List PyData) (vs : List V) (ps : List Addr), DyoAll K Z H vs ps ds → ∀ q ∈ ps, ∃ u, H q = some u ∧ MutO u
  | [], _, _, h, q, hq => by cases h; cases hq
  | d :: ds, _, _, h, q, hq => by
    cases h with
    | cons h1 h2 => exact (List.mem_append.mp hq).elim (Dyo.mut d _ _ h1 q) (DyoAll.mut ds _ _ h2 q)
end
mutual
theorem Dyo.dat : ∀ (d : PyData) (v : V) (ps : List Addr), Dyo K Z Z v ps d → Dyr K Z v d
  | .none, _, _, h => by cases h; exact .non
  | .bool b, _, _, h => by cases h; exact .bl b
  | .int i, _, _, h => by cases h; exact .int i
  | .str x, _, _, h => by cases h; exact .str x
  | .list ds, _, _, h => by
    cases h with
    | lst hs ha => exact .lst hs (DyoAll.dat ds _ _ ha)
  | .tuple ds, _, _, h => by
    cases h with
    | tup hs ha => exact .tup hs (DyoAll.dat ds _ _ ha)
  | .dict _, _, _, h => by cases h
theorem DyoAll.dat : ∀ (ds : List PyData) (vs : List V) (ps : List Addr), DyoAll K Z Z vs ps ds → DyrAll K Z vs ds
  | [], _, _, h => by cases h; exact .nil
  | d :: ds, _, _, h => by
    cases h with
    | cons h1 h2 => exact .cons (Dyo.dat d _ _ h1) (DyoAll.dat ds _ _ h2)
end
end
/-! no list in it -/
mutual
def immD : PyData → Bool
  | .list _ => false
  | .tuple xs => immA xs
  | .dict _ => false
  | _ => true
def immA : List PyData → Bool
  | [] => true
  | d :: ds => immD d && immA ds
end
mutual
theorem Dyr.imm {K : Fr} {Z H : Hp} : ∀ (d : PyData) (v : V), immD d = true → Dyr K Z v d → Dyo K Z H v [] d
  | .none, _, _, h => by cases h; exact .non
  | .bool b, _, _, h => by cases h; exact .bl b
  | .int i, _, _, h => by cases h; exact .int i
  | .str x, _, _, h => by cases h; exact .str x
  | .list ds, _, g, h => by simp [immD] at g
  | .tuple ds, _, g, h => by
    cases h with
    | tup hs ha => exact .tup hs (DyrAll.imm ds _ (by simpa [immD] using g) ha)
  | .dict _, _, g, h => by cases h
theorem DyrAll.imm {K : Fr} {Z H : Hp} : ∀ (ds : List PyData) (vs : List V), immA ds = true → DyrAll K Z vs ds → DyoAll K Z H vs [] ds
  | [], _, _, h => by cases h; exact .nil
  | d :: ds, _, g, h => by
    rw [immA, Bool.and_eq_true] at g
    cases h with
    | cons h1 h2 => exact .cons (qs := []) (rs := []) (Dyr.imm d _ g.1 h1) (DyrAll.imm ds _ g.2 h2)
end
def Sh.dy : Sh PyData where
  R := fun K Z H v ps d => Dyo K Z H v ps d
  keep := fun s h r => Dyo.keep (fun b u e _ => s b u e) _ _ _ h r
  stands := fun r q hq => let ⟨u, e, _⟩ := Dyo.mut _ _ _ r q hq; ⟨u, e⟩
instance : MutS Sh.dy := ⟨fun r q hq => Dyo.mut _ _ _ r q hq⟩
instance : ImmS Sh.dy := ⟨fun s r => Dyo.keep s _ _ _ (fun _ _ => rfl) r⟩
instance : Dat Sh.dy := ⟨fun r => Dyo.dat _ _ _ r⟩
end Cd

set_option Elab.async false
set_option linter.all false
set_option maxRecDepth 100000
set_option maxHeartbeats 4000000
namespace Cd
open PySem L2 PyProof.Rows
/-! ### walks over a dict, with a dict of one's own things at hand -/
theorem entS_fz {κ α : Type} [Sc κ] [DecidableEq κ] [Kt κ] {S : Sh α} [NDS S] {sk : κ → Bool} {K : Fr} {Z Z' H : Hp} (s : FzR Z Z') : ∀ {m : List (κ × α)} {kvs : List (Key × V)} {ps : List Addr}, entS S sk K Z H kvs ps m → entS S sk K Z' H kvs ps m
  | [], _, _, h => h
  | e :: r, _, _, ⟨v, ws, qs, rs, e1, e2, h1, h2⟩ => by
    refine ⟨v, ws, qs, rs, e1, e2, ?_, entS_fz s h2⟩
    by_cases c : sk e.1 = true
    · rw [if_pos c] at h1 ⊢; exact h1
    · rw [if_neg c] at h1 ⊢; exact NDS.fz s h1
instance {κ α : Type} [Sc κ] [DecidableEq κ] [Kt κ] {S : Sh α} [NDS S] : NDS (Sh.dS κ S) := ⟨fun s ⟨kvs, p, qs, e1, e2, h1, nd, h2⟩ => ⟨kvs, p, qs, e1, e2, h1, nd, entS_fz s h2⟩⟩
instance {nm : Str} {ns : List Str} : NDS (Sh.husk nm ns) := ⟨fun _ h => h⟩
mutual
theorem Dyr.fz {K : Fr} {Z Z' : Hp} (s : FzR Z Z') : ∀ (d : PyData) (v : V), Dyr K Z v d → Dyr K Z' v d
  | .none, _, h => by cases h; exact .non
  | .bool b, _, h => by cases h; exact .bl b
  | .int i, _, h => by cases h; exact .int i
  | .str x, _, h => by cases h; exact .str x
  | .list ds, _, h => by
    cases h with
    | lst hs ha => exact .lst (s.l hs) (DyrAll.fz s ds _ ha)
  | .tuple ds, _, h => by
    cases h with
    | tup hs ha => exact .tup (s.t hs) (DyrAll.fz s ds _ ha)
  | .dict _, _, h => by cases h
theorem DyrAll.fz {K : Fr} {Z Z' : Hp} (s : FzR Z Z') : ∀ (ds : List PyData) (vs : List V), DyrAll K Z vs ds → DyrAll K Z' vs ds
  | [], _, h => by cases h; exact .nil
  | d :: ds, _, h => by
    cases h with
    | cons h1 h2 => exact .cons (Dyr.fz s d _ h1) (DyrAll.fz s ds _ h2)
end
instance : ND PyData := ⟨fun s h => Dyr.fz s _ _ h⟩
class NDSL {β : Type} (T : ShL β) : Prop where
  fz : ∀ {K : Fr} {Z Z' H : Hp} {vs : List V} {ps : List Addr} {b : β}, FzR Z Z' → T.R K Z H vs ps b → T.R K Z' H vs ps b
instance : NDSL ShL.nil := ⟨fun _ h => h⟩
instance {α β : Type} {S : Sh α} {T : ShL β} [NDS S] [NDSL T] : NDSL (ShL.cons S T) := ⟨fun s ⟨v, ws, qs, rs, e1, e2, h1, h2⟩ => ⟨v, ws, qs, rs, e1, e2, NDS.fz s h1, NDSL.fz s h2⟩⟩
/-! ### sorted(d), keys texts -/
def rSortDSQ : List V → Hp → VK → Prop := fun xs H Q => ∃ (a : Addr) (kvs : List (Key × V)) (ks : List Str), xs = [.ref a] ∧ Rd H a (.dK kvs) ∧ kvs.map (·.1) = ks.map Sum.inr ∧ ks.length < 64 ∧ ∀ ys p, ys.Perm ks → sortedS ys = true → H p = none → Q (.ref p) (upd H p (.lst (ys.map V.str)))
end Cd

set_option Elab.async false
set_option linter.all false
set_option maxRecDepth 100000
set_option maxHeartbeats 4000000
namespace Cd
open PySem L2 PyProof.Rows
/-! ### a dict of one's own, locked while it is walked -/
section
variable {κ α : Type} [Sc κ] [DecidableEq κ] [Kt κ] [Py α] {K : Fr} {Z0 H0 Z H Z' H' : Hp} {G : List Rt} {d : Addr} {m : Dct κ α} {kvs : List (Key × V)} {od : Obj} {u : HO}
end
end Cd
namespace Cd
end Cd
namespace Cd
open PySem L2 PyProof.Rows
/-! ### attributes in a try: K by its name -/
theorem pe_fldK {X : Cx} {K : PySem.W.Frag} {e : Expr} {ta : TE} {f : Str} {pos : Pos} (eK : X.K = K) (he : PE X e ta) (hb : attributeBase e f X.env (eval e X.env) = eval e X.env) : PE X (.Attribute e f pos) (tFld K ta f) := by
  subst eK
  exact pe_fld he hb
theorem ps_fldK {X : Cx} {K : PySem.W.Frag} {o value : Expr} {ta tv : TE} {f : Str} {pos pos' : Pos} (eK : X.K = K) (ha : PE X o ta) (hv : PE X value tv) (hs : swapsWith value (some (.Attribute o f pos')) pos.line X.env = pure false) : PS X (.Assign [.Attribute o f pos'] value pos) (sFld K ta tv f) := by
  subst eK
  exact ps_fld ha hv hs
end Cd

set_option Elab.async false
set_option linter.all false
set_option maxRecDepth 100000
set_option maxHeartbeats 4000000
namespace Cd
open PySem L2 PyProof.Rows
/-! ### data of one's own, put together -/
section
variable {K : Fr} {Z0 H0 Z H : Hp} {G : List Rt}
end
/-! ### data of six taken apart by a target -/
/-! ### a part of one's own data, taken out and put in again -/
def Sh.dyX (xs : List V) (n : Nat) : Sh PyData where
  R := fun K Z H v ps d => ∃ a, v = .ref a ∧ Z a = some (.tup xs) ∧ dyTup d = true ∧ allX Sh.dy K Z H n xs ps (dyItems d)
  keep := fun s h ⟨a, e1, hz, t, r⟩ => ⟨a, e1, s _ _ hz, t, allX_keep s h r⟩
  stands := fun ⟨a, e1, hz, t, r⟩ q hq => allX_stands r q hq
section
variable {K : Fr} {Z0 H0 Z H : Hp} {G : List Rt} {v : V} {d : PyData} {i : Int}
end
section
variable {K : Fr} {Z H : Hp}
mutual
theorem imm_told : ∀ (d : PyData) (v : V) (ps : List Addr), immD d = true → Dyo K Z H v ps d → ps = [] ∧ Dyr K Z v d
  | .none, _, _, _, h => by cases h; exact ⟨rfl, .non⟩
  | .bool b, _, _, _, h => by cases h; exact ⟨rfl, .bl b⟩
  | .int i, _, _, _, h => by cases h; exact ⟨rfl, .int i⟩
  | .str x, _, _, _, h => by cases h; exact ⟨rfl, .str x⟩
  | .list ds, _, _, g, h => by simp [immD] at g
  | .tuple ds, _, _, g, h => by
    cases h with
    | tup hs ha =>
      obtain ⟨e, r⟩ := immA_told ds _ _ (by simpa [immD] using g) ha
      exact ⟨e, .tup hs r⟩
  | .dict _, _, _, g, h => by cases h
theorem immA_told : ∀ (ds : List PyData) (vs : List V) (ps : List Addr), immA ds = true → DyoAll K Z H vs ps ds → ps = [] ∧ DyrAll K Z vs ds
  | [], _, _, _, h => by cases h; exact ⟨rfl, .nil⟩
  | d :: ds, _, _, g, h => by
    rw [immA, Bool.and_eq_true] at g
    cases h with
    | cons h1 h2 =>
      obtain ⟨e1, r1⟩ := imm_told d _ _ g.1 h1
      obtain ⟨e2, r2⟩ := immA_told ds _ _ g.2 h2
      subst e1 e2
      exact ⟨rfl, .cons r1 r2⟩
end
end
section
variable {K : Fr} {Z0 H0 Z H : Hp} {G : List Rt} {v : V}
end
end Cd

set_option Elab.async false
set_option linter.all false
set_option maxRecDepth 100000
set_option maxHeartbeats 4000000
namespace Cd
open PySem L2 PyProof.Rows
/-! ### sum(xs), xs.index(x), a list of one's own things emptied -/
section
variable {K : Fr} {Z H : Hp} {Q : VK} {v : V}
end
/-! data that are no lists -/
end Cd

set_option Elab.async false
set_option linter.all false
set_option maxRecDepth 100000
set_option maxHeartbeats 4000000
namespace Cd
open PySem L2 PyProof.Rows
/-! ### while, the test of which changes the state -/
def whS {S : Type} (c : S → R (S × Bool)) (f : S → R S) : Nat → S → R S
  | 0, _ => .bad
  | n + 1, s => (c s).bind fun t => if t.2 = true then (f t.1).bind fun s' => whS c f n s' else .ok t.1
section
variable {S : Type} {W : S → Prop} {E : Er → Prop}
theorem Good.whS {c : S → R (S × Bool)} {f : S → R S} {n : Nat} {s : S} (h : Good (whS c f (n + 1) s) W E) : ∃ W' : S × Bool → Prop, Good (c s) W' E ∧ (∀ t, W' (t, true) → ∃ W2 : S → Prop, Good (f t) W2 E ∧ ∀ s', W2 s' → Good (Cd.whS c f n s') W E) ∧ ∀ t, W' (t, false) → W t :=
  ⟨_, Good.bnd h, fun t h => ⟨_, Good.bnd (Good.ifT rfl h), fun _ h => h⟩, fun t h => Good.ifF (fun e => nomatch e) h⟩
theorem Yes.whS {c : S → R (S × Bool)} {f : S → R S} {s : S} (I : S → Prop) (mu : S → Nat) (h0 : I s) (hc : ∀ s, I s → Yes (c s) fun t => if t.2 = true then Yes (f t.1) (fun s' => I s' ∧ mu s' < mu s) else W t.1) {n : Nat} (hn : mu s < n) : Yes (Cd.whS c f n s) W := by
  induction n generalizing s with
  | zero => omega
  | succ n ih =>
    refine Yes.bind (hc s h0) fun t ht => ?_
    obtain ⟨t, b⟩ := t
    cases b with
    | false => exact ⟨_, rfl, ht⟩
    | true => exact Yes.bind (P := fun s' => I s' ∧ mu s' < mu s) ht fun s' h' => ih h'.1 (by omega)
end
end Cd

set_option Elab.async false
set_option linter.all false
set_option maxRecDepth 100000
set_option maxHeartbeats 4000000
namespace Cd
open PySem L2 PyProof.Rows
/-! ### d.pop(k) of a dict of one's own -/
def rDPopQ (a : Addr) : V → Hp → VK → Prop := fun y H Q => ∃ (kvs : List (Key × V)) (k : Key) (v : V), H a = some (.dK kvs) ∧ y = kV k ∧ valV kvs k = some v ∧ Q v (upd H a (.dK (dropK kvs k)))
def tDPopQ (td ty : TE) : TE := fun σ H Q => td σ H fun x H1 => rIsD x H1 fun a => ty σ H1 fun y H2 => rDPopQ a y H2 Q
theorem pe_dpopQ {X : Cx} {o e : Expr} {td ty : TE} {apos cpos : Pos} (ho : PE X o td) (he : PE X e ty) (m : M1 X o "pop" apos e cpos) : PE X (.Call (.Attribute o "pop" apos) [e] [] cpos) (tDPopQ td ty) := pe_dpop1 ho he m
section
variable {κ α : Type} [Sc κ] [DecidableEq κ] [Kt κ] [Py α] {K : Fr} {Z H Z0 H0 Z' H' : Hp} {Q : VK}
theorem ent_drop {k : κ} : ∀ {kvs : List (Key × V)} {m : List (κ × α)}, Paired (EntK K Z) kvs m → Paired (EntK K Z) (dropK kvs (Kt.key k)) (dDrop m k)
  | _, _, .nil => .nil
  | p :: r, q :: s, .cons h t => by
    have ih := ent_drop (k := k) t
    unfold dropK dDrop at ih ⊢
    by_cases e : q.1 = k
    · rw [List.filter_cons_of_neg (by simpa using h.1.trans (by rw [e])), List.filter_cons_of_neg (by simpa using e)]; exact ih
    · rw [List.filter_cons_of_pos (by simpa using fun z => e (Kt.inj (h.1.symm.trans z))), List.filter_cons_of_pos (by simpa using e)]; exact .cons h ih
theorem k_dpop {m : Dct κ α} {q : Addr} {k0 : κ} (o : OwnD K H0 Z H q m) (h : k0 ∈ m.kv.map (·.1)) (k : ∀ y u, OwnD K H0 Z (upd H q u) q (⟨dDrop m.kv k0⟩ : Dct κ α) → Q y (upd H q u)) : rDPopQ q (Sc.emb k0) H Q := by
  obtain ⟨⟨xs, hz, pr⟩, nz, n0⟩ := o
  have hs : (dGet m.kv k0).isSome = true := by rw [dGet_isSome]; exact decide_eq_true h
  rcases ent_get k0 pr with ⟨h1, h2⟩ | ⟨w, c, h1, h2, h3⟩
  · rw [h2] at hs; cases hs
  · exact ⟨xs, Kt.key k0, w, hz, (Kt.emb_is k0).symm, h1, k _ _ ⟨⟨_, upd_same, ent_drop pr⟩, nz, n0⟩⟩
end
/-! ### refusals that bear nothing -/
def NPay : Er → Prop
  | .NoOrder _ _ => False
  | .Meet _ _ => False
  | _ => True
/-- a refusal that bears something is not looked for -/
def R.np {α : Type} (m : R α) : R α := match m with
  | .ex (.NoOrder _ _) => .bad
  | .ex (.Meet _ _) => .bad
  | m => m
@[simp] theorem R.np_ok {α : Type} (a : α) : (R.ok a).np = .ok a := rfl
theorem Good.np {α : Type} {m : R α} {W : α → Prop} {E : Er → Prop} (h : Good m.np W E) : Good m W (fun e => E e ∧ NPay e) := by
  cases m with
  | ok a => exact h
  | bad => exact h
  | ex e => cases e <;> first | exact ⟨h, trivial⟩ | exact h.elim
theorem ExR.np {ca : CA} {K : Fr} {Z H Z' H' : Hp} {e : Er} {c : Value} {d : Option Addr} (n : NPay e) (h : ExR ca K Z H e c d) : ExR ca K Z' H' e c d := by
  cases e <;> first | exact h | exact n.elim
/-! ### a token is out behind a test with a written number or text -/
def PTk (X : Cx) (e : Expr) (t : TT) : Prop := ∀ (pins : List (Addr × Obj)) (s : Shared) (σ : L2.St) (H : Hp) (Q : Bool → Hp → Prop), Inv X pins σ H s → t σ H Q → wpAny (model X.prog X.w) X.A (isTrue e X.env (eval e X.env)) (fun b s1 => 1 ≤ s1.toks ∧ TP X pins σ Q b s1) X.xe s
section
variable {X : Cx} {a b : Expr} {ta tb : TE} {pos : Pos}
theorem ptk_cmpR {op : CmpOp} {r : R2} (ho : OpR X (compareOp op) r) (ha : PE X a ta) (hb : PEk X b tb) (hm : behindInMarks op b = false) : PTk X (.Compare a [op] [b] pos) (tTest (tOp r ta tb)) := by
  intro pins s σ H Q I h
  refine PySem.wpAny_isTrue_Compare1 (thn (ha.run pins s σ H _ I h) fun v s1 ⟨x, H1, I1, r1, q1⟩ => wpAny_mono (hb pins s1 σ H1 _ I1 q1) (fun u s2 q => ?_) fun _ _ z => z) hm
  obtain ⟨hk, y, H2, I2, r2, q2⟩ := q
  refine wpAny_mono (PySem.wpAny_toks (ho pins s2 σ H2 x y v u _ I2 r1 r2 q2)) (fun c s3 q => ?_) fun _ _ z => z.2
  obtain ⟨hk2, z, H3, I3, r3, k, e, q3⟩ := q
  subst e
  cases r3
  exact wpAny_truthy_bool ⟨Nat.le_trans hk hk2, H3, I3, q3⟩
theorem pss_ifT {c : Expr} {as bs rest : List Stmt} {tc : TT} {t u v : TS} (hc : PTk X c tc) (ha : PSs X as t) (hb : PSs X bs u) (hr : PSsT X rest v) : PSs X (.If c as bs pos :: rest) (tSeq (tIfS tc t u) v) := by
  refine ⟨fun pins s σ H D I h => ?_⟩
  refine wpAny_execs_cons (wpAny_If (wpAny_mono (hc pins s σ H _ I h) (fun d s1 q => ?_) fun _ _ z => z))
  obtain ⟨hk, H1, I1, q1⟩ := q
  have fin : ∀ (f : Flow) (s2 : Shared), s1.toks ≤ s2.toks ∧ SP X pins { D with nx := v D } f s2 → _ := fun f s2 q => q
  have go : ∀ {st : List Stmt} {w : TS}, PSs X st w → w { D with nx := v D } σ H1 → wpAny (model X.prog X.w) X.A (execs st X.env) (fun f s2 => s1.toks ≤ s2.toks ∧ SP X pins { D with nx := v D } f s2) X.xe s1 := fun hp q => wpAny_mono (PySem.wpAny_toks (hp.run pins s1 σ H1 _ I1 q)) (fun _ _ q => q) fun _ _ z => z.2
  have end_ : ∀ (f : Flow) (s2 : Shared), s1.toks ≤ s2.toks ∧ SP X pins { D with nx := v D } f s2 → (match f with | .next => wpAny (model X.prog X.w) X.A (execs rest X.env) (SP X pins D) X.xe s2 | f => SP X pins D f s2) := fun f s2 ⟨hk2, q⟩ => by
    cases f with
    | next =>
      obtain ⟨σ', H', I', q⟩ := q
      exact hr pins s2 σ' H' D (Nat.le_trans hk hk2) I' q
    | ret v => exact q
    | brk => exact q
    | cont => exact q
  cases d with
  | true => exact wpAny_mono (go ha q1) (fun f s2 q => by have := end_ f s2 q; cases f <;> exact this) fun _ _ z => z
  | false => exact wpAny_mono (go hb q1) (fun f s2 q => by have := end_ f s2 q; cases f <;> exact this) fun _ _ z => z
theorem pst_expr {e : Expr} {te : TE} (he : PET X e te) (hs : swapsWith e none pos.line X.env = pure false := by rfl) : PST X (.Expr e pos) (tDrop te) := by
  intro pins s σ H D h0 I h
  exact wpAny_Expr_any (thn (he pins s σ H _ h0 I h) fun v s1 ⟨x, H1, I1, r1, q1⟩ => ⟨σ, H1, I1, q1⟩) I.quiet hs
end
section
variable {X : Cx} {CX : CXT} {x : Str} {k : Nat} {ps : List Str} {sp : Sp} {E : XK} {t : TA} {e o : Expr} {es : List Expr} {to : TE} {p pos apos cpos : Pos} {T id : String} {name : Str} {r : V → List V → Hp → VK → Prop}
theorem pet_cal (c : Cal X.prog X.w X.K X.mg X.base CX x k ps sp) (hr : Room k X.A) (hx : Passes CX X E) (ha : PAT X (e :: es) t) (hg : Gl X x := by rfl) (hdb : (x == ("__debug__" : Str)) = false := by decide)
    (he : starEach (e :: es) X.env = (false, eval e X.env) :: starEach es X.env := by rfl) (hpl : (backTo pos (starEach es X.env)).any (·.1) = false := by rfl) : PET X (.Call (.Name x p) (e :: es) [] pos) (tCall sp [] E t) := by
  obtain ⟨f, fd, F, hm, hk, hb⟩ := c.ex
  intro pins s σ H Q h0 I h
  refine wpAny_Call_Name_kw (ld_glob I hg hm ?_ hdb)
  refine PySem.W.callWith_K (h₀ := X.base) I.ok.mod.kin hk (thn (ha pos pins s σ H _ h0 I h) fun us s1 ⟨vs, H1, I1, r, q⟩ => ⟨I1.kIn, ?_⟩) he hpl
  exact run_fn F hr hb .nil hx I1 r q
theorem pet_bm (pa : PlainAttrs T) (slot : Slot T name id) (hty : typeOf (.builtin id) = pure (.type "method_descriptor")) (hm : MtR X id r) (ho : PE X o to) (ha : PAT X (e :: es) t)
    (hbase : attributeBase o name X.env (eval o X.env) = eval o X.env := by rfl)
    (hfew : ((backTo cpos (starEach (e :: es) X.env)).all (fun x => !x.1) && (backToKw cpos (keywordEach [] X.env)).all (fun x => x.1.isSome)
      && decide ((e :: es).length + ([] : List Keyword).length + (if ([] : List Keyword).isEmpty then 0 else 1) < 30)) = true := by rfl)
    (hline : (apos.endLine == cpos.line) = true := by rfl) (hs : starEach (e :: es) X.env = (false, eval e X.env) :: starEach es X.env := by rfl) (hplain : (backTo cpos (starEach es X.env)).any (·.1) = false := by rfl) :
    PET X (.Call (.Attribute o name apos) (e :: es) [] cpos) (tBM X.K T r to t) := by
  intro pins s σ H Q h0 I h
  refine wpAny_Call_method_late hbase hfew hline rfl (wpAny_mono (PySem.wpAny_toks (ho.run pins s σ H _ I h)) (fun v s1 q => ?_) fun _ _ z => z.2)
  obtain ⟨hk, x, H1, I1, r1, ty, q1⟩ := q
  obtain ⟨h1, h2⟩ := tyV_is I1 r1 ty
  refine ⟨T, id, pa, slot, hty, h1, h2, ?_⟩
  have hA := ha cpos pins s1 σ H1 _ (Nat.le_trans h0 hk) I1 q1
  rw [hs] at hA ⊢
  refine Calls.callWith_builtin (by show (false || (backTo cpos (starEach es X.env)).any (·.1)) = false; rw [hplain] <;> rfl) (Calls.evalArgs_plain ?_)
  exact thn hA fun us s2 ⟨vs, H2, I2, r2, q2⟩ => hm pins s2 σ H2 x vs v us Q I2 r1 r2 q2
theorem patOf (h : PA X es t) : PAT X es t := fun pos pins s σ H Q _ I q => h.run pos pins s σ H Q I q
theorem psstOne {st : Stmt} {t : TS} (h : PST X st t) : PSsT X [st] t := CwR.psst_one h
end
theorem pe_bm0K {X : Cx} {K : Fr} (eK : X.K = K) {T : String} {name : Str} {id : String} {r : V → List V → Hp → VK → Prop} {o : Expr} {to : TE} {apos cpos : Pos} (pa : PlainAttrs T) (slot : Slot T name id) (hty : typeOf (.builtin id) = pure (.type "method_descriptor")) (hm : MtR X id r) (ho : PE X o to)
    (hbase : attributeBase o name X.env (eval o X.env) = eval o X.env := by rfl) (hline : (apos.endLine == cpos.line) = true := by rfl) : PE X (.Call (.Attribute o name apos) [] [] cpos) (tBM0 K T r to) := by
  subst eK; exact pe_bm0 pa slot hty hm ho hbase hline
end Cd

set_option Elab.async false
set_option linter.all false
set_option maxRecDepth 100000
set_option maxHeartbeats 4000000
namespace Cd
open PySem L2 PyProof.Rows
open PySem.SeqAt (EqAt EqIn)
/-! ### == of pairs that hold a dict -/
section
variable {κ α β : Type} [Sc κ] [DecidableEq κ] [Kt κ] [Py α] [EqA α] [Py β] [EqA β]
theorem dGet_ofN {κ α : Type} [DecidableEq κ] {m : List (κ × α)} (nd : (m.map (·.1)).Nodup) {k : κ} {a : α} (h : (k, a) ∈ m) : dGet m k = some a := by
  induction m with
  | nil => cases h
  | cons p r ih =>
    rw [List.map_cons, List.nodup_cons] at nd
    rcases List.mem_cons.mp h with rfl | h
    · exact dGet_pos rfl
    · rw [dGet_neg (fun e => nd.1 (by rw [e]; exact List.mem_map_of_mem (f := (·.1)) h))]
      exact ih nd.2 h
theorem ent_both {K : Fr} {H : Hp} : ∀ {ks : List (Key × V)} {m n : List (κ × α)}, Paired (EntK K H) ks m → Paired (EntK K H) ks n → n.map (·.1) = m.map (·.1) ∧ ∀ p ∈ m, ∃ b, (p.1, b) ∈ n ∧ EqA.eqd p.2 b = true
  | _, _, _, .nil, .nil => ⟨rfl, fun _ h => nomatch h⟩
  | _, p :: m, q :: n, .cons r t, .cons r2 t2 => by
    obtain ⟨e1, e2⟩ := ent_both t t2
    have e : p.1 = q.1 := Kt.inj (r.1.symm.trans r2.1)
    refine ⟨by rw [List.map_cons, List.map_cons, e1, e], fun x hx => ?_⟩
    rcases List.mem_cons.mp hx with rfl | hx
    · exact ⟨q.2, by rw [e]; exact List.mem_cons_self, EqA.same r.2 r2.2⟩
    · obtain ⟨b, h1, h2⟩ := e2 x hx
      exact ⟨b, List.mem_cons_of_mem _ h1, h2⟩
theorem eqDs_same {K : Fr} {H : Hp} {ks : List (Key × V)} {m n : Dct κ α} (pa : Paired (EntK K H) ks m.kv) (pb : Paired (EntK K H) ks n.kv) (nd : (ks.map (·.1)).Nodup) : eqDs m n = true := by
  obtain ⟨e1, e2⟩ := ent_both pa pb
  have nk : (n.kv.map (·.1)).Nodup := by
    have := ent_keys pb
    rw [this] at nd
    rw [show (n.kv.map fun q => Kt.key q.1) = (n.kv.map (·.1)).map Kt.key by rw [List.map_map]; rfl] at nd
    exact (List.pairwise_map.mp nd).imp fun h e => h (by rw [e])
  unfold eqDs
  rw [Bool.and_eq_true, beq_iff_eq, List.all_eq_true]
  refine ⟨by rw [← pa.pLen, ← pb.pLen], fun p hp => ?_⟩
  obtain ⟨b, h1, h2⟩ := e2 p hp
  rw [dGet_ofN nk h1]; exact h2
theorem hitsDIn {X : Cx} {pins : List (Addr × Obj)} {σ : L2.St} {H : Hp} {s : Shared} {A : Around} (I : Inv X pins σ H s) (hu : A.units + EqA.dep α < cLine) {n : List (κ × α)} {kb : List (Key × V)} {vb : List (Key × Value)} (pb : Paired (EntK X.K H) kb n) (rb : KV kb vb) :
    ∀ {m : List (κ × α)} {ka : List (Key × V)} {va : List (Key × Value)}, Paired (EntK X.K H) ka m → KV ka va → PySem.W.KeqHitsIn X.prog X.w A s vb va (m.all fun p => match dGet n p.1 with | none => false | some b => EqA.eqd p.2 b)
  | _, _, _, .nil, .nil => .nil
  | _, _, (key, v) :: r, .cons (b := q) e t, .cons h t2 => by
    have e1 : Kt.key q.1 = key := e.1.symm.trans h.1
    rw [List.all_cons]
    have rr := rb.val key
    rw [← e1] at rr ⊢
    rcases ent_get q.1 pb with ⟨h1, h2⟩ | ⟨w, a, h1, h2, h3⟩
    · rw [h2]
      dsimp only
      rw [Bool.false_and]
      rw [h1] at rr
      refine .miss ?_
      cases hv : valueAt vb (Kt.key q.1) with
      | none => rfl
      | some y => rw [hv] at rr; exact rr.elim
    · rw [h2]
      dsimp only
      rw [h1] at rr
      obtain ⟨y, hy, ry⟩ := rr.some_of
      exact .hit hy ((EqA.at_ I e.2 h3 h.2 ry hu).inModel _ _) (hitsDIn I hu pb rb t t2)
/-- == alone -/
class EqE (α : Type) [Py α] where
  eqe : α → α → Bool
  dpe : Nat
  cmp : ∀ {X : Cx} {pins : List (Addr × Obj)} {σ : L2.St} {H : Hp} {s : Shared} {x y : V} {v u : Value} {a b : α} {A : Around}, Inv X pins σ H s → Py.R X.K H x a → Py.R X.K H y b → RelV x v → RelV y u → A.units + dpe < cLine →
    ∀ (E Q : Value → Shared → Prop), Q (.bool (eqe a b)) s → wpAny (model X.prog X.w) A (compareOp .Eq v u) Q E s
theorem kv_keys : ∀ {ka : List (Key × V)} {va : List (Key × Value)}, KV ka va → ka.map (·.1) = va.map (·.1)
  | _, _, .nil => rfl
  | _, _, .cons h t => by
    have ih := kv_keys t
    obtain ⟨h, _⟩ := h
    simp only [List.map_cons, ih, h]
theorem dict_in {X : Cx} {pins : List (Addr × Obj)} {σ : L2.St} {H : Hp} {s : Shared} {A : Around} {x y : V} {v u : Value} {a b : Dct κ α} (I : Inv X pins σ H s) (hx : Py.R X.K H x a) (hy : Py.R X.K H y b) (rx : RelV x v) (ry : RelV y u) (hu : A.units + (EqA.dep α + 1) < cLine) : EqIn X.prog X.w A s v u (eqDs a b) := by
  obtain ⟨p, ka, rfl, hp, h1⟩ := hx
  obtain ⟨q, kb, rfl, hq, h2⟩ := hy
  cases (show v = Value.ref p from rx); cases (show u = Value.ref q from ry)
  obtain ⟨_, ya, va, ra, da⟩ := (show ObjOk X.prog X.w H s.heap p (.dK ka) from I.hok p _ hp)
  obtain ⟨_, yb, vb, rb, db⟩ := (show ObjOk X.prog X.w H s.heap q (.dK kb) from I.hok q _ hq)
  by_cases e : p = q
  · subst e
    rw [hp] at hq; cases hq
    have nd : (ka.map (·.1)).Nodup := by
      obtain ⟨_, _, _, _, _, _, _, _, nd⟩ := da
      have : ka.map (·.1) = va.map (·.1) := by
        exact kv_keys ra
      rw [this]; exact nd
    rw [eqDs_same h1 h2 nd]
    exact (SeqAt.EqAt.same _).inModel _ _
  · have hits := hitsDIn (A := A.in1) I (by show A.units + 1 + _ < cLine; omega) h2 rb h1 ra
    have la : va.length = a.kv.length := by rw [← ra.length]; exact h1.pLen
    have lb : vb.length = b.kv.length := by rw [← rb.length]; exact h2.pLen
    refine SeqAt.EqIn.of_refs e fun E Q hQ => PySem.W.keq_eqIn (knd := mixKind X.prog X.w) ya yb da db (by omega) (fun _ => hits) ?_
    rw [la, lb]; exact hQ
theorem pair_eq {X : Cx} {pins : List (Addr × Obj)} {σ : L2.St} {H : Hp} {s : Shared} {x y : V} {v u : Value} {a b : Dct κ α × β} {A : Around} (I : Inv X pins σ H s) (hx : Py.R X.K H x a) (hy : Py.R X.K H y b) (rx : RelV x v) (ry : RelV y u) (hu : A.units + (max (EqA.dep α + 1) (EqA.dep β) + 1) < cLine)
    (E Q : Value → Shared → Prop) (hQ : Q (.bool (eqDs a.1 b.1 && EqA.eqd a.2 b.2)) s) : wpAny (model X.prog X.w) A (compareOp .Eq v u) Q E s := by
  obtain ⟨p, y0, y1, rfl, hp, h0, h1⟩ := hx
  obtain ⟨q, z0, z1, rfl, hq, k0, k1⟩ := hy
  cases (show v = Value.ref p from rx); cases (show u = Value.ref q from ry)
  obtain ⟨us, r1, p1, _⟩ := I.tuple (SqT.of hp)
  obtain ⟨ws, r2, p2, _⟩ := I.tuple (SqT.of hq)
  obtain ⟨u0, u1, rfl, a0, a1⟩ := vals2 r1
  obtain ⟨w0, w1, rfl, b0, b1⟩ := vals2 r2
  have e0 := dict_in (A := A.in1) I h0 k0 a0 b0 (by show A.units + 1 + _ < cLine; omega)
  have e1 := (EqA.at_ (A := A.in1) I h1 k1 a1 b1 (by show A.units + 1 + _ < cLine; omega)).inModel X.prog X.w
  refine SeqAt.rcIn_tuples (e := fun j => if j = 0 then eqDs a.1 b.1 else EqA.eqd a.2 b.2) p1 p2 (by omega) (fun j g1 g2 => ?_) ?_
  · have hj : j = 0 ∨ j = 1 := by simp at g1; omega
    rcases hj with rfl | rfl
    · exact e0
    · exact e1
  · have : ((List.range (min [u0, u1].toArray.size [w0, w1].toArray.size)).all (fun j => if j = 0 then eqDs a.1 b.1 else EqA.eqd a.2 b.2) && [u0, u1].toArray.size == [w0, w1].toArray.size) = (eqDs a.1 b.1 && EqA.eqd a.2 b.2) := by
      show ((List.range 2).all _ && _) = _
      simp [List.range_succ]
    rw [this]; exact hQ
instance : EqE (Dct κ α × β) where
  eqe a b := eqDs a.1 b.1 && EqA.eqd a.2 b.2
  dpe := max (EqA.dep α + 1) (EqA.dep β) + 1
  cmp := fun I hx hy rx ry hu E Q hQ => pair_eq I hx hy rx ry hu E Q hQ
instance : EqE (Option (Dct κ α × β)) where
  eqe a b := match a, b with
    | none, none => true
    | some a, some b => eqDs a.1 b.1 && EqA.eqd a.2 b.2
    | _, _ => false
  dpe := max (EqA.dep α + 1) (EqA.dep β) + 1
  cmp := fun {X pins σ H s x y v u a b A} I hx hy rx ry hu E Q hQ => by
    cases a with
    | none =>
      cases (show x = V.non from hx); cases (show v = Value.none from rx)
      cases b with
      | none => cases (show y = V.non from hy); cases (show u = Value.none from ry); exact (EqA.cmp (α := Unit) (A := A) (a := ()) (b := ()) I rfl rfl rfl rfl (by show A.units + 0 < cLine; omega)).1 _ _ E Q hQ
      | some b => exact (NnA.nn (α := Dct κ α × β) (a := b) I hy ry (by omega)).1.1.1 _ _ E Q hQ
    | some a =>
      cases b with
      | none => cases (show y = V.non from hy); cases (show u = Value.none from ry); exact (NnA.nn (α := Dct κ α × β) (a := a) I hx rx (by omega)).1.2.1 _ _ E Q hQ
      | some b => exact pair_eq (a := a) (b := b) I hx hy rx ry hu E Q hQ
end
/-! ### (a, b) + t[2:] of a tuple of two or three -/
section
variable {K : Fr} {Z H Z0 H0 : Hp} {Q : VK} {α β γ : Type} [Py α] [Py β] [Py γ]
end
end Cd

set_option Elab.async false
set_option linter.all false
set_option maxRecDepth 100000
set_option maxHeartbeats 4000000
namespace Cd
open PySem L2
/-! ### a walk that may be broken off -/
section
variable {γ : Type} {J : It} {g : TG} {tb : TS} {D : Ends} {σ : L2.St} {H Z : Hp} {L : List γ} {Y : γ → V → Hp → Hp → Prop}
end
section
variable {X : Cx} {e f : Expr} {te tf : TE} {pos : Pos}
end
end Cd

set_option Elab.async false
set_option linter.all false
set_option maxRecDepth 100000
set_option maxHeartbeats 4000000
namespace Cd
open PySem L2

structure Desk where
  trays : (Dct Str (List Str))
deriving Inhabited
def Desk.row (a : Desk) : ((Dct Str (List Str)) × Unit) := (a.trays, ())
def sh_Desk : Sh Desk := (Sh.objK "Desk" ["trays"] (ShL.cons (Sh.dc Str (List Str)) ShL.nil)).via Desk.row
instance : IsRef sh_Desk := inferInstanceAs (IsRef (Sh.via _ _))
instance : Py Desk := pyObj "Desk" ["trays"] Desk.row
instance : Dat sh_Desk := dat_obj
instance : MutS sh_Desk := mut_obj
instance : Nn Desk := ⟨fun h e => by obtain ⟨C, p, dx, vs, e0, e1, _⟩ := h; rw [e1] at e; cases e⟩
theorem fld_Desk_trays {K : Fr} {Z H : Hp} {v : V} {a : Desk} {A : Addr} {Q : V → Prop} (zh : Same Z H) (h : Py.R K Z v a) (nk : PySem.W.nsIn K mainGlobals "Desk" = some (some (.ref A))) (cl : Cls K A) (na : NoAttr K A "trays") (k : ∀ u, Py.R K Z u a.trays → Q u) : ∃ p C dx fs u, v = .ref p ∧ H p = some (.ins C dx fs) ∧ Cls K C ∧ NoAttr K C "trays" ∧ fs.lookup ("trays" : Str) = some u ∧ Q u := by
  obtain ⟨p, dx, vs, rfl, h1, hl, h3⟩ := objR.at h zh nk
  obtain ⟨v0, w0, rfl, g0, h3⟩ := h3
  obtain rfl := h3
  exact ⟨p, A, dx, _, v0, rfl, h1, cl, na, rfl, k _ g0⟩
/-! ### mirrors -/
noncomputable def m_is_card_b0 (sign_6 : Str) : R (LR (Unit) Bool) :=
  if (!inS sign_6 (" 0123456789ABCDEFGHIJKLMNOPQRSTUVWXYZ" : Str)) = true then (
  .ok (.ret false))
  else (
  .ok (.nxt ()))
noncomputable def m_is_card (a_text : Str) : R Bool :=
  chk (a_text.length ≤ sizeLine) (
if (!decide (((a_text).length : Int) = (40 : Int))) = true then (
  .ok false)
  else (
  R.bind (forL (fun (s_ : Unit) (q_ : Str) => m_is_card_b0 q_) () (chars a_text)) fun o_ => LR.go o_ (fun _ => (
  .ok true)) (fun v_ => .ok v_)))
noncomputable def m_card_of (a_text : Str) : R Str :=
  vl (Txt.ljust a_text (40 : Int)) fun card_1 => (
  R.bind (m_is_card card_1) fun r3 => (
if (!r3) = true then (
  .bad)
  else (
  .ok card_1)))
noncomputable def m_is_name_b0 (sign_3 : Str) : R (LR (Unit) Bool) :=
  if (!inS sign_3 ("abcdefghijklmnopqrstuvwxyz" : Str)) = true then (
  .ok (.ret false))
  else (
  .ok (.nxt ()))
noncomputable def m_is_name (a_text : Str) : R Bool :=
  R.bind (forL (fun (s_ : Unit) (q_ : Str) => m_is_name_b0 q_) () (chars a_text)) fun o_ => LR.go o_ (fun _ => (
  chk (a_text.length ≤ sizeLine) (
.ok (decide ((1 : Int) ≤ ((a_text).length : Int)) && decide (((a_text).length : Int) ≤ (8 : Int)))))) (fun v_ => .ok v_)
noncomputable def m_read_cards_b0 (found_14 : (List Str)) (word_18 : Str) : R ((List Str)) :=
  chk (word_18.length ≤ sizeLine) (
if (decide ((40 : Int) < ((word_18).length : Int))) = true then (
  .bad)
  else (
  chk (word_18.length + (word_18.length + 1) * (" " : Str).length ≤ 16777216) (
R.bind (m_card_of (Txt.replace word_18 ("_" : Str) (" " : Str))) fun r40 => (
chk (found_14.length < sizeLine) (
vl (found_14 ++ [r40]) fun found_47 => (
  .ok found_47))))))
noncomputable def m_read_cards (a_words : (List Str)) : R (List Str) :=
  vl ([] : (List Str)) fun found_1 => (
  R.bind (forR (fun (s_ : (List Str)) (q_ : Str) => m_read_cards_b0 s_ q_) found_1 a_words) fun found_14 => (
  .ok found_14))
noncomputable def m_new_name (a_word : Str) : R Str :=
  R.bind (m_is_name a_word).nx fun r1 => (
if (!r1) = true then (
  .ex .NoTray)
  else (
  .ok a_word))
noncomputable def m_is_row (a_words : (List Str)) : R Bool :=
  if (decide (("" : Str) ∈ a_words)) = true then (
  .ok false)
  else (
  chk (inR a_words.length (0 : Int)) (
vl (getI a_words (0 : Int)) fun word_4 => (
  if ((decide (word_4 = ("show" : Str))) || (decide (word_4 = ("drop" : Str)))) = true then (
  .ok (decide (((a_words).length : Int) = (2 : Int))))
  else (
  if (decide (word_4 = ("pour" : Str))) = true then (
  chk (((decide (((a_words).length : Int) = (6 : Int))) = true → inR a_words.length (2 : Int))) (
chk (((decide (((a_words).length : Int) = (6 : Int))) = true → inR a_words.length (4 : Int))) (
.ok ((decide (((a_words).length : Int) = (6 : Int))) && (!decide ((getI a_words (2 : Int)) = (getI a_words (4 : Int))))))))
  else (
  if (decide (word_4 = ("copy" : Str))) = true then (
  .ok (decide ((2 : Int) < ((a_words).length : Int))))
  else (
  R.bind (if (decide (word_4 ∈ (⟨[("deck" : Str), ("ask" : Str), ("read" : Str), ("plan" : Str)]⟩ : (TL Str)).l)) = true then (.ok (decide ((1 : Int) < ((a_words).length : Int)))) else .ok false) fun t16 => (
.ok t16)))))))
noncomputable def m_law_cell_at (a_law_script : Scr) (a_law_k : Int) : R Int :=
  if (decide (a_law_k < ((a_law_script).ns.length : Int))) = true then (
  chk (inR a_law_script.ns.length a_law_k) (
.ok (getI a_law_script.ns a_law_k)))
  else (
  .ok (0 : Int))
noncomputable def m_law_text_b0 (signs_1 : Str) (text_here_5 : Str) (number_6 : Int) (k_11 : Int) : R (Str × Int) :=
  chk (okIx signs_1 (number_6 % (37 : Int))) (
chk (text_here_5.length + (chS signs_1 (number_6 % (37 : Int))).length ≤ sizeLine) (
vl (text_here_5 ++ (chS signs_1 (number_6 % (37 : Int)))) fun text_here_30 => (
  vl (number_6 / (37 : Int)) fun number_32 => (
  .ok (text_here_30, number_32)))))
noncomputable def m_law_text_k0 (text_here_5 : Str) (number_6 : Int) : R (Str) :=
  .ok text_here_5
noncomputable def m_law_text (a_law_number : Int) : R Str :=
  vl (" 0123456789ABCDEFGHIJKLMNOPQRSTUVWXYZ" : Str) fun signs_1 => (
  vl ("" : Str) fun text_here_3 => (
  R.bind (forR (fun (s_ : Str × Int) (q_ : Int) => m_law_text_b0 signs_1 s_.1 s_.2 q_) (text_here_3, a_law_number) (rangeL 0 ((40 : Int)).toNat)) fun (s_ : Str × Int) => m_law_text_k0 s_.1 s_.2))
noncomputable def m_law_card (a_law_cell : Int) : R Str :=
  if (decide ((a_law_cell % (2 : Int)) = (0 : Int))) = true then (
  chk (IntMulOk (a_law_cell / (2 : Int)) ((((1 : Int) + ((5 : Int) * ((37 : Int) ^ ((13 : Int)).toNat))) + ((11 : Int) * ((37 : Int) ^ ((29 : Int)).toNat))) + ((3 : Int) * ((37 : Int) ^ ((36 : Int)).toNat)))) (
chk ((0 : Int) < ((37 : Int) ^ ((40 : Int)).toNat)) (
R.bind (m_law_text (((a_law_cell / (2 : Int)) * ((((1 : Int) + ((5 : Int) * ((37 : Int) ^ ((13 : Int)).toNat))) + ((11 : Int) * ((37 : Int) ^ ((29 : Int)).toNat))) + ((3 : Int) * ((37 : Int) ^ ((36 : Int)).toNat)))) % ((37 : Int) ^ ((40 : Int)).toNat))) fun r5 => (
.ok r5))))
  else (
  chk (IntMulOk (a_law_cell / (2 : Int)) (((7 : Int) + ((3 : Int) * ((10 : Int) ^ ((17 : Int)).toNat))) + ((10 : Int) ^ ((31 : Int)).toNat))) (
chk ((0 : Int) < ((10 : Int) ^ ((40 : Int)).toNat)) (
chk (((((a_law_cell / (2 : Int)) * (((7 : Int) + ((3 : Int) * ((10 : Int) ^ ((17 : Int)).toNat))) + ((10 : Int) ^ ((31 : Int)).toNat))) % ((10 : Int) ^ ((40 : Int)).toNat))).natAbs.log2 < 1920) (
vl (toStr (((a_law_cell / (2 : Int)) * (((7 : Int) + ((3 : Int) * ((10 : Int) ^ ((17 : Int)).toNat))) + ((10 : Int) ^ ((31 : Int)).toNat))) % ((10 : Int) ^ ((40 : Int)).toNat))) fun text_here_12 => (
  chk (MulSOk (" " : Str) ((a_law_cell / (2 : Int)) % (5 : Int))) (
chk ((Txt.mul (" " : Str) ((a_law_cell / (2 : Int)) % (5 : Int))).length + text_here_12.length ≤ sizeLine) (
chk (((Txt.mul (" " : Str) ((a_law_cell / (2 : Int)) % (5 : Int))) ++ text_here_12).length + (Txt.mul ("0" : Str) (40 : Int)).length ≤ sizeLine) (
chk ((((Txt.mul (" " : Str) ((a_law_cell / (2 : Int)) % (5 : Int))) ++ text_here_12) ++ (Txt.mul ("0" : Str) (40 : Int))).length ≤ sizeLine) (
.ok (cutS (((Txt.mul (" " : Str) ((a_law_cell / (2 : Int)) % (5 : Int))) ++ text_here_12) ++ (Txt.mul ("0" : Str) (40 : Int))) none (some (40 : Int))))))))))))
noncomputable def m_law_names_b0 (a_law_place : Int) (letters_1 : Str) (base_10 : (List Int)) (at_30 : Int) (names_here_40 : (List Str)) (k_44 : Int) : R ((List Str)) :=
  chk (inR base_10.length at_30) (
chk (IntMulOk k_44 ((1 : Int) + ((a_law_place / (8 : Int)) % (5 : Int)))) (
vl (((getI base_10 at_30) + (k_44 * ((1 : Int) + ((a_law_place / (8 : Int)) % (5 : Int))))) % (26 : Int)) fun other_64 => (
  chk ((cutL base_10 none (some at_30)).length + [other_64].length ≤ sizeLine) (
chk (((cutL base_10 none (some at_30)) ++ [other_64]).length + (cutL base_10 (some (at_30 + (1 : Int))) none).length ≤ sizeLine) (
vl (((cutL base_10 none (some at_30)) ++ [other_64]) ++ (cutL base_10 (some (at_30 + (1 : Int))) none)) fun some_68 => (
  chk (some_68.length < sizeLine) (
chk ((∀ number_90 ∈ some_68, okIx letters_1 number_90)) (
chk (((some_68.map (fun (number_90 : Int) => (chS letters_1 number_90))).map (·.length)).sum + (some_68.map (fun (number_90 : Int) => (chS letters_1 number_90))).length * ("" : Str).length ≤ 16777216) (
chk (names_here_40.length < sizeLine) (
vl (names_here_40 ++ [(Txt.join ("" : Str) (some_68.map (fun (number_90 : Int) => (chS letters_1 number_90))))]) fun names_here_121 => (
  .ok names_here_121)))))))))))
noncomputable def m_law_names (a_law_cell : Int) (a_law_place : Int) : R (List Str) :=
  vl ("abcdefghijklmnopqrstuvwxyz" : Str) fun letters_1 => (
  chk (-(2 ^ 62) ≤ ((1 : Int) + (a_law_cell % (8 : Int))) ∧ ((1 : Int) + (a_law_cell % (8 : Int))) < 2 ^ 62) (
chk ((rangeL 0 (((1 : Int) + (a_law_cell % (8 : Int)))).toNat).length < sizeLine) (
chk ((∀ k_4 ∈ (rangeL 0 (((1 : Int) + (a_law_cell % (8 : Int)))).toNat), CDivC a_law_cell (k_4 + (1 : Int)))) (
chk ((∀ k_4 ∈ (rangeL 0 (((1 : Int) + (a_law_cell % (8 : Int)))).toNat), IntMulOk k_4 k_4)) (
vl ((rangeL 0 (((1 : Int) + (a_law_cell % (8 : Int)))).toNat).map (fun (k_4 : Int) => (((a_law_cell / (k_4 + (1 : Int))) + (k_4 * k_4)) % (26 : Int)))) fun base_10 => (
  chk ((0 : Int) < ((base_10).length : Int)) (
vl (a_law_place % ((base_10).length : Int)) fun at_30 => (
  vl ([] : (List Str)) fun names_here_32 => (
  R.bind (forR (fun (s_ : (List Str)) (q_ : Int) => m_law_names_b0 a_law_place letters_1 base_10 at_30 s_ q_) names_here_32 (rangeL 0 ((4 : Int)).toNat)) fun names_here_40 => (
  .ok names_here_40))))))))))
noncomputable def m_law_word_j0 (text_here_1 : Str) : R (Str) :=
  chk (text_here_1.length + 2 ≤ sizeLine) (
chk (((Txt.split text_here_1 (" " : Str)).map (·.length)).sum + (Txt.split text_here_1 (" " : Str)).length * ("_" : Str).length ≤ 16777216) (
.ok (Txt.join ("_" : Str) (Txt.split text_here_1 (" " : Str)))))
noncomputable def m_law_word (a_law_text_here : Str) (a_law_whole : Bool) : R Str :=
  R.bind (if (!a_law_whole) = true then (
  chk (a_law_text_here.length ≤ sizeLine) (
vl (Txt.rstrip a_law_text_here) fun text_here_7 => (
  if (decide (text_here_7 = ("" : Str))) = true then (
  vl (" " : Str) fun text_here_11 => (
  .ok text_here_11))
  else (
  .ok text_here_7))))
  else (
  .ok a_law_text_here)) fun (s_ : Str) => m_law_word_j0 s_
noncomputable def m_law_kinds_NoTray  : R Bool :=
  vl [false, false, false, false] fun some_1 => (
  chk (some_1.length + [false, false, false, false].length ≤ sizeLine) (
vl (some_1 ++ [false, false, false, false]) fun some_8 => (
  .ok (true && (true && (!(decide (true ∈ some_8))))))))
noncomputable def m_Desk_there (a_self : Desk) (a_word : Str) : R Str :=
  if (!(decide (a_word ∈ ((a_self).trays).kv.map (·.1)))) = true then (
  .ex .NoTray)
  else (
  .ok a_word)
noncomputable def m_Desk_say (a_self : Desk) (a_row : Str) : R (Desk × (List Str)) :=
  chk (a_row.length + 2 ≤ sizeLine) (
vl (Txt.split a_row (" " : Str)) fun words_5 => (
  R.bind (m_is_row words_5).nx fun r11 => (
if (!r11) = true then (
  .bad)
  else (
  chk (inR words_5.length (0 : Int)) (
vl (getI words_5 (0 : Int)) fun word_18 => (
  if (decide (word_18 = ("deck" : Str))) = true then (
  chk (inR words_5.length (1 : Int)) (
R.bind (m_new_name (getI words_5 (1 : Int))) fun r23 => (
  R.bind (m_read_cards (cutL words_5 (some (2 : Int)) none)).nx fun r37 => (
chk ((a_self).trays.kv.length < sizeLine) (
vl (⟨dPut ((a_self).trays).kv r23 r37⟩ : (Dct Str (List Str))) fun self_trays_51 => (
  .ok ((⟨self_trays_51⟩ : Desk), ([] : (List Str)))))))))
  else (
  if (decide (word_18 = ("show" : Str))) = true then (
  chk (inR words_5.length (1 : Int)) (
R.bind (m_Desk_there (⟨(a_self).trays⟩ : Desk) (getI words_5 (1 : Int))).np fun r62 => (
chk (r62 ∈ ((a_self).trays).kv.map (·.1)) (
.ok ((⟨(a_self).trays⟩ : Desk), (dAt (a_self).trays r62))))))
  else (
  if (decide (word_18 = ("drop" : Str))) = true then (
  chk (inR words_5.length (1 : Int)) (
R.bind (m_Desk_there (⟨(a_self).trays⟩ : Desk) (getI words_5 (1 : Int))).np fun r90 => (
chk (r90 ∈ ((a_self).trays).kv.map (·.1)) (
vl (⟨dDrop ((a_self).trays).kv r90⟩ : (Dct Str (List Str))) fun self_trays_111 => (
  .ok ((⟨self_trays_111⟩ : Desk), ([] : (List Str))))))))
  else (
  if (decide (word_18 = ("copy" : Str))) = true then (
  .bad)
  else (
  if (decide (word_18 = ("pour" : Str))) = true then (
  .bad)
  else (
  .bad)))))))))))
noncomputable def m_law_no_tray (a_law_desk : Desk) (a_law_row : Str) : R (Desk × Bool) :=
  vl false fun refused_1 => (
  R.tr (
  R.bind (m_Desk_say a_law_desk a_law_row) fun r7 => (
  .ok r7.1))
 (fun (s_ : Desk) => (
  .ok (s_, refused_1)))
 (fun e_ => match e_ with
  | .NoTray  => (
  R.bind m_law_kinds_NoTray fun r35 => (
  .ok (a_law_desk, r35)))
  | _ => .bad))
noncomputable def m_law_shown_b0 (text_here_35 : Str) : R (LR (Unit) (((Desk × (Dct Str (List Str))) × (List ((List Str) × (List Str)))) × Bool)) :=
    .ok (.nxt ())
noncomputable def m_law_shown (a_law_desk : Desk) (a_law_trays : (Dct Str (List Str))) (a_law_name : Str) (a_law_held : (List ((List Str) × (List Str)))) : R (((Desk × (Dct Str (List Str))) × (List ((List Str) × (List Str)))) × Bool) :=
  if (!(decide (a_law_name ∈ (a_law_trays).kv.map (·.1)))) = true then (
  chk (("show " : Str).length + a_law_name.length ≤ sizeLine) (
R.bind (m_law_no_tray a_law_desk (("show " : Str) ++ a_law_name)) fun r4 => (
.ok (((r4.1, a_law_trays), a_law_held), r4.2))))
  else (
  chk (("show " : Str).length + a_law_name.length ≤ sizeLine) (
R.bind (m_Desk_say a_law_desk (("show " : Str) ++ a_law_name)).nx fun r14 => (
  chk (((!true) = false → a_law_name ∈ (a_law_trays).kv.map (·.1))) (
if ((!true) || (!decide ((r14.2 : (List Str)) = (dAt a_law_trays a_law_name)))) = true then (
  .ok (((r14.1, a_law_trays), a_law_held), false))
  else (
  R.bind (forL (fun (s_ : Unit) (q_ : Str) => m_law_shown_b0 q_) () r14.2) fun o_ => LR.go o_ (fun _ => (
  chk (r14.2.length < sizeLine) (
vl (r14.2 ++ [(Txt.mul ("7" : Str) (40 : Int))]) fun found_57 => (
  chk (a_law_held.length < sizeLine) (
vl (a_law_held ++ [(found_57, found_57)]) fun held_72 => (
  .ok (((r14.1, a_law_trays), held_72), true))))))) (fun v_ => .ok v_))))))
noncomputable def m_law_said (a_law_desk : Desk) (a_law_trays : (Dct Str (List Str))) (a_law_names_here : (List Str)) (a_law_cell : Int) (a_law_held : (List ((List Str) × (List Str)))) : R (((Desk × (Dct Str (List Str))) × (List ((List Str) × (List Str)))) × Bool) :=
  chk (inR a_law_names_here.length ((a_law_cell / (4 : Int)) % (4 : Int))) (
vl (getI a_law_names_here ((a_law_cell / (4 : Int)) % (4 : Int))) fun name_2 => (
  if (decide ((a_law_cell % (4 : Int)) = (2 : Int))) = true then (
  R.bind (m_law_shown a_law_desk a_law_trays name_2 a_law_held) fun r6 => (
.ok (((r6.1.1.1, r6.1.1.2), r6.1.2), r6.2)))
  else (
  if ((decide ((a_law_cell % (4 : Int)) = (3 : Int))) && (!(decide (name_2 ∈ (a_law_trays).kv.map (·.1))))) = true then (
  chk (("drop " : Str).length + name_2.length ≤ sizeLine) (
R.bind (m_law_no_tray a_law_desk (("drop " : Str) ++ name_2)) fun r19 => (
.ok (((r19.1, a_law_trays), a_law_held), r19.2))))
  else (
  if (decide ((a_law_cell % (4 : Int)) = (3 : Int))) = true then (
  chk (name_2 ∈ (a_law_trays).kv.map (·.1)) (
vl (⟨dDrop (a_law_trays).kv name_2⟩ : (Dct Str (List Str))) fun trays_34 => (
  chk (("drop " : Str).length + name_2.length ≤ sizeLine) (
R.bind (m_Desk_say a_law_desk (("drop " : Str) ++ name_2)).nx fun r37 => (
.ok (((r37.1, trays_34), a_law_held), (decide ((r37.2 : (List Str)) = ([] : (List Str))))))))))
  else (
  vl ((a_law_cell / (16 : Int)) % (4 : Int)) fun many_57 => (
  chk (-(2 ^ 62) ≤ many_57 ∧ many_57 < 2 ^ 62) (
chk ((rangeL 0 (many_57).toNat).length < sizeLine) (
R.bind (lcR (fun (k_60 : Int) => (
chk (IntMulOk k_60 (k_60 + (977 : Int))) (
R.bind (m_law_card ((a_law_cell / (64 : Int)) + (k_60 * (k_60 + (977 : Int))))) fun r64 => (
.ok (some r64))))) (rangeL 0 (many_57).toNat)) fun r66 => (
  chk (r66.length < sizeLine) (
R.bind (lcR (fun (text_here_88 : Str) => (
chk (text_here_88.length ≤ sizeLine) (
chk ((Txt.rstrip text_here_88).length ≤ sizeLine) (
R.bind (m_law_word text_here_88 (decide ((((a_law_cell / (64 : Int)) + (((Txt.rstrip text_here_88)).length : Int)) % (2 : Int)) = (0 : Int)))) fun r93 => (
.ok (some r93)))))) r66) fun r95 => (
  chk (a_law_trays.kv.length < sizeLine) (
vl (⟨dPut (a_law_trays).kv name_2 r66⟩ : (Dct Str (List Str))) fun trays_125 => (
  chk ([("deck" : Str), name_2].length + r95.length ≤ sizeLine) (
chk ((([("deck" : Str), name_2] ++ r95).map (·.length)).sum + ([("deck" : Str), name_2] ++ r95).length * (" " : Str).length ≤ 16777216) (
R.bind (m_Desk_say a_law_desk (Txt.join (" " : Str) ([("deck" : Str), name_2] ++ r95))).nx fun r129 => (
.ok (((r129.1, trays_125), a_law_held), (decide ((r129.2 : (List Str)) = ([] : (List Str)))))))))))))))))))))
noncomputable def m_Desk___init__  : R Desk :=
  vl (⟨[]⟩ : (Dct Str (List Str))) fun self_trays_1 => (
  .ok (⟨self_trays_1⟩ : Desk))
noncomputable def m_law_b0 (names_here_61 : (List Str)) (desks_128 : (List Desk)) (trays_129 : (List (Dct Str (List Str)))) (held_130 : (List ((List Str) × (List Str)))) (cell_136 : Int) : R (LR ((List Desk) × (List (Dct Str (List Str))) × (List ((List Str) × (List Str)))) Bool) :=
  vl (((((cell_136 % (2147483647 : Int)) * (48271 : Int)) % (2147483629 : Int)) % (3 : Int)) / (2 : Int)) fun who_156 => (
  chk (inR desks_128.length who_156) (
chk (inR trays_129.length who_156) (
R.bind (m_law_said (getI desks_128 who_156) (getI trays_129 who_156) names_here_61 cell_136 held_130) fun r160 => (
if (!r160.2) = true then (
  .ok (.ret false))
  else (
  .ok (.nxt ((setI desks_128 who_156 r160.1.1.1), (setI trays_129 who_156 r160.1.1.2), r160.1.2)))))))
noncomputable def m_law_b1 (names_here_61 : (List Str)) (desks_191 : (List Desk)) (trays_192 : (List (Dct Str (List Str)))) (held_193 : (List ((List Str) × (List Str)))) (k_199 : Int) : R (LR ((List Desk) × (List (Dct Str (List Str))) × (List ((List Str) × (List Str)))) Bool) :=
  chk (inR desks_191.length (k_199 % (2 : Int))) (
chk (inR trays_192.length (k_199 % (2 : Int))) (
chk (inR names_here_61.length ((k_199 / (2 : Int)) % (4 : Int))) (
R.bind (m_law_shown (getI desks_191 (k_199 % (2 : Int))) (getI trays_192 (k_199 % (2 : Int))) (getI names_here_61 ((k_199 / (2 : Int)) % (4 : Int))) held_193) fun r222 => (
if (!r222.2) = true then (
  .ok (.ret false))
  else (
  .ok (.nxt ((setI desks_191 (k_199 % (2 : Int)) r222.1.1.1), (setI trays_192 (k_199 % (2 : Int)) r222.1.1.2), r222.1.2)))))))
noncomputable def m_law_b2 (found_262 : (List Str)) (was_263 : (List Str)) : R (LR (Unit) Bool) :=
  if (!decide ((found_262 : (List Str)) = was_263)) = true then (
  .ok (.ret false))
  else (
  .ok (.nxt ()))
noncomputable def m_law_k1 (desks_191 : (List Desk)) (trays_192 : (List (Dct Str (List Str)))) (held_193 : (List ((List Str) × (List Str)))) : R (Bool) :=
  R.bind (forL (fun (s_ : Unit) (q_ : ((List Str) × (List Str))) => m_law_b2 q_.1 q_.2) () held_193) fun o_ => LR.go o_ (fun _ => (
  .ok true)) (fun v_ => .ok v_)
noncomputable def m_law_k0 (names_here_61 : (List Str)) (desks_128 : (List Desk)) (trays_129 : (List (Dct Str (List Str)))) (held_130 : (List ((List Str) × (List Str)))) : R (Bool) :=
  R.bind (forL (fun (s_ : (List Desk) × (List (Dct Str (List Str))) × (List ((List Str) × (List Str)))) (q_ : Int) => m_law_b1 names_here_61 s_.1 s_.2.1 s_.2.2 q_) (desks_128, trays_129, held_130) (rangeL 0 ((16 : Int)).toNat)) fun o_ => LR.go o_ (fun (s_ : (List Desk) × (List (Dct Str (List Str))) × (List ((List Str) × (List Str)))) => m_law_k1 s_.1 s_.2.1 s_.2.2) (fun v_ => .ok v_)
noncomputable def m_law (a_law_script : Scr) : R Bool :=
  R.bind (m_law_cell_at a_law_script (0 : Int)) fun r1 => (
R.bind (m_law_cell_at a_law_script (1 : Int)) fun r2 => (
R.bind (m_law_names r1 r2) fun r3 => (
  chk ((cutL r3 (some (1 : Int)) none).length < sizeLine) (
chk ((∀ name_16 ∈ (cutL r3 (some (1 : Int)) none), inR r3.length (0 : Int))) (
chk ((cutL r3 none (some (1 : Int))).length + (((cutL r3 (some (1 : Int)) none).filter (fun (name_16 : Str) => (!decide (name_16 = (getI r3 (0 : Int)))))).map (fun (name_16 : Str) => name_16)).length ≤ sizeLine) (
vl ((cutL r3 none (some (1 : Int))) ++ (((cutL r3 (some (1 : Int)) none).filter (fun (name_16 : Str) => (!decide (name_16 = (getI r3 (0 : Int)))))).map (fun (name_16 : Str) => name_16))) fun names_here_22 => (
  chk (-(2 ^ 63) ≤ (4 : Int) ∧ (4 : Int) < 2 ^ 63 ∧ names_here_22.length * ((4 : Int)).toNat ≤ sizeLine) (
vl (cutL (repL names_here_22 (4 : Int)) none (some (4 : Int))) fun names_here_61 => (
  R.bind m_Desk___init__ fun r71 => (
R.bind m_Desk___init__ fun r78 => (
vl [r71, r78] fun desks_85 => (
  vl [(⟨[]⟩ : (Dct Str (List Str))), (⟨[]⟩ : (Dct Str (List Str)))] fun trays_104 => (
  vl ([] : (List ((List Str) × (List Str)))) fun held_111 => (
  R.bind (forL (fun (s_ : (List Desk) × (List (Dct Str (List Str))) × (List ((List Str) × (List Str)))) (q_ : Int) => m_law_b0 names_here_61 s_.1 s_.2.1 s_.2.2 q_) (desks_85, trays_104, held_111) (cutL a_law_script.ns (some (2 : Int)) (some (63 : Int)))) fun o_ => LR.go o_ (fun (s_ : (List Desk) × (List (Dct Str (List Str))) × (List ((List Str) × (List Str)))) => m_law_k0 names_here_61 s_.1 s_.2.1 s_.2.2) (fun v_ => .ok v_)))))))))))))))
/-! ### promises -/
def sp_is_card (K : Fr) (ca : CA) : Sp := fun vs H Q _ => ∃ (Z : Hp) (a_text : Str), vs = [(.str a_text)] ∧ Same Z H ∧ Good (m_is_card a_text) (fun r_ => ∀ Z' H', Step Z H Z' H' → Q (.bl r_) H') NoE
def sp_card_of (K : Fr) (ca : CA) : Sp := fun vs H Q _ => ∃ (Z : Hp) (a_text : Str), vs = [(.str a_text)] ∧ Same Z H ∧ Good (m_card_of a_text) (fun r_ => ∀ Z' H', Step Z H Z' H' → Q (.str r_) H') NoE
def sp_is_name (K : Fr) (ca : CA) : Sp := fun vs H Q _ => ∃ (Z : Hp) (a_text : Str), vs = [(.str a_text)] ∧ Same Z H ∧ Good (m_is_name a_text) (fun r_ => ∀ Z' H', Step Z H Z' H' → Q (.bl r_) H') NoE
def sp_read_cards (K : Fr) (ca : CA) : Sp := fun vs H Q _ => ∃ (Z : Hp) (a_words : (List Str)) (v_words : V), vs = [v_words] ∧ Same Z H ∧ Py.R K Z v_words a_words ∧ Good (m_read_cards a_words) (fun r_ => NewO (Sh.lt Str) K Z H Q r_) NoE
def sp_new_name (K : Fr) (ca : CA) : Sp := fun vs H Q E => ∃ (Z : Hp) (a_word : Str), vs = [(.str a_word)] ∧ Same Z H ∧ Good (m_new_name a_word) (fun r_ => ∀ Z' H', Step Z H Z' H' → Q (.str r_) H') (fun e_ => ∀ Z' H' cls_ d_, Step Z H Z' H' → ExR ca K Z' H' e_ cls_ d_ → E cls_ d_ H')
def sp_is_row (K : Fr) (ca : CA) : Sp := fun vs H Q _ => ∃ (Z : Hp) (a_words : (List Str)) (v_words : V), vs = [v_words] ∧ Same Z H ∧ Py.R K Z v_words a_words ∧ Good (m_is_row a_words) (fun r_ => ∀ Z' H', Step Z H Z' H' → Q (.bl r_) H') NoE
def sp_law_cell_at (K : Fr) (ca : CA) : Sp := fun vs H Q _ => ∃ (Z : Hp) (a_law_script : Scr) (v_law_script : V) (a_law_k : Int), vs = [v_law_script, (.int a_law_k)] ∧ Same Z H ∧ Py.R K Z v_law_script a_law_script ∧ Good (m_law_cell_at a_law_script a_law_k) (fun r_ => ∀ Z' H', Step Z H Z' H' → Q (.int r_) H') NoE
def sp_law_text (K : Fr) (ca : CA) : Sp := fun vs H Q _ => ∃ (Z : Hp) (a_law_number : Int), vs = [(.int a_law_number)] ∧ Same Z H ∧ Good (m_law_text a_law_number) (fun r_ => ∀ Z' H', Step Z H Z' H' → Q (.str r_) H') NoE
def sp_law_card (K : Fr) (ca : CA) : Sp := fun vs H Q _ => ∃ (Z : Hp) (a_law_cell : Int), vs = [(.int a_law_cell)] ∧ Same Z H ∧ Good (m_law_card a_law_cell) (fun r_ => ∀ Z' H', Step Z H Z' H' → Q (.str r_) H') NoE
def sp_law_names (K : Fr) (ca : CA) : Sp := fun vs H Q _ => ∃ (Z : Hp) (a_law_cell : Int) (a_law_place : Int), vs = [(.int a_law_cell), (.int a_law_place)] ∧ Same Z H ∧ Good (m_law_names a_law_cell a_law_place) (fun r_ => NewO (Sh.lt Str) K Z H Q r_) NoE
def sp_law_word (K : Fr) (ca : CA) : Sp := fun vs H Q _ => ∃ (Z : Hp) (a_law_text_here : Str) (a_law_whole : Bool), vs = [(.str a_law_text_here), (.bl a_law_whole)] ∧ Same Z H ∧ Good (m_law_word a_law_text_here a_law_whole) (fun r_ => ∀ Z' H', Step Z H Z' H' → Q (.str r_) H') NoE
def sp_law_kinds_NoTray (K : Fr) (ca : CA) : Pn → Sp := fun p_ vs H Q _ => ∃ (Z : Hp) (x_a : Addr), vs = [.ref x_a] ∧ Same Z H ∧ Rf (.ref ca.NoTray) none x_a p_ ∧ Good m_law_kinds_NoTray (fun r_ => ∀ Z' H', Step Z H Z' H' → Q (.bl r_) H') NoE
def sp_Desk_there (K : Fr) (ca : CA) : Sp := fun vs H Q E => ∃ (Z : Hp) (a_self : Desk) (v_self : V) (a_word : Str), vs = [v_self, (.str a_word)] ∧ Same Z H ∧ Py.R K Z v_self a_self ∧ Good (m_Desk_there a_self a_word) (fun r_ => ∀ Z' H', Step Z H Z' H' → Q (.str r_) H') (fun e_ => ∀ Z' H' cls_ d_, Step Z H Z' H' → ExR ca K Z' H' e_ cls_ d_ → E cls_ d_ H')
def sp_Desk_say (K : Fr) (ca : CA) : Sp := fun vs H Q E => ∃ (Z : Hp) (a_self : Desk) (v_self : V) (ps_self : List Addr) (a_row : Str), vs = [v_self, (.str a_row)] ∧ Same Z H ∧ sh_Desk.R K Z H v_self ps_self a_self ∧ ps_self.Nodup ∧ (∀ q ∈ ps_self, Z q = none) ∧ Good (m_Desk_say a_self a_row) (fun r_ => ∀ (Z' H' : Hp) (ps' : List Addr), Step Z (delL H ps_self) Z' H' → OwnO sh_Desk K (delL H ps_self) Z' H' v_self ps' r_.1 → ∀ v2 qs', OwnO (Sh.lt Str) K (delL H ps_self) Z' H' v2 qs' r_.2 → (∀ q ∈ ps', q ∉ qs') → Q v2 H') (fun e_ => ∀ Z' H' ps' cls_ d_, Step Z (delL H ps_self) Z' H' → OwnO sh_Desk K (delL H ps_self) Z' H' v_self ps' a_self → ExR ca K Z' H' e_ cls_ d_ → E cls_ d_ H')
def sp_law_no_tray (K : Fr) (ca : CA) : Sp := fun vs H Q _ => ∃ (Z : Hp) (a_law_desk : Desk) (v_law_desk : V) (ps_law_desk : List Addr) (a_law_row : Str), vs = [v_law_desk, (.str a_law_row)] ∧ Same Z H ∧ sh_Desk.R K Z H v_law_desk ps_law_desk a_law_desk ∧ ps_law_desk.Nodup ∧ (∀ q ∈ ps_law_desk, Z q = none) ∧ Good (m_law_no_tray a_law_desk a_law_row) (fun r_ => ∀ (Z' H' : Hp) (ps' : List Addr), Step Z (delL H ps_law_desk) Z' H' → OwnO sh_Desk K (delL H ps_law_desk) Z' H' v_law_desk ps' r_.1 → Q (.bl r_.2) H') NoE
def sp_law_shown (K : Fr) (ca : CA) : Sp := fun vs H Q _ => ∃ (Z : Hp) (a_law_desk : Desk) (v_law_desk : V) (a_law_trays : (Dct Str (List Str))) (v_law_trays : V) (a_law_name : Str) (a_law_held : (List ((List Str) × (List Str)))) (v_law_held : V) (ps_LL : List Addr), vs = [v_law_desk, v_law_trays, (.str a_law_name), v_law_held] ∧ Same Z H ∧ (Sh.two (Sh.two sh_Desk (Sh.dc Str (List Str)) v_law_desk v_law_trays) (Sh.lt ((List Str) × (List Str))) .non v_law_held).R K Z H .non ps_LL ((a_law_desk, a_law_trays), a_law_held) ∧ ps_LL.Nodup ∧ (∀ q ∈ ps_LL, Z q = none) ∧ Good (m_law_shown a_law_desk a_law_trays a_law_name a_law_held) (fun r_ => ∀ (Z' H' : Hp) (ps' : List Addr), Step Z (delL H ps_LL) Z' H' → OwnO (Sh.two (Sh.two sh_Desk (Sh.dc Str (List Str)) v_law_desk v_law_trays) (Sh.lt ((List Str) × (List Str))) .non v_law_held) K (delL H ps_LL) Z' H' .non ps' r_.1 → Q (.bl r_.2) H') NoE
def sp_law_said (K : Fr) (ca : CA) : Sp := fun vs H Q _ => ∃ (Z : Hp) (a_law_desk : Desk) (v_law_desk : V) (a_law_trays : (Dct Str (List Str))) (v_law_trays : V) (a_law_names_here : (List Str)) (v_law_names_here : V) (a_law_cell : Int) (a_law_held : (List ((List Str) × (List Str)))) (v_law_held : V) (ps_LL : List Addr), vs = [v_law_desk, v_law_trays, v_law_names_here, (.int a_law_cell), v_law_held] ∧ Same Z H ∧ Py.R K Z v_law_names_here a_law_names_here ∧ (Sh.two (Sh.two sh_Desk (Sh.dc Str (List Str)) v_law_desk v_law_trays) (Sh.lt ((List Str) × (List Str))) .non v_law_held).R K Z H .non ps_LL ((a_law_desk, a_law_trays), a_law_held) ∧ ps_LL.Nodup ∧ (∀ q ∈ ps_LL, Z q = none) ∧ Good (m_law_said a_law_desk a_law_trays a_law_names_here a_law_cell a_law_held) (fun r_ => ∀ (Z' H' : Hp) (ps' : List Addr), Step Z (delL H ps_LL) Z' H' → OwnO (Sh.two (Sh.two sh_Desk (Sh.dc Str (List Str)) v_law_desk v_law_trays) (Sh.lt ((List Str) × (List Str))) .non v_law_held) K (delL H ps_LL) Z' H' .non ps' r_.1 → Q (.bl r_.2) H') NoE
def sp_Desk___init__ (K : Fr) (ca : CA) : Sp := fun vs H Q _ => ∃ (Z : Hp) (p_self dx_self : Addr), vs = [.ref p_self] ∧ Same Z (delL H [p_self, dx_self]) ∧ (∃ C_, PySem.W.nsIn K mainGlobals "Desk" = some (some (.ref C_)) ∧ H p_self = some (.ins C_ dx_self [])) ∧ H dx_self = some (.own p_self) ∧ Good m_Desk___init__ (fun r_ => ∀ (Z' H' : Hp) (ps' : List Addr), Step Z (delL H [p_self, dx_self]) Z' H' → OwnO sh_Desk K (delL H [p_self, dx_self]) Z' H' (.ref p_self) ps' r_ → Q .non H') NoE
def sp_law (K : Fr) : Sp := fun vs H Q _ => ∃ (Z : Hp) (a_law_script : Scr) (v_law_script : V), vs = [v_law_script] ∧ Same Z H ∧ Py.R K Z v_law_script a_law_script ∧ Good (m_law a_law_script) (fun r_ => ∀ Z' H', Step Z H Z' H' → Q (.bl r_) H') NoE
structure Txt (K : Fr) (mg : Str → Option Value) (ca : CA) (cb : CB) : Prop where
  cl_Desk : Cls K cb.Desk
  gc_Desk : mg "Desk" = some (.ref cb.Desk)
  nk_Desk : PySem.W.nsIn K mainGlobals "Desk" = some (some (.ref cb.Desk))
  na_Desk_trays : NoAttr K cb.Desk "trays"
  b_ValueError : mg "ValueError" = none
  b_isinstance : mg "isinstance" = none
  b_len : mg "len" = none
  b_list : mg "list" = none
  b_range : mg "range" = none
  b_str : mg "str" = none
  g_LETTERS : ∃ t, mg "LETTERS" = some (.str ("abcdefghijklmnopqrstuvwxyz" : Str) t)
  g_SIGNS : ∃ t, mg "SIGNS" = some (.str (" 0123456789ABCDEFGHIJKLMNOPQRSTUVWXYZ" : Str) t)
  g_WIDTH : ∃ t, mg "WIDTH" = some (.int 40 t)
  em_NoTray_NoTray : PySem.W.exmOne K (.ref ca.NoTray) (.ref ca.NoTray) = some true
  ex_NoTray : PySem.W.excIn K ca.NoTray [.type "ValueError", .type "Exception", .type "BaseException", .type "object"] "ValueError.__new__" = true
  gx_Meet : mg "Meet" = some (.ref ca.Meet)
  gx_NoAsking : mg "NoAsking" = some (.ref ca.NoAsking)
  gx_NoBoard : mg "NoBoard" = some (.ref ca.NoBoard)
  gx_NoCard : mg "NoCard" = some (.ref ca.NoCard)
  gx_NoField : mg "NoField" = some (.ref ca.NoField)
  gx_NoOrder : mg "NoOrder" = some (.ref ca.NoOrder)
  gx_NoPlan : mg "NoPlan" = some (.ref ca.NoPlan)
  gx_NoRow : mg "NoRow" = some (.ref ca.NoRow)
  gx_NoTray : mg "NoTray" = some (.ref ca.NoTray)
  gx_ShopError : mg "ShopError" = some (.ref ca.ShopError)
  ki_NoTray_Meet : PySem.W.kitOne K (.ref ca.NoTray) (.ref ca.Meet) = some false
  ki_NoTray_NoAsking : PySem.W.kitOne K (.ref ca.NoTray) (.ref ca.NoAsking) = some false
  ki_NoTray_NoBoard : PySem.W.kitOne K (.ref ca.NoTray) (.ref ca.NoBoard) = some false
  ki_NoTray_NoCard : PySem.W.kitOne K (.ref ca.NoTray) (.ref ca.NoCard) = some false
  ki_NoTray_NoField : PySem.W.kitOne K (.ref ca.NoTray) (.ref ca.NoField) = some false
  ki_NoTray_NoOrder : PySem.W.kitOne K (.ref ca.NoTray) (.ref ca.NoOrder) = some false
  ki_NoTray_NoPlan : PySem.W.kitOne K (.ref ca.NoTray) (.ref ca.NoPlan) = some false
  ki_NoTray_NoRow : PySem.W.kitOne K (.ref ca.NoTray) (.ref ca.NoRow) = some false
  ki_NoTray_ShopError : PySem.W.kitOne K (.ref ca.NoTray) (.ref ca.ShopError) = some true
  ki_NoTray_ValueError : PySem.W.kitOne K (.ref ca.NoTray) (.type "ValueError") = some true
  kx_NoTray : PySem.W.keepIn K (.ref ca.NoTray) = true
  su_NoTray : PySem.W.subIn K (.ref ca.NoTray) (.type "BaseException") = some true
  ty_NoTray : PySem.W.typeIn K (.ref ca.NoTray) = some (.type "type")
  xc_NoTray : ExcC K ca.NoTray
section
variable {P : Program} {w : World} {K : Fr} {mg : Str → Option Value} {base : Heap} {ca : CA} {cb : CB}
theorem sc_is_card : FnScope ["text", "sign"] ["text"] (defScope (topS 16)) := ⟨rfl, rfl, rfl, by decide +kernel, rfl, by decide +kernel, by decide +kernel⟩
theorem okf_is_card {f : Addr} {fd : FuncData} (F : Fun K "is_card" "is_card" (topS 16) f fd) (T : Txt K mg ca cb) : FnOk P w K mg base CX0 1 f fd ["text"] (sp_is_card K ca) := by
  refine F.ok sc_is_card (fun vs H0 Q E h => ?_) (fun cdv A outer s H0 vs Q E hr h => ?_)
  · obtain ⟨Z0, a_text, rfl, _⟩ := h
    rfl
  · obtain ⟨Z0, a_text, rfl, zh, hm⟩ := h
    obtain ⟨t_SIGNS, g_SIGNS⟩ := T.g_SIGNS
    obtain ⟨t_WIDTH, g_WIDTH⟩ := T.g_WIDTH
    have nd := sc_is_card.nd
    have hm_ := hm.opn; clear hm; obtain ⟨W, WE, hm, hW, hWE⟩ := hm_
    have hS := Sep.start (K := K) zh
    unfold m_is_card at hm
    refine ⟨_, (pss_cons (ps_if (pt_cmpR op_ne (pe_callB call_len_str (by rfl) T.b_len PySem.boot_len (pa_cons (pv 0) pnK)) (pcK (pe_glob (v := .int 40) rfl g_WIDTH ⟨_, rfl⟩)) (nomark _)) (pss_one (ps_ret (pcK pe_bl))) pss_nil) (pss_cons (ps_for PassesOwn.never rfl (pi_str (pv 0)) (pg_name (i := 1) nd rfl (Or.inl rfl)) (pss_one (ps_if (pt_cmpR op_notin_str (pv 1) (pcK (pe_glob (v := .str (" 0123456789ABCDEFGHIJKLMNOPQRSTUVWXYZ" : Str)) rfl g_SIGNS ⟨_, rfl⟩)) (by rfl)) (pss_one (ps_ret (pcK pe_bl))) pss_nil))) (pss_one (ps_ret (pcK pe_bl))))), ?_⟩
    obtain ⟨g1, hm⟩ := Good.chk hm
    refine ⟨_, rfl, ⟨trivial, ⟨_, rfl, g1, ⟨trivial, (k_neI ⟨_, rfl, (ite2 (fun e2 => ?_) (fun e3 => ?_))⟩)⟩⟩⟩⟩
    · skip
      have hm := Good.ifT e2 hm
      refine ⟨trivial, ?_⟩
      exact hW _ hm _ _ hS.st
    · skip
      have hm := Good.ifF e3 hm
      obtain ⟨W5, hm, hWW5⟩ := Good.bndW hm
      refine ⟨_, rfl, ⟨_, rfl, (forK (Z := Z0) (L := (chars a_text)) (src_str _) (fun rr σr Hr Zr => (∃ (w_sign : Option V), σr = [some (.str a_text), w_sign] ∧ Sep K Z0 H0 Zr Hr [] ∧ Same Z0 Zr ∧ (Good (forL (fun (s_ : Unit) (q_ : Str) => m_is_card_b0 q_) () rr) W5 WE))) ?_ ?_ ?_ ?_)⟩⟩
      · rintro rr σr Hr Zr hk
        obtain ⟨w_sign, rfl, hS, sm4, hm⟩ := hk
        exact ⟨sm4, hS.zh⟩
      · exact ⟨Z0, (none), rfl, hS.pick [] (by decide) rfl, Same.refl _, hm⟩
      · skip
        intro sign_6 r7 x8 sg9 H10 H11 Z12 mem13 dec14 hp15 y16
        obtain ⟨w_sign, rfl, hS, sm4, hm⟩ := hp15
        obtain ⟨W17, hm, hn18, hb19, hr20⟩ := Good.forL hm
        have hm : Good (m_is_card_b0 sign_6) _ _ := hm; unfold m_is_card_b0 at hm
        obtain ⟨rfl, rfl⟩ := y16
        refine (tgt1 ?_)
        refine ⟨_, rfl, ⟨trivial, ⟨_, _, rfl, rfl, ⟨_, rfl, (ite2 (fun e23 => ?_) (fun e24 => ?_))⟩⟩⟩⟩
        · skip
          have hm := Good.ifT e23 hm
          refine ⟨trivial, ?_⟩
          have hm := hr20 _ hm
          have hm := hWW5 _ hm
          exact hW _ hm _ _ hS.st
        · skip
          have hm := Good.ifF e24 hm
          have hm := hn18 _ hm
          exact ⟨_, (some (.str sign_6)), rfl, hS.pick [] (by decide) rfl, sm4, hm⟩
      · intro sg25 H26 Z27 hp28
        obtain ⟨w_sign, rfl, hS, sm4, hm⟩ := hp28
        have hm := hWW5 _ hm
        refine ⟨trivial, ?_⟩
        exact hW _ hm _ _ hS.st
theorem ok_is_card {f : Addr} {fd : FuncData} (F : Fun K "is_card" "is_card" (topS 16) f fd) (gm : mg "is_card" = some (.ref f)) (T : Txt K mg ca cb) : Cal P w K mg base CX0 "is_card" 1 ["text"] (sp_is_card K ca) :=
  ⟨⟨f, fd, okf_is_card F T, gm, F.kp, F.binds (ps := ["text"]) fun _ _ _ _ _ _ us hl => match us, hl with | [_], _ => rfl⟩⟩
theorem sc_card_of : FnScope ["text", "card"] ["text"] (defScope (topS 17)) := ⟨rfl, rfl, rfl, by decide +kernel, rfl, by decide +kernel, by decide +kernel⟩
theorem okf_card_of {f : Addr} {fd : FuncData} (F : Fun K "card_of" "card_of" (topS 17) f fd) (T : Txt K mg ca cb) (C_is_card : Cal P w K mg base CX0 "is_card" 1 ["text"] (sp_is_card K ca)) : FnOk P w K mg base CX0 2 f fd ["text"] (sp_card_of K ca) := by
  refine F.ok sc_card_of (fun vs H0 Q E h => ?_) (fun cdv A outer s H0 vs Q E hr h => ?_)
  · obtain ⟨Z0, a_text, rfl, _⟩ := h
    rfl
  · obtain ⟨Z0, a_text, rfl, zh, hm⟩ := h
    obtain ⟨t_WIDTH, g_WIDTH⟩ := T.g_WIDTH
    have nd := sc_card_of.nd
    have hm_ := hm.opn; clear hm; obtain ⟨W, WE, hm, hW, hWE⟩ := hm_
    have hS := Sep.start (K := K) zh
    unfold m_card_of at hm
    refine ⟨_, (pss_cons (ps_set (i := 1) nd rfl (Or.inl rfl) (pe_bmK (K := K) rfl PySem.F.plainAttrs_str PySem.F.slot_str_ljust PySem.F.type_str_ljust mt_ljust (pv 0) (pa_cons (pcK (pe_glob (v := .int 40) rfl g_WIDTH ⟨_, rfl⟩)) pnK))) (pss_cons (ps_if (ptK (pt_not (pt_val (pe_cal C_is_card (hr.mono (by decide)) pass0 (pa_cons (pv 1) pnK))))) (pss_one ps_never) pss_nil) (pss_one (ps_ret (pv 1))))), ?_⟩
    refine ⟨_, rfl, ⟨rfl, ⟨trivial, ⟨trivial, ⟨_, _, rfl, rfl, rfl, (storeS fun card_1 en2 => ?_)⟩⟩⟩⟩⟩
    have hm := Good.vl en2 hm
    refine ⟨trivial, ⟨_, rfl, ⟨trivial, ⟨_, _, rfl, hS.zh, (Good.bnd hm).imp (fun r3 hm => fun Z4 H5 st6 => ?_) hWE⟩⟩⟩⟩
    have hS := hS.step st6
    refine ⟨_, rfl, (ite2 (fun e7 => ?_) (fun e8 => ?_))⟩
    · skip
      have hm := Good.ifT e7 hm
      exact hm.elim
    · skip
      have hm := Good.ifF e8 hm
      refine ⟨_, rfl, ?_⟩
      exact hW _ hm _ _ hS.st
theorem ok_card_of {f : Addr} {fd : FuncData} (F : Fun K "card_of" "card_of" (topS 17) f fd) (gm : mg "card_of" = some (.ref f)) (T : Txt K mg ca cb) (C_is_card : Cal P w K mg base CX0 "is_card" 1 ["text"] (sp_is_card K ca)) : Cal P w K mg base CX0 "card_of" 2 ["text"] (sp_card_of K ca) :=
  ⟨⟨f, fd, okf_card_of F T C_is_card, gm, F.kp, F.binds (ps := ["text"]) fun _ _ _ _ _ _ us hl => match us, hl with | [_], _ => rfl⟩⟩
theorem sc_is_name : FnScope ["text", "sign"] ["text"] (defScope (topS 37)) := ⟨rfl, rfl, rfl, by decide +kernel, rfl, by decide +kernel, by decide +kernel⟩
theorem okf_is_name {f : Addr} {fd : FuncData} (F : Fun K "is_name" "is_name" (topS 37) f fd) (T : Txt K mg ca cb) : FnOk P w K mg base CX0 1 f fd ["text"] (sp_is_name K ca) := by
  refine F.ok sc_is_name (fun vs H0 Q E h => ?_) (fun cdv A outer s H0 vs Q E hr h => ?_)
  · obtain ⟨Z0, a_text, rfl, _⟩ := h
    rfl
  · obtain ⟨Z0, a_text, rfl, zh, hm⟩ := h
    obtain ⟨t_LETTERS, g_LETTERS⟩ := T.g_LETTERS
    have nd := sc_is_name.nd
    have hm_ := hm.opn; clear hm; obtain ⟨W, WE, hm, hW, hWE⟩ := hm_
    have hS := Sep.start (K := K) zh
    unfold m_is_name at hm
    refine ⟨_, (pss_cons (ps_for PassesOwn.never rfl (pi_str (pv 0)) (pg_name (i := 1) nd rfl (Or.inl rfl)) (pss_one (ps_if (pt_cmpR op_notin_str (pv 1) (pcK (pe_glob (v := .str ("abcdefghijklmnopqrstuvwxyz" : Str)) rfl g_LETTERS ⟨_, rfl⟩)) (by rfl)) (pss_one (ps_ret (pcK pe_bl))) pss_nil))) (pss_one (ps_ret (pe_chain op_le op_le (pcK pe_int) (pe_callB call_len_str (by rfl) T.b_len PySem.boot_len (pa_cons (pv 0) pnK)) (pcK pe_int))))), ?_⟩
    obtain ⟨W2, hm, hWW2⟩ := Good.bndW hm
    refine ⟨_, rfl, ⟨_, rfl, (forK (Z := Z0) (L := (chars a_text)) (src_str _) (fun rr σr Hr Zr => (∃ (w_sign : Option V), σr = [some (.str a_text), w_sign] ∧ Sep K Z0 H0 Zr Hr [] ∧ Same Z0 Zr ∧ (Good (forL (fun (s_ : Unit) (q_ : Str) => m_is_name_b0 q_) () rr) W2 WE))) ?_ ?_ ?_ ?_)⟩⟩
    · rintro rr σr Hr Zr hk
      obtain ⟨w_sign, rfl, hS, sm1, hm⟩ := hk
      exact ⟨sm1, hS.zh⟩
    · exact ⟨Z0, (none), rfl, hS.pick [] (by decide) rfl, Same.refl _, hm⟩
    · skip
      intro sign_3 r4 x5 sg6 H7 H8 Z9 mem10 dec11 hp12 y13
      obtain ⟨w_sign, rfl, hS, sm1, hm⟩ := hp12
      obtain ⟨W14, hm, hn15, hb16, hr17⟩ := Good.forL hm
      have hm : Good (m_is_name_b0 sign_3) _ _ := hm; unfold m_is_name_b0 at hm
      obtain ⟨rfl, rfl⟩ := y13
      refine (tgt1 ?_)
      refine ⟨_, rfl, ⟨trivial, ⟨_, _, rfl, rfl, ⟨_, rfl, (ite2 (fun e20 => ?_) (fun e21 => ?_))⟩⟩⟩⟩
      · skip
        have hm := Good.ifT e20 hm
        refine ⟨trivial, ?_⟩
        have hm := hr17 _ hm
        have hm := hWW2 _ hm
        exact hW _ hm _ _ hS.st
      · skip
        have hm := Good.ifF e21 hm
        have hm := hn15 _ hm
        exact ⟨_, (some (.str sign_3)), rfl, hS.pick [] (by decide) rfl, sm1, hm⟩
    · intro sg22 H23 Z24 hp25
      obtain ⟨w_sign, rfl, hS, sm1, hm⟩ := hp25
      have hm := hWW2 _ hm
      try dsimp only
      obtain ⟨g26, hm⟩ := Good.chk hm
      refine (k_ch2r (fun _ q => ⟨trivial, q⟩) (fun _ q => ⟨_, rfl, ⟨trivial, ⟨_, rfl, g26, q⟩⟩⟩) (fun _ q => ⟨trivial, q⟩) ?_)
      exact hW _ hm _ _ hS.st
theorem ok_is_name {f : Addr} {fd : FuncData} (F : Fun K "is_name" "is_name" (topS 37) f fd) (gm : mg "is_name" = some (.ref f)) (T : Txt K mg ca cb) : Cal P w K mg base CX0 "is_name" 1 ["text"] (sp_is_name K ca) :=
  ⟨⟨f, fd, okf_is_name F T, gm, F.kp, F.binds (ps := ["text"]) fun _ _ _ _ _ _ us hl => match us, hl with | [_], _ => rfl⟩⟩
theorem sc_read_cards : FnScope ["words", "found", "word"] ["words"] (defScope (topS 125)) := ⟨rfl, rfl, rfl, by decide +kernel, rfl, by decide +kernel, by decide +kernel⟩
theorem okf_read_cards {f : Addr} {fd : FuncData} (F : Fun K "read_cards" "read_cards" (topS 125) f fd) (T : Txt K mg ca cb) (C_card_of : Cal P w K mg base CX0 "card_of" 2 ["text"] (sp_card_of K ca)) : FnOk P w K mg base CX0 3 f fd ["words"] (sp_read_cards K ca) := by
  refine F.ok sc_read_cards (fun vs H0 Q E h => ?_) (fun cdv A outer s H0 vs Q E hr h => ?_)
  · obtain ⟨Z0, a_words, v_words, rfl, _⟩ := h
    rfl
  · obtain ⟨Z0, a_words, v_words, rfl, zh, h_words, hm⟩ := h
    have nd := sc_read_cards.nd
    have hm_ := hm.opn; clear hm; obtain ⟨W, WE, hm, hW, hWE⟩ := hm_
    have hS := Sep.start (K := K) zh
    have hS := hS.tel h_words
    unfold m_read_cards at hm
    refine ⟨_, (pss_cons (ps_set (i := 1) nd rfl (Or.inl rfl) (pe_lstQ pnK)) (pss_cons (ps_for PassesOwn.never rfl (pi_list (pv 0)) (pg_name (i := 2) nd rfl (Or.inl rfl)) (pss_ifT (ptk_cmpR op_gt (pe_callB call_len_str (by rfl) T.b_len PySem.boot_len (pa_cons (pv 2) pnK)) (pekK pek_int) (nomark _)) (pss_one ps_never) pss_nil (psstOne (pst_expr (pet_bm PySem.F.plainAttrs_list PySem.F.slot_list_append PySem.F.type_list_append mt_append (pv 1) (pat_cons (pet_cal C_card_of (hr.mono (by decide)) pass0 (pat_cons (pet_replQ (pv 2) (by decide +kernel)) (patOf pnK))) (patOf pnK))))))) (pss_one (ps_ret (pv 1))))), ?_⟩
    refine ⟨trivial, (k_lst (K := K) (m := ([] : (List Str))) hS.zh .nil (Nat.le_of_ble_eq_true rfl) (New.gen fun found_1 en2 => New.ownS fun p6 ps7 Z3 H4 st5 o8 => ?_))⟩
    have hS := hS.own st5 o8
    refine (tgt1 ?_)
    have hm := Good.vl en2 hm
    obtain ⟨a9, xs10, ev11, hz12, pr13⟩ := pyL (hS.fact 1 rfl)
    obtain ⟨W17, hm, hWW17⟩ := Good.bndW hm
    refine ⟨_, rfl, ⟨_, ev11, ⟨_, SqL.of (hS.zh _ _ hz12)⟩, (forK (Z := Z3) (L := a_words) (src_list hz12 pr13) (fun rr σr Hr Zr => (∃ (found_14 : (List Str)) (v15 : V) (w_word : Option V), σr = [some v_words, some v15, w_word] ∧ Sep K Z0 H0 Zr Hr [⟨(Sh.lt Str), v15, found_14⟩, ⟨(Sh.told (α := (List Str))), v_words, a_words⟩] ∧ Same Z3 Zr ∧ (Good (forR (fun (s_ : (List Str)) (q_ : Str) => m_read_cards_b0 s_ q_) found_14 rr) W17 WE))) ?_ ?_ ?_ ?_)⟩⟩
    · rintro rr σr Hr Zr hk
      obtain ⟨found_14, v15, w_word, rfl, hS, sm16, hm⟩ := hk
      obtain ⟨p49, er_⟩ := hS.ref 0 rfl
      subst er_
      exact ⟨sm16, hS.zh⟩
    · exact ⟨Z3, found_1, ((.ref p6)), (none), rfl, hS.pick [0, 1] (by decide) rfl, Same.refl _, hm⟩
    · skip
      intro word_18 r19 x20 sg21 H22 H23 Z24 mem25 dec26 hp27 y28
      obtain ⟨found_14, v15, w_word, rfl, hS, sm16, hm⟩ := hp27
      obtain ⟨p29, er_⟩ := hS.ref 0 rfl
      subst er_
      obtain ⟨W30, hm, hn31⟩ := Good.forR hm
      have hm : Good (m_read_cards_b0 found_14 word_18) _ _ := hm; unfold m_read_cards_b0 at hm
      obtain ⟨rfl, rfl⟩ := y28
      refine (tgt1 ?_)
      obtain ⟨g36, hm⟩ := Good.chk hm
      refine ⟨_, rfl, ⟨trivial, ⟨_, rfl, g36, ⟨trivial, ⟨_, _, rfl, rfl, ⟨_, rfl, (ite2 (fun e37 => ?_) (fun e38 => ?_))⟩⟩⟩⟩⟩⟩
      · skip
        have hm := Good.ifT e37 hm
        exact hm.elim
      · skip
        have hm := Good.ifF e38 hm
        obtain ⟨g39, hm⟩ := Good.chk hm
        refine ⟨_, rfl, ⟨tyO (hS.L 0 rfl), ⟨_, rfl, ⟨_, rfl, g39, ⟨trivial, ⟨_, _, rfl, hS.zh, (Good.bnd hm).imp (fun r40 hm => fun Z41 H42 st43 => ?_) hWE⟩⟩⟩⟩⟩⟩
        have sm16 := sm16.trans st43.zz
        have hS := hS.step st43
        obtain ⟨g46, hm⟩ := Good.chk hm
        refine ⟨trivial, (k_append (a := r40) (hS.L 0 rfl) rfl g46 fun u44 o45 => ?_)⟩
        have hS := hS.mutL 0 rfl o45; dsimp only [List.set] at hS
        obtain ⟨found_47, en48⟩ : ∃ z, z = (found_14 ++ [r40]) := ⟨_, rfl⟩
        rw [← en48] at hS
        have hm := Good.vl en48 hm
        have hm := hn31 _ hm
        exact ⟨_, found_47, ((.ref p29)), (some (.str word_18)), rfl, hS.pick [0, 1] (by decide) rfl, sm16, hm⟩
    · intro sg50 H51 Z52 hp53
      obtain ⟨found_14, v15, w_word, rfl, hS, sm16, hm⟩ := hp53
      obtain ⟨p54, er_⟩ := hS.ref 0 rfl
      subst er_
      have hm := hWW17 _ hm
      refine ⟨_, rfl, ?_⟩
      obtain ⟨ps_, o_⟩ := hS.nth 0 rfl
      exact hW _ hm _ _ _ _ hS.st o_
theorem ok_read_cards {f : Addr} {fd : FuncData} (F : Fun K "read_cards" "read_cards" (topS 125) f fd) (gm : mg "read_cards" = some (.ref f)) (T : Txt K mg ca cb) (C_card_of : Cal P w K mg base CX0 "card_of" 2 ["text"] (sp_card_of K ca)) : Cal P w K mg base CX0 "read_cards" 3 ["words"] (sp_read_cards K ca) :=
  ⟨⟨f, fd, okf_read_cards F T C_card_of, gm, F.kp, F.binds (ps := ["words"]) fun _ _ _ _ _ _ us hl => match us, hl with | [_], _ => rfl⟩⟩
theorem sc_new_name : FnScope ["word"] ["word"] (defScope (topS 126)) := ⟨rfl, rfl, rfl, by decide +kernel, rfl, by decide +kernel, by decide +kernel⟩
theorem okf_new_name {f : Addr} {fd : FuncData} (F : Fun K "new_name" "new_name" (topS 126) f fd) (T : Txt K mg ca cb) (C_is_name : Cal P w K mg base CX0 "is_name" 1 ["text"] (sp_is_name K ca)) : FnOk P w K mg base (L2.CX P w) 2 f fd ["word"] (sp_new_name K ca) := by
  refine F.okX sc_new_name (fun vs H0 Q E h => ?_) (fun cdv A outer s H0 vs Q E hr h => ?_)
  · obtain ⟨Z0, a_word, rfl, _⟩ := h
    rfl
  · obtain ⟨Z0, a_word, rfl, zh, hm⟩ := h
    have nd := sc_new_name.nd
    have hm_ := hm.opn; clear hm; obtain ⟨W, WE, hm, hW, hWE⟩ := hm_
    have hS := Sep.start (K := K) zh
    unfold m_new_name at hm
    refine ⟨_, (pss_cons (ps_if (ptK (pt_not (pt_val (pe_cal C_is_name (hr.mono (by decide)) pass0 (pa_cons (pv 0) pnK))))) (pss_one (ps_raise rfl (takes_of rfl rfl rfl rfl) (pmk_own PySem.F.excBase_ValueError T.ex_NoTray T.gx_NoTray T.kx_NoTray (raises_own T.su_NoTray T.ty_NoTray) rfl))) pss_nil) (pss_one (ps_ret (pv 0)))), ?_⟩
    refine ⟨trivial, ⟨_, rfl, ⟨trivial, ⟨_, _, rfl, hS.zh, (Good.nx (Good.bnd hm)).imp (fun r1 hm => fun Z2 H3 st4 => ?_) (fun _ h_ => h_)⟩⟩⟩⟩
    have hS := hS.step st4
    refine ⟨_, rfl, (ite2 (fun e5 => ?_) (fun e6 => ?_))⟩
    · skip
      have hm := Good.ifT e5 hm
      exact hWE _ hm _ _ _ _ hS.st ⟨rfl, rfl⟩
    · skip
      have hm := Good.ifF e6 hm
      refine ⟨_, rfl, ?_⟩
      exact hW _ hm _ _ hS.st
theorem ok_new_name {f : Addr} {fd : FuncData} (F : Fun K "new_name" "new_name" (topS 126) f fd) (gm : mg "new_name" = some (.ref f)) (T : Txt K mg ca cb) (C_is_name : Cal P w K mg base CX0 "is_name" 1 ["text"] (sp_is_name K ca)) : Cal P w K mg base (L2.CX P w) "new_name" 2 ["word"] (sp_new_name K ca) :=
  ⟨⟨f, fd, okf_new_name F T C_is_name, gm, F.kp, F.binds (ps := ["word"]) fun _ _ _ _ _ _ us hl => match us, hl with | [_], _ => rfl⟩⟩
theorem sc_is_row : FnScope ["words", "word"] ["words"] (defScope (topS 128)) := ⟨rfl, rfl, rfl, by decide +kernel, rfl, by decide +kernel, by decide +kernel⟩
theorem okf_is_row {f : Addr} {fd : FuncData} (F : Fun K "is_row" "is_row" (topS 128) f fd) (T : Txt K mg ca cb) : FnOk P w K mg base CX0 1 f fd ["words"] (sp_is_row K ca) := by
  refine F.ok sc_is_row (fun vs H0 Q E h => ?_) (fun cdv A outer s H0 vs Q E hr h => ?_)
  · obtain ⟨Z0, a_words, v_words, rfl, _⟩ := h
    rfl
  · obtain ⟨Z0, a_words, v_words, rfl, zh, h_words, hm⟩ := h
    have nd := sc_is_row.nd
    have hm_ := hm.opn; clear hm; obtain ⟨W, WE, hm, hW, hWE⟩ := hm_
    have hS := Sep.start (K := K) zh
    have hS := hS.tel h_words
    unfold m_is_row at hm
    refine ⟨_, (pss_cons (ps_if (pt_cmpR (op_inK (K := K) rfl) (pcK pe_str) (pv 0) (by rfl)) (pss_one (ps_ret (pcK pe_bl))) pss_nil) (pss_cons (ps_set (i := 1) nd rfl (Or.inl rfl) (pe_ix (ix_listK (K := K) rfl) (pv 0) (pcK pe_int) (fun _ _ => rfl))) (pss_cons (ps_if (ptK (PW.pt (pw_or (pt_cmpR op_eq (pv 1) (pcK pe_str) (nomark _)) (pw_or1 (pt_cmpR op_eq (pv 1) (pcK pe_str) (nomark _)))))) (pss_one (ps_ret (pe_cmpR op_eq (pe_callB (call_lenK (K := K) rfl) (by rfl) T.b_len PySem.boot_len (pa_cons (pv 0) pnK)) (pcK pe_int) (nomark _)))) pss_nil) (pss_cons (ps_if (pt_cmpR op_eq (pv 1) (pcK pe_str) (nomark _)) (pss_one (ps_ret (puK (pe_and (pe_cmpR op_eq (pe_callB (call_lenK (K := K) rfl) (by rfl) T.b_len PySem.boot_len (pa_cons (pv 0) pnK)) (pcK pe_int) (nomark _)) (pe_one (pe_cmpR op_ne (pe_ix (ix_listK (K := K) rfl) (pv 0) (pcK pe_int) (fun _ _ => rfl)) (pe_ix (ix_listK (K := K) rfl) (pv 0) (pcK pe_int) (fun _ _ => rfl)) (nomark _))))))) pss_nil) (pss_cons (ps_if (pt_cmpR op_eq (pv 1) (pcK pe_str) (nomark _)) (pss_one (ps_ret (pe_cmpR op_gt (pe_callB (call_lenK (K := K) rfl) (by rfl) T.b_len PySem.boot_len (pa_cons (pv 0) pnK)) (pcK pe_int) (nomark _)))) pss_nil) (pss_one (ps_ret (puK (pe_and (pe_cmpR (op_inK (K := K) rfl) (pv 1) (pe_tupQ (pa_cons (pcK pe_str) (pa_cons (pcK pe_str) (pa_cons (pcK pe_str) (pa_cons (pcK pe_str) pnK))))) (by rfl)) (pe_one (pe_cmpR op_gt (pe_callB (call_lenK (K := K) rfl) (by rfl) T.b_len PySem.boot_len (pa_cons (pv 0) pnK)) (pcK pe_int) (nomark _)))))))))))), ?_⟩
    refine ⟨trivial, ⟨_, rfl, (k_inL (RO.tell hS.zh (hS.fact 0 rfl)) ⟨_, rfl, (ite2 (fun e1 => ?_) (fun e2 => ?_))⟩)⟩⟩
    · skip
      have hm := Good.ifT e1 hm
      refine ⟨trivial, ?_⟩
      exact hW _ hm _ _ hS.st
    · skip
      have hm := Good.ifF e2 hm
      obtain ⟨g3, hm⟩ := Good.chk hm
      refine ⟨_, rfl, ⟨trivial, (k_ixLs hS.zh (hS.fact 0 rfl) g3 (storeS fun word_4 en5 => ?_))⟩⟩
      have hm := Good.vl en5 hm
      refine ⟨trivial, (ansOr (fun _ q => ⟨_, rfl, ⟨trivial, (k_eqS ⟨_, rfl, q⟩)⟩⟩) (fun b8 _ q => ⟨_, rfl, ⟨trivial, (k_eqS ⟨_, rfl, q⟩)⟩⟩) (ite2 (fun e6 => ?_) (fun e7 => ?_)))⟩
      · skip
        have hm := Good.ifT e6 hm
        refine ⟨_, rfl, ⟨trivial, (k_lenQ hS.zh (hS.fact 0 rfl) ⟨trivial, (k_eqI ?_)⟩)⟩⟩
        exact hW _ hm _ _ hS.st
      · skip
        have hm := Good.ifF e7 hm
        refine ⟨_, rfl, ⟨trivial, (k_eqS ⟨_, rfl, (ite2 (fun e9 => ?_) (fun e10 => ?_))⟩)⟩⟩
        · skip
          have hm := Good.ifT e9 hm
          obtain ⟨g11, hm⟩ := Good.chk hm
          obtain ⟨g12, hm⟩ := Good.chk hm
          refine ⟨trivial, (valAnd (fun _ q => ⟨_, rfl, ⟨trivial, (k_lenQ hS.zh (hS.fact 0 rfl) ⟨trivial, (k_eqI q)⟩)⟩⟩) (fun b13 _ q => ⟨_, rfl, ⟨trivial, (k_ixLs hS.zh (hS.fact 0 rfl) (g11 b13) ⟨_, rfl, ⟨trivial, (k_ixLs hS.zh (hS.fact 0 rfl) (g12 b13) (k_neS q))⟩⟩)⟩⟩) ?_)⟩
          exact hW _ hm _ _ hS.st
        · skip
          have hm := Good.ifF e10 hm
          refine ⟨_, rfl, ⟨trivial, (k_eqS ⟨_, rfl, (ite2 (fun e14 => ?_) (fun e15 => ?_))⟩)⟩⟩
          · skip
            have hm := Good.ifT e14 hm
            refine ⟨_, rfl, ⟨trivial, (k_lenQ hS.zh (hS.fact 0 rfl) ⟨trivial, ⟨_, _, rfl, rfl, ?_⟩⟩)⟩⟩
            exact hW _ hm _ _ hS.st
          · skip
            have hm := Good.ifF e15 hm
            obtain ⟨W17, hmb, hWW17⟩ := Good.bndW hm
            refine ⟨trivial, valK2 (Z := Z0) (fun z_ => W17 z_) (fun Q_ q18 => ?_) (fun t16 Z19 H20 w22 st21 => ?_)⟩
            · skip
              have hm := hmb
              have sx_ := Step.refl hS.zh
              refine ⟨_, rfl, ⟨trivial, ⟨trivial, ⟨trivial, ⟨trivial, ⟨trivial, (k_tupTL (K := K) (m := [("deck" : Str), ("ask" : Str), ("read" : Str), ("plan" : Str)]) hS.zh (.cons rfl (.cons rfl (.cons rfl (.cons rfl .nil)))) (Nat.le_of_ble_eq_true rfl) (fun v26 Z23 H24 st25 hv26 => ?_))⟩⟩⟩⟩⟩⟩
              have sx_ := sx_.trans st25
              have hS := (hS.step st25).tel (a := (⟨[("deck" : Str), ("ask" : Str), ("read" : Str), ("plan" : Str)]⟩ : (TL Str))) hv26
              refine (k_inT hS.zh (hS.fact 0 rfl) ⟨_, rfl, (ite2 (fun e27 => ?_) (fun e28 => ?_))⟩)
              · skip
                have hm := Good.ifT e27 hm
                refine ⟨_, rfl, ⟨trivial, (k_lenQ hS.zh (hS.fact 1 rfl) ⟨trivial, ⟨_, _, rfl, rfl, (q18 _ _ _ hm sx_)⟩⟩)⟩⟩
              · have hm := Good.ifF e28 hm
                exact q18 _ _ _ hm sx_
            have hm := hWW17 _ w22
            have hS := hS.step st21
            exact hW _ hm _ _ hS.st
theorem ok_is_row {f : Addr} {fd : FuncData} (F : Fun K "is_row" "is_row" (topS 128) f fd) (gm : mg "is_row" = some (.ref f)) (T : Txt K mg ca cb) : Cal P w K mg base CX0 "is_row" 1 ["words"] (sp_is_row K ca) :=
  ⟨⟨f, fd, okf_is_row F T, gm, F.kp, F.binds (ps := ["words"]) fun _ _ _ _ _ _ us hl => match us, hl with | [_], _ => rfl⟩⟩
theorem sc_law_cell_at : FnScope ["_law_script", "_law_k"] ["_law_script", "_law_k"] (defScope (topS 131)) := ⟨rfl, rfl, rfl, by decide +kernel, rfl, by decide +kernel, by decide +kernel⟩
theorem okf_law_cell_at {f : Addr} {fd : FuncData} (F : Fun K "_law_cell_at" "_law_cell_at" (topS 131) f fd) (T : Txt K mg ca cb) : FnOk P w K mg base CX0 1 f fd ["_law_script", "_law_k"] (sp_law_cell_at K ca) := by
  refine F.ok sc_law_cell_at (fun vs H0 Q E h => ?_) (fun cdv A outer s H0 vs Q E hr h => ?_)
  · obtain ⟨Z0, a_law_script, v_law_script, a_law_k, rfl, _⟩ := h
    rfl
  · obtain ⟨Z0, a_law_script, v_law_script, a_law_k, rfl, zh, h_law_script, hm⟩ := h
    have nd := sc_law_cell_at.nd
    have hm_ := hm.opn; clear hm; obtain ⟨W, WE, hm, hW, hWE⟩ := hm_
    have hS := Sep.start (K := K) zh
    have hS := hS.tel h_law_script
    unfold m_law_cell_at at hm
    refine ⟨_, (pss_cons (ps_if (pt_cmpR op_lt (pv 1) (pe_callB (call_lenK (K := K) rfl) (by rfl) T.b_len PySem.boot_len (pa_cons (pv 0) pnK)) (nomark _)) (pss_one (ps_ret (pe_ix (ix_listK (K := K) rfl) (pv 0) (pv 1) (fun _ _ => rfl)))) pss_nil) (pss_one (ps_ret (pcK pe_int)))), ?_⟩
    refine ⟨_, rfl, ⟨_, rfl, ⟨trivial, (k_lenRQ hS.zh (hS.fact 0 rfl) ⟨_, _, rfl, rfl, ⟨_, rfl, (ite2 (fun e1 => ?_) (fun e2 => ?_))⟩⟩)⟩⟩⟩
    · skip
      have hm := Good.ifT e1 hm
      obtain ⟨g3, hm⟩ := Good.chk hm
      refine ⟨_, rfl, ⟨_, rfl, (k_ixR hS.zh (hS.fact 0 rfl) g3 ?_)⟩⟩
      exact hW _ hm _ _ hS.st
    · skip
      have hm := Good.ifF e2 hm
      refine ⟨trivial, ?_⟩
      exact hW _ hm _ _ hS.st
theorem ok_law_cell_at {f : Addr} {fd : FuncData} (F : Fun K "_law_cell_at" "_law_cell_at" (topS 131) f fd) (gm : mg "_law_cell_at" = some (.ref f)) (T : Txt K mg ca cb) : Cal P w K mg base CX0 "_law_cell_at" 1 ["_law_script", "_law_k"] (sp_law_cell_at K ca) :=
  ⟨⟨f, fd, okf_law_cell_at F T, gm, F.kp, F.binds (ps := ["_law_script", "_law_k"]) fun _ _ _ _ _ _ us hl => match us, hl with | [_, _], _ => rfl⟩⟩
theorem sc_law_text : FnScope ["_law_number", "_law_signs", "_law_text_here", "_law_k"] ["_law_number"] (defScope (topS 132)) := ⟨rfl, rfl, rfl, by decide +kernel, rfl, by decide +kernel, by decide +kernel⟩
theorem okf_law_text {f : Addr} {fd : FuncData} (F : Fun K "_law_text" "_law_text" (topS 132) f fd) (T : Txt K mg ca cb) : FnOk P w K mg base CX0 1 f fd ["_law_number"] (sp_law_text K ca) := by
  refine F.ok sc_law_text (fun vs H0 Q E h => ?_) (fun cdv A outer s H0 vs Q E hr h => ?_)
  · obtain ⟨Z0, a_law_number, rfl, _⟩ := h
    rfl
  · obtain ⟨Z0, a_law_number, rfl, zh, hm⟩ := h
    have nd := sc_law_text.nd
    have hm_ := hm.opn; clear hm; obtain ⟨W, WE, hm, hW, hWE⟩ := hm_
    have hS := Sep.start (K := K) zh
    unfold m_law_text at hm
    refine ⟨_, (pss_cons (ps_set (i := 1) nd rfl (Or.inl rfl) (pcK pe_str)) (pss_cons (ps_set (i := 2) nd rfl (Or.inl rfl) (pcK pe_str)) (pss_cons (ps_for PassesOwn.never rfl (pi_range1 rfl T.b_range (pa_cons (pcK pe_int) pnK)) (pg_name (i := 3) nd rfl (Or.inl rfl)) (pss_cons (ps_set (i := 2) nd rfl (Or.inl rfl) (pe_op op_add_str (pv 2) (pe_ix ix_str (pv 1) (pe_op op_mod (pv 0) (pcK pe_int)) (fun _ _ => rfl)))) (pss_one (ps_set (i := 0) nd rfl (Or.inl rfl) (pe_op op_fdiv (pv 0) (pcK pe_int)))))) (pss_one (ps_ret (pv 2)))))), ?_⟩
    refine ⟨trivial, (storeS fun signs_1 en2 => ?_)⟩
    have hm := Good.vl en2 hm
    refine ⟨trivial, (storeS fun text_here_3 en4 => ?_)⟩
    have hm := Good.vl en4 hm
    obtain ⟨W10, hm, hWW10⟩ := Good.bndW hm
    refine ⟨trivial, ⟨trivial, ⟨_, rfl, by decide, by decide, (forK (Z := Z0) (L := (rangeL 0 ((40 : Int)).toNat)) (src_range _ _) (fun rr σr Hr Zr => (∃ (text_here_5 : Str) (number_6 : Int) (w_law_k : Option V), σr = [some (.int number_6), some (.str signs_1), some (.str text_here_5), w_law_k] ∧ Sep K Z0 H0 Zr Hr [] ∧ Same Z0 Zr ∧ (Good (forR (fun (s_ : Str × Int) (q_ : Int) => m_law_text_b0 signs_1 s_.1 s_.2 q_) (text_here_5, number_6) rr) W10 WE))) ?_ ?_ ?_ ?_)⟩⟩⟩
    · rintro rr σr Hr Zr hk
      obtain ⟨text_here_5, number_6, w_law_k, rfl, hS, sm9, hm⟩ := hk
      exact ⟨sm9, hS.zh⟩
    · exact ⟨Z0, text_here_3, a_law_number, (none), rfl, hS.pick [] (by decide) rfl, Same.refl _, hm⟩
    · skip
      intro k_11 r12 x13 sg14 H15 H16 Z17 mem18 dec19 hp20 y21
      obtain ⟨text_here_5, number_6, w_law_k, rfl, hS, sm9, hm⟩ := hp20
      obtain ⟨W22, hm, hn23⟩ := Good.forR hm
      have hm : Good (m_law_text_b0 signs_1 text_here_5 number_6 k_11) _ _ := hm; unfold m_law_text_b0 at hm
      obtain ⟨rfl, rfl⟩ := y21
      refine (tgt1 ?_)
      obtain ⟨g28, hm⟩ := Good.chk hm
      obtain ⟨g29, hm⟩ := Good.chk hm
      refine ⟨_, rfl, ⟨_, rfl, ⟨_, rfl, ⟨trivial, ⟨_, _, rfl, rfl, (show (0 : Int) < (37 : Int) from (by decide)), (k_ixS g28.1 g28.2 ⟨_, _, rfl, rfl, g29, (storeS fun text_here_30 en31 => ?_)⟩)⟩⟩⟩⟩⟩
      have hm := Good.vl en31 hm
      refine ⟨_, rfl, ⟨trivial, ⟨_, _, rfl, rfl, ⟨by decide, by decide⟩, (storeI fun number_32 en33 => ?_)⟩⟩⟩
      have hm := Good.vl en33 hm
      have hm := hn23 _ hm
      exact ⟨_, text_here_30, number_32, (some (.int k_11)), rfl, hS.pick [] (by decide) rfl, sm9, hm⟩
    · intro sg34 H35 Z36 hp37
      obtain ⟨text_here_5, number_6, w_law_k, rfl, hS, sm9, hm⟩ := hp37
      have hm := hWW10 _ hm
      have hm : Good (m_law_text_k0 text_here_5 number_6) _ _ := hm; unfold m_law_text_k0 at hm
      refine ⟨_, rfl, ?_⟩
      exact hW _ hm _ _ hS.st
theorem ok_law_text {f : Addr} {fd : FuncData} (F : Fun K "_law_text" "_law_text" (topS 132) f fd) (gm : mg "_law_text" = some (.ref f)) (T : Txt K mg ca cb) : Cal P w K mg base CX0 "_law_text" 1 ["_law_number"] (sp_law_text K ca) :=
  ⟨⟨f, fd, okf_law_text F T, gm, F.kp, F.binds (ps := ["_law_number"]) fun _ _ _ _ _ _ us hl => match us, hl with | [_], _ => rfl⟩⟩
theorem sc_law_card : FnScope ["_law_cell", "_law_text_here"] ["_law_cell"] (defScope (topS 133)) := ⟨rfl, rfl, rfl, by decide +kernel, rfl, by decide +kernel, by decide +kernel⟩
theorem okf_law_card {f : Addr} {fd : FuncData} (F : Fun K "_law_card" "_law_card" (topS 133) f fd) (T : Txt K mg ca cb) (C_law_text : Cal P w K mg base CX0 "_law_text" 1 ["_law_number"] (sp_law_text K ca)) : FnOk P w K mg base CX0 2 f fd ["_law_cell"] (sp_law_card K ca) := by
  refine F.ok sc_law_card (fun vs H0 Q E h => ?_) (fun cdv A outer s H0 vs Q E hr h => ?_)
  · obtain ⟨Z0, a_law_cell, rfl, _⟩ := h
    rfl
  · obtain ⟨Z0, a_law_cell, rfl, zh, hm⟩ := h
    have nd := sc_law_card.nd
    have hm_ := hm.opn; clear hm; obtain ⟨W, WE, hm, hW, hWE⟩ := hm_
    have hS := Sep.start (K := K) zh
    unfold m_law_card at hm
    refine ⟨_, (pss_cons (ps_if (pt_cmpR op_eq (pe_op op_mod (pv 0) (pcK pe_int)) (pcK pe_int) (nomark _)) (pss_one (ps_ret (pe_cal C_law_text (hr.mono (by decide)) pass0 (pa_cons (pe_op op_mod (pe_op op_mulC (pe_op op_fdiv (pv 0) (pcK pe_int)) (pe_op op_add (pe_op op_add (pe_op op_add (pcK pe_int) (pe_op op_mulC (pcK pe_int) (pe_op op_pow (pcK pe_int) (pcK pe_int)))) (pe_op op_mulC (pcK pe_int) (pe_op op_pow (pcK pe_int) (pcK pe_int)))) (pe_op op_mulC (pcK pe_int) (pe_op op_pow (pcK pe_int) (pcK pe_int))))) (pe_op op_pow (pcK pe_int) (pcK pe_int))) pnK)))) pss_nil) (pss_cons (ps_set (i := 1) nd rfl (Or.inl rfl) (pe_callTy call_strQ (by rfl) T.b_str (by decide +kernel) (pa_cons (pe_op op_mod (pe_op op_mulC (pe_op op_fdiv (pv 0) (pcK pe_int)) (pe_op op_add (pe_op op_add (pcK pe_int) (pe_op op_mulC (pcK pe_int) (pe_op op_pow (pcK pe_int) (pcK pe_int)))) (pe_op op_pow (pcK pe_int) (pcK pe_int)))) (pe_op op_pow (pcK pe_int) (pcK pe_int))) pnK))) (pss_one (ps_ret (pe_slice sl_str (pe_op op_add_str (pe_op op_add_str (pe_op op_mul_str (pcK pe_str) (pe_op op_mod (pe_op op_fdiv (pv 0) (pcK pe_int)) (pcK pe_int))) (pv 1)) (pe_op op_mul_str (pcK pe_str) (pcK pe_int))) po_noK (po_some (pcK pe_int))))))), ?_⟩
    refine ⟨_, rfl, ⟨trivial, ⟨_, _, rfl, rfl, (show (0 : Int) < (2 : Int) from (by decide)), ⟨trivial, (k_eqI ⟨_, rfl, (ite2 (fun e1 => ?_) (fun e2 => ?_))⟩)⟩⟩⟩⟩
    · skip
      have hm := Good.ifT e1 hm
      obtain ⟨g3, hm⟩ := Good.chk hm
      obtain ⟨g4, hm⟩ := Good.chk hm
      refine ⟨_, rfl, ⟨trivial, ⟨_, _, rfl, rfl, ⟨by decide, by decide⟩, ⟨trivial, ⟨trivial, ⟨trivial, ⟨trivial, ⟨_, _, rfl, rfl, ⟨by decide, by decide, by decide⟩, ⟨_, _, rfl, rfl, (mulL ⟨by decide, by decide⟩), ⟨_, _, rfl, rfl, ⟨trivial, ⟨trivial, ⟨trivial, ⟨_, _, rfl, rfl, ⟨by decide, by decide, by decide⟩, ⟨_, _, rfl, rfl, (mulL ⟨by decide, by decide⟩), ⟨_, _, rfl, rfl, ⟨trivial, ⟨trivial, ⟨trivial, ⟨_, _, rfl, rfl, ⟨by decide, by decide, by decide⟩, ⟨_, _, rfl, rfl, (mulL ⟨by decide, by decide⟩), ⟨_, _, rfl, rfl, ⟨_, _, rfl, rfl, g3, ⟨trivial, ⟨trivial, ⟨_, _, rfl, rfl, ⟨by decide, by decide, by decide⟩, ⟨_, _, rfl, rfl, (show (0 : Int) < ((37 : Int) ^ ((40 : Int)).toNat) from g4), ⟨trivial, ⟨_, _, rfl, hS.zh, (Good.bnd hm).imp (fun r5 hm => fun Z6 H7 st8 => ?_) hWE⟩⟩⟩⟩⟩⟩⟩⟩⟩⟩⟩⟩⟩⟩⟩⟩⟩⟩⟩⟩⟩⟩⟩⟩⟩⟩⟩⟩⟩
      have hS := hS.step st8
      exact hW _ hm _ _ hS.st
    · skip
      have hm := Good.ifF e2 hm
      obtain ⟨g9, hm⟩ := Good.chk hm
      obtain ⟨g10, hm⟩ := Good.chk hm
      obtain ⟨g11, hm⟩ := Good.chk hm
      refine ⟨_, rfl, ⟨trivial, ⟨_, _, rfl, rfl, ⟨by decide, by decide⟩, ⟨trivial, ⟨trivial, ⟨trivial, ⟨trivial, ⟨_, _, rfl, rfl, ⟨by decide, by decide, by decide⟩, ⟨_, _, rfl, rfl, (mulL ⟨by decide, by decide⟩), ⟨_, _, rfl, rfl, ⟨trivial, ⟨trivial, ⟨_, _, rfl, rfl, ⟨by decide, by decide, by decide⟩, ⟨_, _, rfl, rfl, ⟨_, _, rfl, rfl, g9, ⟨trivial, ⟨trivial, ⟨_, _, rfl, rfl, ⟨by decide, by decide, by decide⟩, ⟨_, _, rfl, rfl, (show (0 : Int) < ((10 : Int) ^ ((40 : Int)).toNat) from g10), ⟨trivial, ⟨_, rfl, g11, (storeS fun text_here_12 en13 => ?_)⟩⟩⟩⟩⟩⟩⟩⟩⟩⟩⟩⟩⟩⟩⟩⟩⟩⟩⟩⟩⟩
      have hm := Good.vl en13 hm
      obtain ⟨g14, hm⟩ := Good.chk hm
      obtain ⟨g15, hm⟩ := Good.chk hm
      obtain ⟨g16, hm⟩ := Good.chk hm
      obtain ⟨g17, hm⟩ := Good.chk hm
      refine ⟨trivial, ⟨_, rfl, ⟨trivial, ⟨_, _, rfl, rfl, ⟨by decide, by decide⟩, ⟨trivial, ⟨_, _, rfl, rfl, (show (0 : Int) < (5 : Int) from (by decide)), ⟨_, _, rfl, rfl, g14.1, g14.2.1, g14.2.2, ⟨_, rfl, ⟨_, _, rfl, rfl, g15, ⟨trivial, ⟨trivial, ⟨_, _, rfl, rfl, (by decide), (by decide), (by decide +kernel), ⟨_, _, rfl, rfl, g16, ⟨trivial, ⟨trivial, ⟨_, rfl, ⟨_, rfl, g17, ?_⟩⟩⟩⟩⟩⟩⟩⟩⟩⟩⟩⟩⟩⟩⟩⟩⟩
      exact hW _ hm _ _ hS.st
theorem ok_law_card {f : Addr} {fd : FuncData} (F : Fun K "_law_card" "_law_card" (topS 133) f fd) (gm : mg "_law_card" = some (.ref f)) (T : Txt K mg ca cb) (C_law_text : Cal P w K mg base CX0 "_law_text" 1 ["_law_number"] (sp_law_text K ca)) : Cal P w K mg base CX0 "_law_card" 2 ["_law_cell"] (sp_law_card K ca) :=
  ⟨⟨f, fd, okf_law_card F T C_law_text, gm, F.kp, F.binds (ps := ["_law_cell"]) fun _ _ _ _ _ _ us hl => match us, hl with | [_], _ => rfl⟩⟩
theorem sc_law_names : FnScope ["_law_cell", "_law_place", "_law_letters", "_law_base", "_law_at", "_law_names_here", "_law_k", "_law_other", "_law_some", "_law_number"] ["_law_cell", "_law_place"] (defScope (topS 134)) := ⟨rfl, rfl, rfl, by decide +kernel, rfl, by decide +kernel, by decide +kernel⟩
theorem okf_law_names {f : Addr} {fd : FuncData} (F : Fun K "_law_names" "_law_names" (topS 134) f fd) (T : Txt K mg ca cb) : FnOk P w K mg base CX0 1 f fd ["_law_cell", "_law_place"] (sp_law_names K ca) := by
  refine F.ok sc_law_names (fun vs H0 Q E h => ?_) (fun cdv A outer s H0 vs Q E hr h => ?_)
  · obtain ⟨Z0, a_law_cell, a_law_place, rfl, _⟩ := h
    rfl
  · obtain ⟨Z0, a_law_cell, a_law_place, rfl, zh, hm⟩ := h
    have nd := sc_law_names.nd
    have hm_ := hm.opn; clear hm; obtain ⟨W, WE, hm, hW, hWE⟩ := hm_
    have hS := Sep.start (K := K) zh
    unfold m_law_names at hm
    refine ⟨_, (pss_cons (ps_set (i := 2) nd rfl (Or.inr rfl) (pcK pe_str)) (pss_cons (ps_setLcQ (i := 3) (own := [("_law_k", 6)]) (g := (gName 6)) rfl nd rfl rfl (sw_true rfl rfl rfl (by decide +kernel)) (pi_range1 rfl T.b_range (pa_cons (pe_op op_add (pcK pe_int) (pe_op op_mod (pv 0) (pcK pe_int))) pnK)) (blkOk_by (N := ["_law_cell", "_law_place", "_law_letters", "_law_base", "_law_at", "_law_names_here", "_law_k", "_law_other", "_law_some", "_law_number"]) (sc := defScope (topS 134)) (own := [("_law_k", 6)]) (by decide +kernel)) (by intro _ _ _ _ _; exact pg_name (i := 6) nd rfl (Or.inl rfl)) (by intro _ _ _ _ _; exact pts_nil) (by intro _ _ _ _ _; exact (pe_op op_mod (pe_op op_add (pe_op op_fdivC (pv 0) (pe_op op_add (pv 6) (pcK pe_int))) (pe_op op_mulC (pv 6) (pv 6))) (pcK pe_int)))) (pss_cons (ps_set (i := 4) nd rfl (Or.inl rfl) (pe_op op_mod (pv 1) (pe_callB (call_lenK (K := K) rfl) (by rfl) T.b_len PySem.boot_len (pa_cons (pv 3) pnK)))) (pss_cons (ps_set (i := 5) nd rfl (Or.inl rfl) (pe_lstQ pnK)) (pss_cons (ps_for PassesOwn.never rfl (pi_range1 rfl T.b_range (pa_cons (pcK pe_int) pnK)) (pg_name (i := 6) nd rfl (Or.inl rfl)) (pss_cons (ps_set (i := 7) nd rfl (Or.inl rfl) (pe_op op_mod (pe_op op_add (pe_ix (ix_listK (K := K) rfl) (pv 3) (pv 4) (fun _ _ => rfl)) (pe_op op_mulC (pv 6) (pe_op op_add (pcK pe_int) (pe_op op_mod (pe_op op_fdiv (pv 1) (pcK pe_int)) (pcK pe_int))))) (pcK pe_int))) (pss_cons (ps_set (i := 8) nd rfl (Or.inl rfl) (pe_op op_cat (pe_op op_cat (pe_slice sl_list (pv 3) po_noK (po_some (pv 4))) (pe_lstQ (pa_cons (pv 7) pnK))) (pe_slice sl_list (pv 3) (po_some (pe_op op_add (pv 4) (pcK pe_int))) po_noK))) (pss_one (ps_expr (pe_bm PySem.F.plainAttrs_list PySem.F.slot_list_append PySem.F.type_list_append mt_append (pv 5) (pa_cons (pe_bmK (K := K) rfl PySem.F.plainAttrs_str PySem.F.slot_str_join PySem.F.type_str_join (mt_joinK (K := K) rfl) (pcK pe_str) (pa_cons (pe_lcQ (own := [("_law_number", 9)]) (g := (gName 9)) rfl nd (pi_list (pv 8)) (blkOk_by (N := ["_law_cell", "_law_place", "_law_letters", "_law_base", "_law_at", "_law_names_here", "_law_k", "_law_other", "_law_some", "_law_number"]) (sc := defScope (topS 134)) (own := [("_law_number", 9)]) (by decide +kernel)) (by intro _ _ _ _ _; exact pg_name (i := 9) nd rfl (Or.inl rfl)) (by intro _ _ _ _ _; exact pts_nil) (by intro _ _ _ _ _; exact (pe_ix ix_str (pv 2) (pv 9) (fun _ _ => rfl)))) pnK)) pnK))))))) (pss_one (ps_ret (pv 5)))))))), ?_⟩
    refine ⟨trivial, (storeS fun letters_1 en2 => ?_)⟩
    have hm := Good.vl en2 hm
    obtain ⟨g3, hm⟩ := Good.chk hm
    obtain ⟨g9, hm⟩ := Good.chk hm
    obtain ⟨g7, hm⟩ := Good.chk hm
    obtain ⟨g8, hm⟩ := Good.chk hm
    refine ⟨trivial, ⟨_, rfl, ⟨trivial, ⟨_, _, rfl, rfl, (show (0 : Int) < (8 : Int) from (by decide)), ⟨_, _, rfl, rfl, ⟨trivial, ⟨_, rfl, And.left g3, And.right g3, (lcKQ (K := K) (src_range _ _) hS.zh (fun (k_4 : Int) => (((a_law_cell / (k_4 + (1 : Int))) + (k_4 * k_4)) % (26 : Int))) (fun _ => true) g9 (fun k_4 x12 Z13 H14 H15 C16 N17 mem18 st19 y20 kC21 kN22 => ?_) (New.all (New.gen fun base_10 en11 => New.tel fun v28 Z25 H26 st27 hv28 => ?_)))⟩⟩⟩⟩⟩⟩⟩
    · skip
      have hS := hS.step st19
      have sx_ := Step.refl hS.zh
      have g7 := g7 k_4 mem18
      have g8 := g8 k_4 mem18
      obtain ⟨rfl, rfl⟩ := y20
      refine (tgt1 ?_)
      refine ⟨rfl, (yesK ⟨_, rfl, ⟨_, rfl, ⟨trivial, ⟨_, _, rfl, rfl, ⟨_, _, rfl, rfl, g7, ⟨_, rfl, ⟨_, rfl, ⟨_, _, rfl, rfl, g8, ⟨_, _, rfl, rfl, ⟨trivial, ⟨_, _, rfl, rfl, (show (0 : Int) < (26 : Int) from (by decide)), (kC21 _ _ _ sx_ rfl rfl)⟩⟩⟩⟩⟩⟩⟩⟩⟩⟩⟩)⟩
    have hS := (hS.step st27).tel (a := base_10) hv28
    refine (tgt1 ?_)
    have hm := Good.vl en11 hm
    obtain ⟨g29, hm⟩ := Good.chk hm
    refine ⟨_, rfl, ⟨_, rfl, ⟨trivial, (k_lenQ hS.zh (hS.fact 0 rfl) ⟨_, _, rfl, rfl, (show (0 : Int) < ((base_10).length : Int) from g29), (storeI fun at_30 en31 => ?_)⟩)⟩⟩⟩
    have hm := Good.vl en31 hm
    refine ⟨trivial, (k_lst (K := K) (m := ([] : (List Str))) hS.zh .nil (Nat.le_of_ble_eq_true rfl) (New.gen fun names_here_32 en33 => New.ownS fun p37 ps38 Z34 H35 st36 o39 => ?_))⟩
    have hS := hS.own st36 o39
    refine (tgt1 ?_)
    have hm := Good.vl en33 hm
    obtain ⟨W43, hm, hWW43⟩ := Good.bndW hm
    refine ⟨trivial, ⟨trivial, ⟨_, rfl, by decide, by decide, (forK (Z := Z34) (L := (rangeL 0 ((4 : Int)).toNat)) (src_range _ _) (fun rr σr Hr Zr => (∃ (names_here_40 : (List Str)) (v41 : V) (w_law_k : Option V) (w_law_other : Option V) (w_law_some : Option V), σr = [some (.int a_law_cell), some (.int a_law_place), some (.str letters_1), some v28, some (.int at_30), some v41, w_law_k, w_law_other, w_law_some, none] ∧ Sep K Z0 H0 Zr Hr [⟨(Sh.lt Str), v41, names_here_40⟩, ⟨(Sh.told (α := (List Int))), v28, base_10⟩] ∧ Same Z34 Zr ∧ (Good (forR (fun (s_ : (List Str)) (q_ : Int) => m_law_names_b0 a_law_place letters_1 base_10 at_30 s_ q_) names_here_40 rr) W43 WE))) ?_ ?_ ?_ ?_)⟩⟩⟩
    · rintro rr σr Hr Zr hk
      obtain ⟨names_here_40, v41, w_law_k, w_law_other, w_law_some, rfl, hS, sm42, hm⟩ := hk
      obtain ⟨p123, er_⟩ := hS.ref 0 rfl
      subst er_
      exact ⟨sm42, hS.zh⟩
    · exact ⟨Z34, names_here_32, ((.ref p37)), (none), (none), (none), rfl, hS.pick [0, 1] (by decide) rfl, Same.refl _, hm⟩
    · skip
      intro k_44 r45 x46 sg47 H48 H49 Z50 mem51 dec52 hp53 y54
      obtain ⟨names_here_40, v41, w_law_k, w_law_other, w_law_some, rfl, hS, sm42, hm⟩ := hp53
      obtain ⟨p55, er_⟩ := hS.ref 0 rfl
      subst er_
      obtain ⟨W56, hm, hn57⟩ := Good.forR hm
      have hm : Good (m_law_names_b0 a_law_place letters_1 base_10 at_30 names_here_40 k_44) _ _ := hm; unfold m_law_names_b0 at hm
      obtain ⟨rfl, rfl⟩ := y54
      refine (tgt1 ?_)
      obtain ⟨g62, hm⟩ := Good.chk hm
      obtain ⟨g63, hm⟩ := Good.chk hm
      refine ⟨_, rfl, ⟨_, rfl, (k_ixLs hS.zh (hS.fact 1 rfl) g62 ⟨_, rfl, ⟨trivial, ⟨_, rfl, ⟨trivial, ⟨_, _, rfl, rfl, ⟨by decide, by decide⟩, ⟨trivial, ⟨_, _, rfl, rfl, (show (0 : Int) < (5 : Int) from (by decide)), ⟨_, _, rfl, rfl, ⟨_, _, rfl, rfl, g63, ⟨_, _, rfl, rfl, ⟨trivial, ⟨_, _, rfl, rfl, (show (0 : Int) < (26 : Int) from (by decide)), (storeI fun other_64 en65 => ?_)⟩⟩⟩⟩⟩⟩⟩⟩⟩⟩⟩⟩)⟩⟩
      have hm := Good.vl en65 hm
      refine ⟨_, rfl, ⟨trivial, ⟨_, rfl, ⟨_, rfl, (k_slL hS.zh (hS.fact 1 rfl) (New.tel fun v73 Z70 H71 st72 hv73 => ?_))⟩⟩⟩⟩
      have sm42 := sm42.trans st72.zz
      have hS := (hS.step st72).tel (a := (cutL base_10 none (some at_30))) hv73
      refine ⟨_, rfl, ⟨trivial, (k_lst (K := K) (m := [other_64]) hS.zh (.cons rfl .nil) (Nat.le_of_ble_eq_true rfl) (New.tel fun v77 Z74 H75 st76 hv77 => ?_))⟩⟩
      have sm42 := sm42.trans st76.zz
      have hS := (hS.step st76).tel (a := [other_64]) hv77
      obtain ⟨g66, hm⟩ := Good.chk hm
      refine (k_catL hS.zh (RO.tell hS.zh (hS.fact 1 rfl)) (RO.tell hS.zh (hS.fact 0 rfl)) g66 (New.tel fun v81 Z78 H79 st80 hv81 => ?_))
      have sm42 := sm42.trans st80.zz
      have hS := (hS.step st80).tel (a := ((cutL base_10 none (some at_30)) ++ [other_64])) hv81
      refine ⟨_, rfl, ⟨_, rfl, ⟨trivial, ⟨_, _, rfl, rfl, ⟨_, rfl, ⟨trivial, (k_slL hS.zh (hS.fact 4 rfl) (New.tel fun v85 Z82 H83 st84 hv85 => ?_))⟩⟩⟩⟩⟩⟩
      have sm42 := sm42.trans st84.zz
      have hS := (hS.step st84).tel (a := (cutL base_10 (some (at_30 + (1 : Int))) none)) hv85
      obtain ⟨g67, hm⟩ := Good.chk hm
      refine (k_catL hS.zh (RO.tell hS.zh (hS.fact 1 rfl)) (RO.tell hS.zh (hS.fact 0 rfl)) g67 (New.gen fun some_68 en69 => New.tel fun v89 Z86 H87 st88 hv89 => ?_))
      have sm42 := sm42.trans st88.zz
      have hS := (hS.step st88).tel (a := some_68) hv89
      refine (tgt1 ?_)
      have hm := Good.vl en69 hm
      have hS := hS.drop1
      have hS := hS.drop1
      have hS := hS.drop1
      have hS := hS.drop1
      obtain ⟨g94, hm⟩ := Good.chk hm
      obtain ⟨g93, hm⟩ := Good.chk hm
      obtain ⟨a96, xs97, ev98, hz99, pr100⟩ := pyL (hS.fact 0 rfl)
      refine ⟨_, rfl, ⟨tyO (hS.L 1 rfl), ⟨trivial, ⟨rfl, ⟨_, rfl, ⟨_, ev98, ⟨_, SqL.of (hS.zh _ _ hz99)⟩, (lcKQ (K := K) (src_list hz99 pr100) hS.zh (fun (number_90 : Int) => (chS letters_1 number_90)) (fun _ => true) g94 (fun number_90 x101 Z102 H103 H104 C105 N106 mem107 st108 y109 kC110 kN111 => ?_) (New.all (New.tel fun v117 Z114 H115 st116 hv117 => ?_)))⟩⟩⟩⟩⟩⟩
      · skip
        have hS := hS.step st108
        have sx_ := Step.refl hS.zh
        have g93 := g93 number_90 mem107
        obtain ⟨rfl, rfl⟩ := y109
        refine (tgt1 ?_)
        refine ⟨rfl, (yesK ⟨_, rfl, ⟨_, rfl, (k_ixS g93.1 g93.2 (kC110 _ _ _ sx_ rfl rfl))⟩⟩)⟩
      have sm42 := sm42.trans st116.zz
      have hS := (hS.step st116).tel (a := (some_68.map (fun (number_90 : Int) => (chS letters_1 number_90)))) hv117
      obtain ⟨g95, hm⟩ := Good.chk hm
      obtain ⟨g120, hm⟩ := Good.chk hm
      refine ⟨trivial, (k_join hS.zh (hS.fact 0 rfl) g95 ⟨trivial, (k_append (a := (Txt.join ("" : Str) (some_68.map (fun (number_90 : Int) => (chS letters_1 number_90))))) (hS.L 2 rfl) rfl g120 fun u118 o119 => ?_)⟩)⟩
      have hS := hS.mutL 2 rfl o119; dsimp only [List.set] at hS
      obtain ⟨names_here_121, en122⟩ : ∃ z, z = (names_here_40 ++ [(Txt.join ("" : Str) (some_68.map (fun (number_90 : Int) => (chS letters_1 number_90))))]) := ⟨_, rfl⟩
      rw [← en122] at hS
      have hm := Good.vl en122 hm
      have hm := hn57 _ hm
      exact ⟨_, names_here_121, ((.ref p55)), (some (.int k_44)), (some (.int other_64)), (some v89), rfl, hS.pick [2, 3] (by decide) rfl, sm42, hm⟩
    · intro sg124 H125 Z126 hp127
      obtain ⟨names_here_40, v41, w_law_k, w_law_other, w_law_some, rfl, hS, sm42, hm⟩ := hp127
      obtain ⟨p128, er_⟩ := hS.ref 0 rfl
      subst er_
      have hm := hWW43 _ hm
      refine ⟨_, rfl, ?_⟩
      obtain ⟨ps_, o_⟩ := hS.nth 0 rfl
      exact hW _ hm _ _ _ _ hS.st o_
theorem ok_law_names {f : Addr} {fd : FuncData} (F : Fun K "_law_names" "_law_names" (topS 134) f fd) (gm : mg "_law_names" = some (.ref f)) (T : Txt K mg ca cb) : Cal P w K mg base CX0 "_law_names" 1 ["_law_cell", "_law_place"] (sp_law_names K ca) :=
  ⟨⟨f, fd, okf_law_names F T, gm, F.kp, F.binds (ps := ["_law_cell", "_law_place"]) fun _ _ _ _ _ _ us hl => match us, hl with | [_, _], _ => rfl⟩⟩
theorem sc_law_word : FnScope ["_law_text_here", "_law_whole"] ["_law_text_here", "_law_whole"] (defScope (topS 135)) := ⟨rfl, rfl, rfl, by decide +kernel, rfl, by decide +kernel, by decide +kernel⟩
theorem okf_law_word {f : Addr} {fd : FuncData} (F : Fun K "_law_word" "_law_word" (topS 135) f fd) (T : Txt K mg ca cb) : FnOk P w K mg base CX0 1 f fd ["_law_text_here", "_law_whole"] (sp_law_word K ca) := by
  refine F.ok sc_law_word (fun vs H0 Q E h => ?_) (fun cdv A outer s H0 vs Q E hr h => ?_)
  · obtain ⟨Z0, a_law_text_here, a_law_whole, rfl, _⟩ := h
    rfl
  · obtain ⟨Z0, a_law_text_here, a_law_whole, rfl, zh, hm⟩ := h
    have nd := sc_law_word.nd
    have hm_ := hm.opn; clear hm; obtain ⟨W, WE, hm, hW, hWE⟩ := hm_
    have hS := Sep.start (K := K) zh
    unfold m_law_word at hm
    refine ⟨_, (Evl.pss_cut (ps_if (pt_not (pt_val (pv 1))) (pss_cons (ps_set (i := 0) nd rfl (Or.inl rfl) (pe_bm0K (K := K) rfl PySem.F.plainAttrs_str PySem.F.slot_str_rstrip PySem.F.type_str_rstrip mt_rstrip (pv 0))) (pss_one (ps_if (pt_cmpR op_eq (pv 0) (pcK pe_str) (nomark _)) (pss_one (ps_set (i := 0) nd rfl (Or.inl rfl) (pcK pe_str))) pss_nil))) pss_nil) (pss_one (ps_ret (pe_bmK (K := K) rfl PySem.F.plainAttrs_str PySem.F.slot_str_join PySem.F.type_str_join (mt_joinK (K := K) rfl) (pcK pe_str) (pa_cons (pe_bmK (K := K) rfl PySem.F.plainAttrs_str PySem.F.slot_str_split PySem.F.type_str_split mt_splitQ (pv 0) (pa_cons (pcK pe_str) pnK)) pnK))))), ?_⟩
    refine ⟨fun σj Hj => ∃ Zr_ : Hp, ∃ (text_here_1 : Str), σj = [some (.str text_here_1), some (.bl a_law_whole)] ∧ Sep K Z0 H0 Zr_ Hj [] ∧ (Good (m_law_word_j0 text_here_1) W WE), ?_, fun σj Hj hj => ?_⟩
    · skip
      obtain ⟨W3, hm, hWW3⟩ := Good.bndW hm
      refine ⟨_, rfl, ⟨_, rfl, (ite2 (fun e4 => ?_) (fun e5 => ?_))⟩⟩
      · skip
        have hm := Good.ifT e4 hm
        obtain ⟨g6, hm⟩ := Good.chk hm
        refine ⟨_, rfl, ⟨rfl, ⟨_, rfl, rfl, g6, (storeS fun text_here_7 en8 => ?_)⟩⟩⟩
        have hm := Good.vl en8 hm
        refine ⟨_, rfl, ⟨trivial, (k_eqS ⟨_, rfl, (ite2 (fun e9 => ?_) (fun e10 => ?_))⟩)⟩⟩
        · skip
          have hm := Good.ifT e9 hm
          refine ⟨trivial, (storeS fun text_here_11 en12 => ?_)⟩
          have hm := Good.vl en12 hm
          have hm := hWW3 _ hm
          exact ⟨_, text_here_11, rfl, hS.pick [] (by decide) rfl, hm⟩
        · skip
          have hm := Good.ifF e10 hm
          have hm := hWW3 _ hm
          exact ⟨_, text_here_7, rfl, hS.pick [] (by decide) rfl, hm⟩
      · skip
        have hm := Good.ifF e5 hm
        have hm := hWW3 _ hm
        exact ⟨_, a_law_text_here, rfl, hS.pick [] (by decide) rfl, hm⟩
    · skip
      obtain ⟨Zj_, text_here_1, rfl, hS, hm⟩ := hj
      unfold m_law_word_j0 at hm
      obtain ⟨g13, hm⟩ := Good.chk hm
      refine ⟨trivial, ⟨rfl, ⟨_, rfl, ⟨rfl, ⟨trivial, ⟨trivial, (k_split (K := K) hS.zh (by decide +kernel) g13 (New.tel fun v18 Z15 H16 st17 hv18 => ?_))⟩⟩⟩⟩⟩⟩
      have hS := (hS.step st17).tel (a := (Txt.split text_here_1 (" " : Str))) hv18
      obtain ⟨g14, hm⟩ := Good.chk hm
      refine ⟨trivial, (k_join hS.zh (hS.fact 0 rfl) g14 ?_)⟩
      exact hW _ hm _ _ hS.st
theorem ok_law_word {f : Addr} {fd : FuncData} (F : Fun K "_law_word" "_law_word" (topS 135) f fd) (gm : mg "_law_word" = some (.ref f)) (T : Txt K mg ca cb) : Cal P w K mg base CX0 "_law_word" 1 ["_law_text_here", "_law_whole"] (sp_law_word K ca) :=
  ⟨⟨f, fd, okf_law_word F T, gm, F.kp, F.binds (ps := ["_law_text_here", "_law_whole"]) fun _ _ _ _ _ _ us hl => match us, hl with | [_, _], _ => rfl⟩⟩
theorem sc_law_kinds_NoTray : FnScope ["_law_e", "_law_some"] ["_law_e"] (defScope (topS 136)) := ⟨rfl, rfl, rfl, by decide +kernel, rfl, by decide +kernel, by decide +kernel⟩
theorem okf_law_kinds_NoTray {f : Addr} {fd : FuncData} (F : Fun K "_law_kinds" "_law_kinds" (topS 136) f fd) (T : Txt K mg ca cb) : FnE P w K mg base 1 f fd ["_law_e"] (sp_law_kinds_NoTray K ca) := by
  refine Cd.Fun.okE F sc_law_kinds_NoTray (fun p_ vs H0 Q E h => ?_) (fun cdv A outer s H0 p_ vs Q E hr h => ?_)
  · obtain ⟨Z0, x_a, rfl, _⟩ := h
    rfl
  · obtain ⟨Z0, x_a, rfl, zh, h_rf, hm⟩ := h
    have nd := sc_law_kinds_NoTray.nd
    have hm_ := hm.opn; clear hm; obtain ⟨W, WE, hm, hW, hWE⟩ := hm_
    have hS := Sep.start (K := K) zh
    unfold m_law_kinds_NoTray at hm
    refine ⟨_, (pss_cons (ps_set (i := 1) nd rfl (Or.inl rfl) (pe_lstQ (pa_cons (pe_callB (call_isPx (K := K) rfl (List.mem_singleton.mpr rfl) h_rf) (by rfl) T.b_isinstance (by decide +kernel) (pa_cons (pv 0) (pa_cons (pcK (pe_glob (v := .ref ca.NoCard) rfl T.gx_NoCard rfl)) pnK))) (pa_cons (pe_callB (call_isPx (K := K) rfl (List.mem_singleton.mpr rfl) h_rf) (by rfl) T.b_isinstance (by decide +kernel) (pa_cons (pv 0) (pa_cons (pcK (pe_glob (v := .ref ca.NoField) rfl T.gx_NoField rfl)) pnK))) (pa_cons (pe_callB (call_isPx (K := K) rfl (List.mem_singleton.mpr rfl) h_rf) (by rfl) T.b_isinstance (by decide +kernel) (pa_cons (pv 0) (pa_cons (pcK (pe_glob (v := .ref ca.NoOrder) rfl T.gx_NoOrder rfl)) pnK))) (pa_cons (pe_callB (call_isPx (K := K) rfl (List.mem_singleton.mpr rfl) h_rf) (by rfl) T.b_isinstance (by decide +kernel) (pa_cons (pv 0) (pa_cons (pcK (pe_glob (v := .ref ca.NoBoard) rfl T.gx_NoBoard rfl)) pnK))) pnK)))))) (pss_cons (ps_set (i := 1) nd rfl (Or.inl rfl) (pe_op op_cat (pv 1) (pe_lstQ (pa_cons (pe_callB (call_isPx (K := K) rfl (List.mem_singleton.mpr rfl) h_rf) (by rfl) T.b_isinstance (by decide +kernel) (pa_cons (pv 0) (pa_cons (pcK (pe_glob (v := .ref ca.Meet) rfl T.gx_Meet rfl)) pnK))) (pa_cons (pe_callB (call_isPx (K := K) rfl (List.mem_singleton.mpr rfl) h_rf) (by rfl) T.b_isinstance (by decide +kernel) (pa_cons (pv 0) (pa_cons (pcK (pe_glob (v := .ref ca.NoAsking) rfl T.gx_NoAsking rfl)) pnK))) (pa_cons (pe_callB (call_isPx (K := K) rfl (List.mem_singleton.mpr rfl) h_rf) (by rfl) T.b_isinstance (by decide +kernel) (pa_cons (pv 0) (pa_cons (pcK (pe_glob (v := .ref ca.NoPlan) rfl T.gx_NoPlan rfl)) pnK))) (pa_cons (pe_callB (call_isPx (K := K) rfl (List.mem_singleton.mpr rfl) h_rf) (by rfl) T.b_isinstance (by decide +kernel) (pa_cons (pv 0) (pa_cons (pcK (pe_glob (v := .ref ca.NoRow) rfl T.gx_NoRow rfl)) pnK))) pnK))))))) (pss_one (ps_ret (puK (pe_and (pe_callB (call_isPx (K := K) rfl (List.mem_singleton.mpr rfl) h_rf) (by rfl) T.b_isinstance (by decide +kernel) (pa_cons (pv 0) (pa_cons (pcK (pe_glob (v := .ref ca.ShopError) rfl T.gx_ShopError rfl)) pnK))) (pe_and (pe_callB (call_isPx (K := K) rfl (List.mem_singleton.mpr rfl) h_rf) (by rfl) T.b_isinstance (by decide +kernel) (pa_cons (pv 0) (pa_cons (pcK (pe_bltn (v := .ty "ValueError") (by rfl) T.b_ValueError (by decide +kernel) rfl)) pnK))) (pe_one (pe_cmpR (op_ninK (K := K) rfl) (pcK pe_bl) (pv 1) (by rfl)))))))))), ?_⟩
    refine ⟨_, rfl, ⟨trivial, ⟨trivial, (k_isEx (.inl rfl) T.xc_NoTray (fun _ h => h) T.ki_NoTray_NoCard ⟨_, rfl, ⟨trivial, ⟨trivial, (k_isEx (.inl rfl) T.xc_NoTray (fun _ h => h) T.ki_NoTray_NoField ⟨_, rfl, ⟨trivial, ⟨trivial, (k_isEx (.inl rfl) T.xc_NoTray (fun _ h => h) T.ki_NoTray_NoOrder ⟨_, rfl, ⟨trivial, ⟨trivial, (k_isEx (.inl rfl) T.xc_NoTray (fun _ h => h) T.ki_NoTray_NoBoard ⟨trivial, (k_lst (K := K) (m := [false, false, false, false]) hS.zh (.cons rfl (.cons rfl (.cons rfl (.cons rfl .nil)))) (Nat.le_of_ble_eq_true rfl) (New.gen fun some_1 en2 => New.tel fun v6 Z3 H4 st5 hv6 => ?_))⟩)⟩⟩⟩)⟩⟩⟩)⟩⟩⟩)⟩⟩⟩
    have hS := (hS.step st5).tel (a := some_1) hv6
    refine (tgt1 ?_)
    have hm := Good.vl en2 hm
    refine ⟨_, rfl, ⟨_, rfl, ⟨trivial, ⟨trivial, (k_isEx (.inl rfl) T.xc_NoTray (fun _ h => h) T.ki_NoTray_Meet ⟨_, rfl, ⟨trivial, ⟨trivial, (k_isEx (.inl rfl) T.xc_NoTray (fun _ h => h) T.ki_NoTray_NoAsking ⟨_, rfl, ⟨trivial, ⟨trivial, (k_isEx (.inl rfl) T.xc_NoTray (fun _ h => h) T.ki_NoTray_NoPlan ⟨_, rfl, ⟨trivial, ⟨trivial, (k_isEx (.inl rfl) T.xc_NoTray (fun _ h => h) T.ki_NoTray_NoRow ⟨trivial, (k_lst (K := K) (m := [false, false, false, false]) hS.zh (.cons rfl (.cons rfl (.cons rfl (.cons rfl .nil)))) (Nat.le_of_ble_eq_true rfl) (New.tel fun v13 Z10 H11 st12 hv13 => ?_))⟩)⟩⟩⟩)⟩⟩⟩)⟩⟩⟩)⟩⟩⟩⟩
    have hS := (hS.step st12).tel (a := [false, false, false, false]) hv13
    obtain ⟨g7, hm⟩ := Good.chk hm
    refine (k_catL hS.zh (RO.tell hS.zh (hS.fact 1 rfl)) (RO.tell hS.zh (hS.fact 0 rfl)) g7 (New.gen fun some_8 en9 => New.tel fun v17 Z14 H15 st16 hv17 => ?_))
    have hS := (hS.step st16).tel (a := some_8) hv17
    refine (tgt1 ?_)
    have hm := Good.vl en9 hm
    have hS := hS.drop1
    have hS := hS.drop1
    refine ⟨trivial, (valAnd (fun _ q => ⟨_, rfl, ⟨trivial, ⟨trivial, (k_isEx (.inl rfl) T.xc_NoTray (fun _ h => h) T.ki_NoTray_ShopError q)⟩⟩⟩) (fun b18 _ q => (valAnd (fun _ q => ⟨_, rfl, ⟨trivial, ⟨trivial, (k_isEx (.inl rfl) T.xc_NoTray (fun _ h => h) T.ki_NoTray_ValueError q)⟩⟩⟩) (fun b19 _ q => ⟨trivial, ⟨_, rfl, (k_ninL (RO.tell hS.zh (hS.fact 0 rfl)) q)⟩⟩) q)) ?_)⟩
    exact hW _ hm _ _ hS.st
theorem ok_law_kinds_NoTray {f : Addr} {fd : FuncData} (F : Fun K "_law_kinds" "_law_kinds" (topS 136) f fd) (gm : mg "_law_kinds" = some (.ref f)) (T : Txt K mg ca cb) : CalE P w K mg base "_law_kinds" 1 ["_law_e"] (sp_law_kinds_NoTray K ca) :=
  ⟨⟨f, fd, okf_law_kinds_NoTray F T, gm, F.kp, F.binds (ps := ["_law_e"]) fun _ _ _ _ _ _ us hl => match us, hl with | [_], _ => rfl⟩⟩
theorem sc_Desk_there : FnScope ["self", "word"] ["self", "word"] (defScope (inClass (topS 129) 1)) := ⟨rfl, rfl, rfl, by decide +kernel, rfl, by decide +kernel, by decide +kernel⟩
theorem okf_Desk_there {f : Addr} {fd : FuncData} (F : Fun K "there" "Desk.there" (inClass (topS 129) 1) f fd) (T : Txt K mg ca cb) : FnOk P w K mg base (L2.CX P w) 1 f fd ["self", "word"] (sp_Desk_there K ca) := by
  refine F.okX sc_Desk_there (fun vs H0 Q E h => ?_) (fun cdv A outer s H0 vs Q E hr h => ?_)
  · obtain ⟨Z0, a_self, v_self, a_word, rfl, _⟩ := h
    rfl
  · obtain ⟨Z0, a_self, v_self, a_word, rfl, zh, h_self, hm⟩ := h
    have nd := sc_Desk_there.nd
    have hm_ := hm.opn; clear hm; obtain ⟨W, WE, hm, hW, hWE⟩ := hm_
    have hS := Sep.start (K := K) zh
    have hS := hS.tel h_self
    unfold m_Desk_there at hm
    refine ⟨_, (pss_cons (ps_if (pt_cmp (pc_dninQ (hu_of hr) (pv 1) (pe_fldK (K := K) rfl (pv 0) rfl))) (pss_one (ps_raise rfl (takes_of rfl rfl rfl rfl) (pmk_own PySem.F.excBase_ValueError T.ex_NoTray T.gx_NoTray T.kx_NoTray (raises_own T.su_NoTray T.ty_NoTray) rfl))) pss_nil) (pss_one (ps_ret (pv 1)))), ?_⟩
    refine ⟨_, rfl, ⟨_, rfl, (fld_Desk_trays hS.zh (hS.fact 0 rfl) T.nk_Desk T.cl_Desk T.na_Desk_trays (fun y1 hy1 => (k_dnin (RD.tell hS.zh hy1) ⟨_, rfl, (ite2 (fun e2 => ?_) (fun e3 => ?_))⟩)))⟩⟩
    · skip
      have hm := Good.ifT e2 hm
      exact hWE _ hm _ _ _ _ hS.st ⟨rfl, rfl⟩
    · skip
      have hm := Good.ifF e3 hm
      refine ⟨_, rfl, ?_⟩
      exact hW _ hm _ _ hS.st
theorem ok_Desk_there {f : Addr} {fd : FuncData} (F : Fun K "there" "Desk.there" (inClass (topS 129) 1) f fd) (gm : Meth K cb.Desk "there" f) (T : Txt K mg ca cb) : MetX P w K mg base (L2.CX P w) 1 cb.Desk "there" ["self", "word"] (sp_Desk_there K ca) :=
  ⟨⟨f, fd, T.cl_Desk, gm, okf_Desk_there F T, F.binds (ps := ["self", "word"]) fun _ _ _ _ _ _ us hl => match us, hl with | [_, _], _ => rfl⟩⟩
theorem sc_Desk_say : FnScope ["self", "row", "words", "word", "name"] ["self", "row"] (defScope (inClass (topS 129) 2)) := ⟨rfl, rfl, rfl, by decide +kernel, rfl, by decide +kernel, by decide +kernel⟩
theorem okf_Desk_say {f : Addr} {fd : FuncData} (F : Fun K "say" "Desk.say" (inClass (topS 129) 2) f fd) (T : Txt K mg ca cb) (C_read_cards : Cal P w K mg base CX0 "read_cards" 3 ["words"] (sp_read_cards K ca)) (C_new_name : Cal P w K mg base (L2.CX P w) "new_name" 2 ["word"] (sp_new_name K ca)) (C_is_row : Cal P w K mg base CX0 "is_row" 1 ["words"] (sp_is_row K ca)) (C_Desk_there : MetX P w K mg base (L2.CX P w) 1 cb.Desk "there" ["self", "word"] (sp_Desk_there K ca)) : FnOk P w K mg base (L2.CX P w) 4 f fd ["self", "row"] (sp_Desk_say K ca) := by
  refine F.okX sc_Desk_say (fun vs H0 Q E h => ?_) (fun cdv A outer s H0 vs Q E hr h => ?_)
  · obtain ⟨Z0, a_self, v_self, ps_self, a_row, rfl, _⟩ := h
    rfl
  · obtain ⟨Z0, a_self, v_self, ps_self, a_row, rfl, zh, h_self, hnd_self, hnz_self, hm⟩ := h
    have nd := sc_Desk_say.nd
    have hm_ := hm.opn; clear hm; obtain ⟨W, WE, hm, hW, hWE⟩ := hm_
    have hS := Sep.lent zh h_self hnd_self hnz_self
    unfold m_Desk_say at hm
    refine ⟨_, (pss_cons (ps_set (i := 2) nd rfl (Or.inl rfl) (pe_bmK (K := K) rfl PySem.F.plainAttrs_str PySem.F.slot_str_split PySem.F.type_str_split mt_splitQ (pv 1) (pa_cons (pcK pe_str) pnK))) (pss_cons (ps_if (ptK (pt_not (pt_val (pe_cal C_is_row (hr.mono (by decide)) pass0 (pa_cons (pv 2) pnK))))) (pss_one ps_never) pss_nil) (pss_cons (ps_set (i := 3) nd rfl (Or.inl rfl) (pe_ix (ix_listK (K := K) rfl) (pv 2) (pcK pe_int) (fun _ _ => rfl))) (pss_cons (ps_if (pt_cmpR op_eq (pv 3) (pcK pe_str) (nomark _)) (pss_cons (ps_set (i := 4) nd rfl (Or.inl rfl) (pe_cal C_new_name (hr.mono (by decide)) (passX (takes_of rfl rfl rfl rfl) (fun _ _ _ _ h => h)) (pa_cons (pe_ix (ix_listK (K := K) rfl) (pv 2) (pcK pe_int) (fun _ _ => rfl)) pnK))) (pss_one (ps_dputQ (hu_of hr) (pe_fldK (K := K) rfl (pv 0) rfl) (pv 4) (pe_cal C_read_cards (hr.mono (by decide)) pass0 (pa_cons (pe_slice sl_list (pv 2) (po_some (pcK pe_int)) po_noK) pnK)) rfl))) (pss_one (ps_if (pt_cmpR op_eq (pv 3) (pcK pe_str) (nomark _)) (pss_one (ps_ret (pe_callTy (call_listK (K := K) rfl) (by rfl) T.b_list (by decide +kernel) (pa_cons (pe_dgetQ (hu_of hr) (pe_fldK (K := K) rfl (pv 0) rfl) (pe_mtX C_Desk_there (hr.mono (by decide)) (passX (takes_of rfl rfl rfl rfl) (fun _ _ _ _ h => h)) (pv 0) (pa_cons (pe_ix (ix_listK (K := K) rfl) (pv 2) (pcK pe_int) (fun _ _ => rfl)) pnK)) (fun _ _ => rfl)) pnK)))) (pss_one (ps_if (pt_cmpR op_eq (pv 3) (pcK pe_str) (nomark _)) (pss_one (ps_expr (pe_dpopQ (pe_fldK (K := K) rfl (pv 0) rfl) (pe_mtX C_Desk_there (hr.mono (by decide)) (passX (takes_of rfl rfl rfl rfl) (fun _ _ _ _ h => h)) (pv 0) (pa_cons (pe_ix (ix_listK (K := K) rfl) (pv 2) (pcK pe_int) (fun _ _ => rfl)) pnK)) ⟨rfl, rfl, rfl, rfl⟩))) (pss_one (ps_if (pt_cmpR op_eq (pv 3) (pcK pe_str) (nomark _)) (pss_one ps_never) (pss_one (ps_if (pt_cmpR op_eq (pv 3) (pcK pe_str) (nomark _)) (pss_one ps_never) (pss_one ps_never)))))))))) (pss_one (ps_ret (pe_lstQ pnK))))))), ?_⟩
    obtain ⟨p_self, er_⟩ := hS.ref 0 rfl; subst er_
    have hS : (Sep K Z0 (delL H0 ps_self) _ _ [⟨sh_Desk, (.ref p_self), a_self⟩]) := hS.pick [0] (by decide) rfl
    have hT_ := hS; clear hS; obtain ⟨p_, vs_, ev_, hl_, hS⟩ := Sep.opnO hT_; clear hT_
    have hq_ := V.ref.inj ev_; subst hq_
    obtain ⟨v2, w1, rfl, hS⟩ := hS.unr
    obtain ⟨rfl, hS⟩ := hS.nilrow
    have hS : (Sep K Z0 (delL H0 ps_self) _ _ [⟨(Sh.dc Str (List Str)), v2, (a_self).trays⟩, ⟨(Sh.husk "Desk" ["trays"]), (.ref p_self), [v2]⟩]) := hS
    obtain ⟨p3, er_⟩ := hS.ref 0 rfl
    subst er_
    obtain ⟨g4, hm⟩ := Good.chk hm
    refine ⟨_, rfl, ⟨rfl, ⟨trivial, ⟨trivial, (k_split (K := K) hS.zh (by decide +kernel) g4 (New.gen fun words_5 en6 => New.tel fun v10 Z7 H8 st9 hv10 => ?_))⟩⟩⟩⟩
    have hS := (hS.step st9).tel (a := words_5) hv10
    refine (tgt1 ?_)
    have hm := Good.vl en6 hm
    refine ⟨trivial, ⟨_, rfl, ⟨trivial, ⟨_, _, _, rfl, hS.zh, (hS.fact 0 rfl), (Good.nx (Good.bnd hm)).imp (fun r11 hm => fun Z12 H13 st14 => ?_) (fun _ h_ => h_)⟩⟩⟩⟩
    have hS := hS.step st14
    refine ⟨_, rfl, (ite2 (fun e15 => ?_) (fun e16 => ?_))⟩
    · skip
      have hm := Good.ifT e15 hm
      exact hm.elim
    · skip
      have hm := Good.ifF e16 hm
      obtain ⟨g17, hm⟩ := Good.chk hm
      refine ⟨_, rfl, ⟨trivial, (k_ixLs hS.zh (hS.fact 0 rfl) g17 (storeS fun word_18 en19 => ?_))⟩⟩
      have hm := Good.vl en19 hm
      refine ⟨_, rfl, ⟨trivial, (k_eqS ⟨_, rfl, (ite2 (fun e20 => ?_) (fun e21 => ?_))⟩)⟩⟩
      · skip
        have hm := Good.ifT e20 hm
        obtain ⟨g22, hm⟩ := Good.chk hm
        refine ⟨_, rfl, ⟨trivial, (k_ixLs hS.zh (hS.fact 0 rfl) g22 ⟨trivial, ⟨_, _, rfl, hS.zh, (Good.bnd hm).imp (fun r23 hm => fun Z32 H33 st34 => ?_) (fun e24 h25 Z26 H27 cls28 d29 st30 x31 => ?te24)⟩⟩)⟩⟩
        have hS := hS.step st34
        case te24 =>
          have hS := hS.step st30
          have hS : (Sep K Z0 (delL H0 ps_self) _ _ [⟨(Sh.dc Str (List Str)), (.ref p3), (a_self).trays⟩, ⟨(Sh.husk "Desk" ["trays"]), (.ref p_self), [(.ref p3)]⟩, ⟨(Sh.told (α := (List Str))), v10, words_5⟩]) := hS.pick [1, 2, 0] (by decide) rfl
          have hS := hS.mknil
          have hS := hS.mkr
          have hS : (Sep K Z0 (delL H0 ps_self) _ _ [⟨sh_Desk, (.ref p_self), (⟨(a_self).trays⟩ : Desk)⟩, ⟨(Sh.told (α := (List Str))), v10, words_5⟩]) := Sep.clsO (f := Desk.row) rfl hS
          obtain ⟨ps35, o36⟩ := hS.nth 0 rfl
          exact hWE _ h25 _ _ _ _ _ hS.st o36 x31
        refine (tgt1 ?_)
        refine ⟨_, rfl, ⟨trivial, ⟨_, rfl, ⟨trivial, (k_slL hS.zh (hS.fact 0 rfl) (New.tel fun v41 Z38 H39 st40 hv41 => ?_))⟩⟩⟩⟩
        have hS := (hS.step st40).tel (a := (cutL words_5 (some (2 : Int)) none)) hv41
        refine ⟨trivial, ⟨_, _, _, rfl, hS.zh, (hS.fact 0 rfl), (Good.nx (Good.bnd hm)).imp (fun r37 hm => NewO.tel hS.zh (fun v45 Z42 H43 st44 hv45 => ?_)) (fun _ h_ => h_)⟩⟩
        have hS := (hS.step st44).tel (a := r37) hv45
        obtain ⟨g50, hm⟩ := Good.chk hm
        refine ⟨_, rfl, (hS.fld 4 rfl T.nk_Desk T.cl_Desk T.na_Desk_trays rfl ⟨_, rfl, (k_dput (k0 := r23) (a := r37) (hS.D 3 rfl) (hS.fact 0 rfl) g50 (fun u48 o49 => ?_))⟩)⟩
        have hS := hS.mutD 3 rfl o49; dsimp only [List.set] at hS
        obtain ⟨self_trays_51, en52⟩ : ∃ z, z = (⟨dPut ((a_self).trays).kv r23 r37⟩ : (Dct Str (List Str))) := ⟨_, rfl⟩
        rw [← en52] at hS
        have hm := Good.vl en52 hm
        have hS := hS.drop
        have hS := hS.drop
        refine ⟨trivial, (k_lst (K := K) (m := ([] : (List Str))) hS.zh .nil (Nat.le_of_ble_eq_true rfl) (New.ownS fun p56 ps57 Z53 H54 st55 o58 => ?_))⟩
        have hS := hS.own st55 o58
        have hS : (Sep K Z0 (delL H0 ps_self) _ _ [⟨(Sh.dc Str (List Str)), (.ref p3), self_trays_51⟩, ⟨(Sh.husk "Desk" ["trays"]), (.ref p_self), [(.ref p3)]⟩, ⟨(Sh.lt Str), (.ref p56), ([] : (List Str))⟩, ⟨(Sh.told (α := (List Str))), v10, words_5⟩]) := hS.pick [2, 3, 0, 1] (by decide) rfl
        have hS := hS.mknil
        have hS := hS.mkr
        have hS : (Sep K Z0 (delL H0 ps_self) _ _ [⟨sh_Desk, (.ref p_self), (⟨self_trays_51⟩ : Desk)⟩, ⟨(Sh.lt Str), (.ref p56), ([] : (List Str))⟩, ⟨(Sh.told (α := (List Str))), v10, words_5⟩]) := Sep.clsO (f := Desk.row) rfl hS
        obtain ⟨ps_, qs_, o_, o2_, nd_⟩ := hS.nth2 0 1 (by decide) rfl rfl; exact hW _ hm _ _ _ hS.st o_ _ _ o2_ nd_
      · skip
        have hm := Good.ifF e21 hm
        refine ⟨_, rfl, ⟨trivial, (k_eqS ⟨_, rfl, (ite2 (fun e59 => ?_) (fun e60 => ?_))⟩)⟩⟩
        · skip
          have hm := Good.ifT e59 hm
          obtain ⟨g61, hm⟩ := Good.chk hm
          refine ⟨_, rfl, (hS.fld 2 rfl T.nk_Desk T.cl_Desk T.na_Desk_trays rfl ⟨_, rfl, (hS.mthH 2 rfl T.nk_Desk (by decide) ⟨_, rfl, ⟨trivial, (k_ixLs hS.zh (hS.fact 0 rfl) g61 ⟨trivial, ?_⟩)⟩⟩)⟩)⟩
          have hSB73 := hS; have bB73 := hS.bor0S
          have hS : (Sep K Z0 (delL H0 ps_self) _ _ [⟨(Sh.dc Str (List Str)), (.ref p3), (a_self).trays⟩, ⟨(Sh.husk "Desk" ["trays"]), (.ref p_self), [(.ref p3)]⟩, ⟨(Sh.told (α := (List Str))), v10, words_5⟩]) := hS.pick [1, 2, 0] (by decide) rfl
          have hS := hS.mknil
          have hS := hS.mkr
          have hS : (Sep K Z0 (delL H0 ps_self) _ _ [⟨sh_Desk, (.ref p_self), (⟨(a_self).trays⟩ : Desk)⟩, ⟨(Sh.told (α := (List Str))), v10, words_5⟩]) := Sep.clsO (f := Desk.row) rfl hS
          obtain ⟨Z74, ps75, bB73, hS⟩ := hS.borS bB73 0 rfl; dsimp only [List.set] at hS
          have sB73 := Step.refl hS.zh
          refine ⟨_, _, _, _, rfl, hS.zh, (hS.fact 0 rfl), (Good.np (Good.bnd hm)).imp (fun r62 hm => fun Z76 H77 st78 => ?_) (fun e63 h64 Z65 H66 cls67 d68 st69 x70 => ?te63)⟩
          have sB73 := sB73.trans st78
          have hS := hS.step st78
          case te63 =>
            have sB73 := sB73.trans st69
            have st_ := bB73.back hSB73.zh sB73
            have hS := hSB73.step st_
            have hS : (Sep K Z0 (delL H0 ps_self) _ _ [⟨(Sh.dc Str (List Str)), (.ref p3), (a_self).trays⟩, ⟨(Sh.husk "Desk" ["trays"]), (.ref p_self), [(.ref p3)]⟩, ⟨(Sh.told (α := (List Str))), v10, words_5⟩]) := hS.pick [1, 2, 0] (by decide) rfl
            have hS := hS.mknil
            have hS := hS.mkr
            have hS : (Sep K Z0 (delL H0 ps_self) _ _ [⟨sh_Desk, (.ref p_self), (⟨(a_self).trays⟩ : Desk)⟩, ⟨(Sh.told (α := (List Str))), v10, words_5⟩]) := Sep.clsO (f := Desk.row) rfl hS
            obtain ⟨ps79, o80⟩ := hS.nth 0 rfl
            exact hWE _ h64.1 _ _ _ _ _ hS.st o80 (ExR.np h64.2 x70)
          have stB73 := bB73.back hSB73.zh sB73
          have hS := hSB73.step stB73
          obtain ⟨g71, hm⟩ := Good.chk hm
          refine (k_dget (RD.own (hS.D 1 rfl)) g71 (fun y72 hy72 => ⟨trivial, (k_listQ hS.zh hy72 (New.ownS fun p84 ps85 Z81 H82 st83 o86 => ?_))⟩))
          have hS := hS.tel (a := (dAt (a_self).trays r62)) hy72
          have hS := hS.own st83 o86
          have hS : (Sep K Z0 (delL H0 ps_self) _ _ [⟨(Sh.dc Str (List Str)), (.ref p3), (a_self).trays⟩, ⟨(Sh.husk "Desk" ["trays"]), (.ref p_self), [(.ref p3)]⟩, ⟨(Sh.lt Str), (.ref p84), (dAt (a_self).trays r62)⟩, ⟨(Sh.told (α := (List Str))), y72, (dAt (a_self).trays r62)⟩, ⟨(Sh.told (α := (List Str))), v10, words_5⟩]) := hS.pick [3, 4, 0, 1, 2] (by decide) rfl
          have hS := hS.mknil
          have hS := hS.mkr
          have hS : (Sep K Z0 (delL H0 ps_self) _ _ [⟨sh_Desk, (.ref p_self), (⟨(a_self).trays⟩ : Desk)⟩, ⟨(Sh.lt Str), (.ref p84), (dAt (a_self).trays r62)⟩, ⟨(Sh.told (α := (List Str))), y72, (dAt (a_self).trays r62)⟩, ⟨(Sh.told (α := (List Str))), v10, words_5⟩]) := Sep.clsO (f := Desk.row) rfl hS
          obtain ⟨ps_, qs_, o_, o2_, nd_⟩ := hS.nth2 0 1 (by decide) rfl rfl; exact hW _ hm _ _ _ hS.st o_ _ _ o2_ nd_
        · skip
          have hm := Good.ifF e60 hm
          refine ⟨_, rfl, ⟨trivial, (k_eqS ⟨_, rfl, (ite2 (fun e87 => ?_) (fun e88 => ?_))⟩)⟩⟩
          · skip
            have hm := Good.ifT e87 hm
            obtain ⟨g89, hm⟩ := Good.chk hm
            refine ⟨_, rfl, (hS.fld 2 rfl T.nk_Desk T.cl_Desk T.na_Desk_trays rfl ⟨_, rfl, tyD (hS.D 1 rfl), ⟨_, rfl, (hS.mthH 2 rfl T.nk_Desk (by decide) ⟨_, rfl, ⟨trivial, (k_ixLs hS.zh (hS.fact 0 rfl) g89 ⟨trivial, ?_⟩)⟩⟩)⟩⟩)⟩
            have hSB99 := hS; have bB99 := hS.bor0S
            have hS : (Sep K Z0 (delL H0 ps_self) _ _ [⟨(Sh.dc Str (List Str)), (.ref p3), (a_self).trays⟩, ⟨(Sh.husk "Desk" ["trays"]), (.ref p_self), [(.ref p3)]⟩, ⟨(Sh.told (α := (List Str))), v10, words_5⟩]) := hS.pick [1, 2, 0] (by decide) rfl
            have hS := hS.mknil
            have hS := hS.mkr
            have hS : (Sep K Z0 (delL H0 ps_self) _ _ [⟨sh_Desk, (.ref p_self), (⟨(a_self).trays⟩ : Desk)⟩, ⟨(Sh.told (α := (List Str))), v10, words_5⟩]) := Sep.clsO (f := Desk.row) rfl hS
            obtain ⟨Z100, ps101, bB99, hS⟩ := hS.borS bB99 0 rfl; dsimp only [List.set] at hS
            have sB99 := Step.refl hS.zh
            refine ⟨_, _, _, _, rfl, hS.zh, (hS.fact 0 rfl), (Good.np (Good.bnd hm)).imp (fun r90 hm => fun Z102 H103 st104 => ?_) (fun e91 h92 Z93 H94 cls95 d96 st97 x98 => ?te91)⟩
            have sB99 := sB99.trans st104
            have hS := hS.step st104
            case te91 =>
              have sB99 := sB99.trans st97
              have st_ := bB99.back hSB99.zh sB99
              have hS := hSB99.step st_
              have hS : (Sep K Z0 (delL H0 ps_self) _ _ [⟨(Sh.dc Str (List Str)), (.ref p3), (a_self).trays⟩, ⟨(Sh.husk "Desk" ["trays"]), (.ref p_self), [(.ref p3)]⟩, ⟨(Sh.told (α := (List Str))), v10, words_5⟩]) := hS.pick [1, 2, 0] (by decide) rfl
              have hS := hS.mknil
              have hS := hS.mkr
              have hS : (Sep K Z0 (delL H0 ps_self) _ _ [⟨sh_Desk, (.ref p_self), (⟨(a_self).trays⟩ : Desk)⟩, ⟨(Sh.told (α := (List Str))), v10, words_5⟩]) := Sep.clsO (f := Desk.row) rfl hS
              obtain ⟨ps105, o106⟩ := hS.nth 0 rfl
              exact hWE _ h92.1 _ _ _ _ _ hS.st o106 (ExR.np h92.2 x98)
            have stB99 := bB99.back hSB99.zh sB99
            have hS := hSB99.step stB99
            obtain ⟨g109, hm⟩ := Good.chk hm
            refine (k_dpop (k0 := r90) (hS.D 1 rfl) g109 (fun y110 u107 o108 => ?_))
            have hS := hS.mutD 1 rfl o108; dsimp only [List.set] at hS
            obtain ⟨self_trays_111, en112⟩ : ∃ z, z = (⟨dDrop ((a_self).trays).kv r90⟩ : (Dct Str (List Str))) := ⟨_, rfl⟩
            rw [← en112] at hS
            have hm := Good.vl en112 hm
            refine ⟨trivial, (k_lst (K := K) (m := ([] : (List Str))) hS.zh .nil (Nat.le_of_ble_eq_true rfl) (New.ownS fun p116 ps117 Z113 H114 st115 o118 => ?_))⟩
            have hS := hS.own st115 o118
            have hS : (Sep K Z0 (delL H0 ps_self) _ _ [⟨(Sh.dc Str (List Str)), (.ref p3), self_trays_111⟩, ⟨(Sh.husk "Desk" ["trays"]), (.ref p_self), [(.ref p3)]⟩, ⟨(Sh.lt Str), (.ref p116), ([] : (List Str))⟩, ⟨(Sh.told (α := (List Str))), v10, words_5⟩]) := hS.pick [2, 3, 0, 1] (by decide) rfl
            have hS := hS.mknil
            have hS := hS.mkr
            have hS : (Sep K Z0 (delL H0 ps_self) _ _ [⟨sh_Desk, (.ref p_self), (⟨self_trays_111⟩ : Desk)⟩, ⟨(Sh.lt Str), (.ref p116), ([] : (List Str))⟩, ⟨(Sh.told (α := (List Str))), v10, words_5⟩]) := Sep.clsO (f := Desk.row) rfl hS
            obtain ⟨ps_, qs_, o_, o2_, nd_⟩ := hS.nth2 0 1 (by decide) rfl rfl; exact hW _ hm _ _ _ hS.st o_ _ _ o2_ nd_
          · skip
            have hm := Good.ifF e88 hm
            refine ⟨_, rfl, ⟨trivial, (k_eqS ⟨_, rfl, (ite2 (fun e119 => ?_) (fun e120 => ?_))⟩)⟩⟩
            · skip
              have hm := Good.ifT e119 hm
              exact hm.elim
            · skip
              have hm := Good.ifF e120 hm
              refine ⟨_, rfl, ⟨trivial, (k_eqS ⟨_, rfl, (ite2 (fun e121 => ?_) (fun e122 => ?_))⟩)⟩⟩
              · skip
                have hm := Good.ifT e121 hm
                exact hm.elim
              · skip
                have hm := Good.ifF e122 hm
                exact hm.elim
theorem ok_Desk_say {f : Addr} {fd : FuncData} (F : Fun K "say" "Desk.say" (inClass (topS 129) 2) f fd) (gm : Meth K cb.Desk "say" f) (T : Txt K mg ca cb) (C_read_cards : Cal P w K mg base CX0 "read_cards" 3 ["words"] (sp_read_cards K ca)) (C_new_name : Cal P w K mg base (L2.CX P w) "new_name" 2 ["word"] (sp_new_name K ca)) (C_is_row : Cal P w K mg base CX0 "is_row" 1 ["words"] (sp_is_row K ca)) (C_Desk_there : MetX P w K mg base (L2.CX P w) 1 cb.Desk "there" ["self", "word"] (sp_Desk_there K ca)) : MetX P w K mg base (L2.CX P w) 4 cb.Desk "say" ["self", "row"] (sp_Desk_say K ca) :=
  ⟨⟨f, fd, T.cl_Desk, gm, okf_Desk_say F T C_read_cards C_new_name C_is_row C_Desk_there, F.binds (ps := ["self", "row"]) fun _ _ _ _ _ _ us hl => match us, hl with | [_, _], _ => rfl⟩⟩
theorem sc_law_no_tray : FnScope ["_law_desk", "_law_row", "_law_refused", "_law_e"] ["_law_desk", "_law_row"] (defScope (topS 137)) := ⟨rfl, rfl, rfl, by decide +kernel, rfl, by decide +kernel, by decide +kernel⟩
theorem okf_law_no_tray {f : Addr} {fd : FuncData} (F : Fun K "_law_no_tray" "_law_no_tray" (topS 137) f fd) (T : Txt K mg ca cb) (C_law_kinds_NoTray : CalE P w K mg base "_law_kinds" 1 ["_law_e"] (sp_law_kinds_NoTray K ca)) (C_Desk_say : MetX P w K mg base (L2.CX P w) 4 cb.Desk "say" ["self", "row"] (sp_Desk_say K ca)) : FnOk P w K mg base CX0 5 f fd ["_law_desk", "_law_row"] (sp_law_no_tray K ca) := by
  refine F.ok sc_law_no_tray (fun vs H0 Q E h => ?_) (fun cdv A outer s H0 vs Q E hr h => ?_)
  · obtain ⟨Z0, a_law_desk, v_law_desk, ps_law_desk, a_law_row, rfl, _⟩ := h
    rfl
  · obtain ⟨Z0, a_law_desk, v_law_desk, ps_law_desk, a_law_row, rfl, zh, h_law_desk, hnd_law_desk, hnz_law_desk, hm⟩ := h
    have nd := sc_law_no_tray.nd
    have hm_ := hm.opn; clear hm; obtain ⟨W, WE, hm, hW, hWE⟩ := hm_
    have hS := Sep.lent zh h_law_desk hnd_law_desk hnz_law_desk
    obtain ⟨p_law_desk, er_⟩ := hS.ref 0 rfl; subst er_
    unfold m_law_no_tray at hm
    refine ⟨_, (pss_cons (ps_set (i := 2) nd rfl (Or.inl rfl) (pcK pe_bl)) (pss_cons (ps_try_manyN pss_nil rfl rfl takes0 (fun W pn xe tk _ => (pss_one (ps_expr (pe_mtXS C_Desk_say (hr.mono (by decide)) (fun σ => passAt tk σ) (pv 0) (pa_cons (pv 1) pnK))))) (.named (i := 3) nd rfl rfl (c := .ref ca.NoTray) ⟨rfl, by decide, .inl T.gx_NoTray⟩ (fun a oe cls d pn hz hf => (pss_one (ps_set (i := 2) nd rfl (Or.inl rfl) (pe_calE C_law_kinds_NoTray (hr.mono (by decide)) hz hf (pa_cons (pv 3) pnK))))) .nil)) (pss_one (ps_ret (pv 2))))), ?_⟩
    refine ⟨trivial, (storeB fun refused_1 en2 => ?_)⟩
    have hm := Good.vl en2 hm
    obtain ⟨W3, WE4, hm, hK5, hF6⟩ := Good.trW hm
    refine ⟨_, rfl, (hS.mth 0 rfl T.nk_Desk (by decide) ⟨_, rfl, ⟨trivial, ?_⟩⟩)⟩
    obtain ⟨ps18, h19, lg20⟩ := hS.lendO 0 rfl
    refine ⟨_, _, _, _, _, rfl, hS.zh, h19.1, h19.2.1, h19.2.2, (Good.bnd hm).imp (fun r7 hm Z21 H22 ps23 st24 o25 v26 qs27 o28 nd29 => ?_) (fun e8 h9 Z10 H11 ps12 cls13 d14 st15 o16 x17 => ?_)⟩
    have hS := lg20 (b := r7.1) (c := r7.2) st24 o25 o28 nd29; dsimp only [List.set] at hS
    obtain ⟨p30, er_⟩ := hS.ref 0 rfl
    subst er_
    obtain ⟨Z31, s32, hS⟩ := hS.tell 0 rfl; dsimp only [List.set] at hS
    have hm := hK5 _ hm
    have hS := hS.drop
    refine ⟨_, rfl, ?_⟩
    have hS : (Sep K Z0 (delL H0 ps_law_desk) _ _ [⟨sh_Desk, (.ref p_law_desk), r7.1⟩]) := hS.pick [0] (by decide) rfl
    obtain ⟨ps_, o_⟩ := hS.nth 0 rfl; exact hW _ hm _ _ _ hS.st o_
    have hm := hF6 e8 h9
    have hS := (lg20 (b := a_law_desk) (c := ()) (T := Sh.told) (w := V.non) (qs := []) st15 o16 (OwnO.ofR rfl) (fun _ _ h_ => nomatch h_)).drop; dsimp only [List.set] at hS
    clear h9
    cases e8 with
    | NoTray  => 
      dsimp only at hm
      obtain ⟨rfl, rfl⟩ := x17
      refine ⟨true, T.em_NoTray_NoTray, (fun _ ax33 na34 => ?_), (fun q => nomatch q)⟩
      refine ⟨_, rfl, ⟨trivial, (fun _ hp_ => ⟨_, _, rfl, hS.zh, hp_, (Good.bnd hm).imp (fun r35 hm => fun Z36 H37 st38 => ?_) hWE⟩)⟩⟩
      have hS := hS.step st38
      refine (tgt1 ?_)
      refine ⟨_, rfl, ?_⟩
      have hS : (Sep K Z0 (delL H0 ps_law_desk) _ _ [⟨sh_Desk, (.ref p_law_desk), a_law_desk⟩]) := hS.pick [0] (by decide) rfl
      obtain ⟨ps_, o_⟩ := hS.nth 0 rfl; exact hW _ hm _ _ _ hS.st o_
    | _ => exact hm.elim
theorem ok_law_no_tray {f : Addr} {fd : FuncData} (F : Fun K "_law_no_tray" "_law_no_tray" (topS 137) f fd) (gm : mg "_law_no_tray" = some (.ref f)) (T : Txt K mg ca cb) (C_law_kinds_NoTray : CalE P w K mg base "_law_kinds" 1 ["_law_e"] (sp_law_kinds_NoTray K ca)) (C_Desk_say : MetX P w K mg base (L2.CX P w) 4 cb.Desk "say" ["self", "row"] (sp_Desk_say K ca)) : Cal P w K mg base CX0 "_law_no_tray" 5 ["_law_desk", "_law_row"] (sp_law_no_tray K ca) :=
  ⟨⟨f, fd, okf_law_no_tray F T C_law_kinds_NoTray C_Desk_say, gm, F.kp, F.binds (ps := ["_law_desk", "_law_row"]) fun _ _ _ _ _ _ us hl => match us, hl with | [_, _], _ => rfl⟩⟩
theorem sc_law_shown : FnScope ["_law_desk", "_law_trays", "_law_name", "_law_held", "_law_found", "_law_text_here"] ["_law_desk", "_law_trays", "_law_name", "_law_held"] (defScope (topS 138)) := ⟨rfl, rfl, rfl, by decide +kernel, rfl, by decide +kernel, by decide +kernel⟩
theorem okf_law_shown {f : Addr} {fd : FuncData} (F : Fun K "_law_shown" "_law_shown" (topS 138) f fd) (T : Txt K mg ca cb) (C_Desk_say : MetX P w K mg base (L2.CX P w) 4 cb.Desk "say" ["self", "row"] (sp_Desk_say K ca)) (C_law_no_tray : Cal P w K mg base CX0 "_law_no_tray" 5 ["_law_desk", "_law_row"] (sp_law_no_tray K ca)) : FnOk P w K mg base CX0 6 f fd ["_law_desk", "_law_trays", "_law_name", "_law_held"] (sp_law_shown K ca) := by
  refine F.ok sc_law_shown (fun vs H0 Q E h => ?_) (fun cdv A outer s H0 vs Q E hr h => ?_)
  · obtain ⟨Z0, a_law_desk, v_law_desk, a_law_trays, v_law_trays, a_law_name, a_law_held, v_law_held, ps_LL, rfl, _⟩ := h
    rfl
  · obtain ⟨Z0, a_law_desk, v_law_desk, a_law_trays, v_law_trays, a_law_name, a_law_held, v_law_held, ps_LL, rfl, zh, h_LL, hnd_LL, hnz_LL, hm⟩ := h
    have nd := sc_law_shown.nd
    have hm_ := hm.opn; clear hm; obtain ⟨W, WE, hm, hW, hWE⟩ := hm_
    have hS := Sep.lent zh h_LL hnd_LL hnz_LL
    have hS : (Sep K Z0 (delL H0 ps_LL) _ _ (⟨(Sh.two sh_Desk (Sh.dc Str (List Str)) v_law_desk v_law_trays), .non, (a_law_desk, a_law_trays)⟩ :: ⟨(Sh.lt ((List Str) × (List Str))), v_law_held, a_law_held⟩ :: _)) := Sep.split2P hS (fun rs_ ⟨ps_, qs_, e_, r1_, r2_⟩ => ⟨ps_, qs_, e_ ▸ List.Perm.refl _, r1_, r2_⟩)
    have hS : (Sep K Z0 (delL H0 ps_LL) _ _ (⟨sh_Desk, v_law_desk, a_law_desk⟩ :: ⟨(Sh.dc Str (List Str)), v_law_trays, a_law_trays⟩ :: _)) := Sep.split2P hS (fun rs_ ⟨ps_, qs_, e_, r1_, r2_⟩ => ⟨ps_, qs_, e_ ▸ List.Perm.refl _, r1_, r2_⟩)
    obtain ⟨p_law_desk, er_⟩ := hS.ref 0 rfl; subst er_
    obtain ⟨p_law_trays, er_⟩ := hS.ref 1 rfl; subst er_
    obtain ⟨p_law_held, er_⟩ := hS.ref 2 rfl; subst er_
    unfold m_law_shown at hm
    refine ⟨_, (pss_cons (ps_if (pt_cmp (pc_dninQ (hu_of hr) (pv 2) (pv 1))) (pss_one (ps_ret (pe_cal C_law_no_tray (hr.mono (by decide)) pass0 (pa_cons (pv 0) (pa_cons (pe_op op_add_str (pcK pe_str) (pv 2)) pnK))))) pss_nil) (pss_cons (ps_set (i := 4) nd rfl (Or.inl rfl) (pe_mtX C_Desk_say (hr.mono (by decide)) passN (pv 0) (pa_cons (pe_op op_add_str (pcK pe_str) (pv 2)) pnK))) (pss_cons (ps_if (ptK (PW.pt (pw_or (pt_not (pt_val (pe_callB call_isi (by rfl) T.b_isinstance (by decide +kernel) (pa_cons (pv 4) (pa_cons (pcK (pe_bltn (v := .ty "list") (by rfl) T.b_list (by decide +kernel) rfl)) pnK))))) (pw_or1 (pt_cmpR (op_neCK (K := K) rfl hr.units) (pv 4) (pe_dgetQ (hu_of hr) (pv 1) (pv 2) (fun _ _ => rfl)) (nomark _)))))) (pss_one (ps_ret (pcK pe_bl))) pss_nil) (pss_cons (ps_for PassesOwn.never rfl (pi_list (pv 4)) (pg_name (i := 5) nd rfl (Or.inl rfl)) (pss_one (ps_if (pt_not (pt_val (pe_callB call_isi (by rfl) T.b_isinstance (by decide +kernel) (pa_cons (pv 5) (pa_cons (pcK (pe_bltn (v := .ty "str") (by rfl) T.b_str (by decide +kernel) rfl)) pnK))))) pss_never pss_nil))) (pss_cons (ps_expr (pe_bm PySem.F.plainAttrs_list PySem.F.slot_list_append PySem.F.type_list_append mt_append (pv 4) (pa_cons (pe_op op_mul_str (pcK pe_str) (pcK pe_int)) pnK))) (pss_cons (ps_expr (pe_bm PySem.F.plainAttrs_list PySem.F.slot_list_append PySem.F.type_list_append mt_append (pv 3) (pa_cons (pe_tupQ (pa_cons (pv 4) (pa_cons (pe_callTy (call_listK (K := K) rfl) (by rfl) T.b_list (by decide +kernel) (pa_cons (pv 4) pnK)) pnK))) pnK))) (pss_one (ps_ret (pcK pe_bl))))))))), ?_⟩
    refine ⟨_, rfl, ⟨_, rfl, (k_dnin (RD.own (hS.D 1 rfl)) ⟨_, rfl, (ite2 (fun e1 => ?_) (fun e2 => ?_))⟩)⟩⟩
    · skip
      have hm := Good.ifT e1 hm
      obtain ⟨g3, hm⟩ := Good.chk hm
      refine ⟨_, rfl, ⟨trivial, ⟨_, rfl, ⟨_, _, rfl, rfl, g3, ⟨trivial, ?_⟩⟩⟩⟩⟩
      have hS : (Sep K Z0 (delL H0 ps_LL) _ _ [⟨sh_Desk, (.ref p_law_desk), a_law_desk⟩, ⟨(Sh.dc Str (List Str)), (.ref p_law_trays), a_law_trays⟩, ⟨(Sh.lt ((List Str) × (List Str))), (.ref p_law_held), a_law_held⟩]) := hS.pick [0, 1, 2] (by decide) rfl
      obtain ⟨ps5, h6, lg7⟩ := hS.lend 0 rfl
      refine ⟨_, _, _, _, _, rfl, hS.zh, h6.1, h6.2.1, h6.2.2, (Good.bnd hm).imp (fun r4 hm Z8 H9 ps10 st11 o12 => ?_) hWE⟩
      have hS := lg7 (b := r4.1) st11 o12; dsimp only [List.set] at hS
      have hS : (Sep K Z0 (delL H0 ps_LL) _ _ [⟨sh_Desk, (.ref p_law_desk), r4.1⟩, ⟨(Sh.dc Str (List Str)), (.ref p_law_trays), a_law_trays⟩, ⟨(Sh.lt ((List Str) × (List Str))), (.ref p_law_held), a_law_held⟩]) := hS
      have hS : (Sep K Z0 (delL H0 ps_LL) _ _ [⟨sh_Desk, (.ref p_law_desk), r4.1⟩, ⟨(Sh.dc Str (List Str)), (.ref p_law_trays), a_law_trays⟩, ⟨(Sh.lt ((List Str) × (List Str))), (.ref p_law_held), a_law_held⟩]) := hS.pick [0, 1, 2] (by decide) rfl
      have hS := Sep.join2P (S3 := Sh.two sh_Desk (Sh.dc Str (List Str)) (.ref p_law_desk) (.ref p_law_trays)) (v3 := .non) (a3 := (r4.1, a_law_trays)) hS (fun ps_ qs_ r1_ r2_ => ⟨ps_ ++ qs_, List.Perm.refl _, ps_, qs_, rfl, r1_, r2_⟩)
      have hS := Sep.join2P (S3 := Sh.two (Sh.two sh_Desk (Sh.dc Str (List Str)) (.ref p_law_desk) (.ref p_law_trays)) (Sh.lt ((List Str) × (List Str))) .non (.ref p_law_held)) (v3 := .non) (a3 := ((r4.1, a_law_trays), a_law_held)) hS (fun ps_ qs_ r1_ r2_ => ⟨ps_ ++ qs_, List.Perm.refl _, ps_, qs_, rfl, r1_, r2_⟩)
      obtain ⟨ps_, o_⟩ := hS.nth 0 rfl; exact hW _ hm _ _ _ hS.st o_
    · skip
      have hm := Good.ifF e2 hm
      obtain ⟨g13, hm⟩ := Good.chk hm
      refine ⟨_, rfl, (hS.mth 0 rfl T.nk_Desk (by decide) ⟨trivial, ⟨_, rfl, ⟨_, _, rfl, rfl, g13, ⟨trivial, ?_⟩⟩⟩⟩)⟩
      obtain ⟨ps15, h16, lg17⟩ := hS.lendO 0 rfl
      refine ⟨_, _, _, _, _, rfl, hS.zh, h16.1, h16.2.1, h16.2.2, (Good.nx (Good.bnd hm)).imp (fun r14 hm Z18 H19 ps20 st21 o22 v23 qs24 o25 nd26 => ?_) (fun _ h_ => False.elim h_)⟩
      have hS := lg17 (b := r14.1) (c := r14.2) st21 o22 o25 nd26; dsimp only [List.set] at hS
      obtain ⟨p27, er_⟩ := hS.ref 0 rfl
      subst er_
      refine (tgt1 ?_)
      obtain ⟨g28, hm⟩ := Good.chk hm
      refine ⟨trivial, (ansOr (fun _ q => ⟨_, rfl, ⟨trivial, ⟨trivial, (k_isi (b := true) (Pt.own (hS.L 0 rfl)) (by decide +kernel) ⟨_, rfl, q⟩)⟩⟩⟩) (fun b32 _ q => ⟨_, rfl, ⟨_, rfl, ⟨_, rfl, (k_dget (RD.own (hS.D 2 rfl)) (g28 b32) (fun y29 hy29 => (k_neL (α := (List Str)) (Rn.ownG hS 0 rfl) (Rn.tel hS.zh hy29) (Nat.le_of_ble_eq_true rfl) ⟨_, rfl, q⟩)))⟩⟩⟩) (ite2 (fun e30 => ?_) (fun e31 => ?_)))⟩
      · skip
        have hm := Good.ifT e30 hm
        refine ⟨trivial, ?_⟩
        have hS : (Sep K Z0 (delL H0 ps_LL) _ _ [⟨sh_Desk, (.ref p_law_desk), r14.1⟩, ⟨(Sh.dc Str (List Str)), (.ref p_law_trays), a_law_trays⟩, ⟨(Sh.lt ((List Str) × (List Str))), (.ref p_law_held), a_law_held⟩, ⟨(Sh.lt Str), (.ref p27), r14.2⟩]) := hS.pick [1, 2, 3, 0] (by decide) rfl
        have hS := Sep.join2P (S3 := Sh.two sh_Desk (Sh.dc Str (List Str)) (.ref p_law_desk) (.ref p_law_trays)) (v3 := .non) (a3 := (r14.1, a_law_trays)) hS (fun ps_ qs_ r1_ r2_ => ⟨ps_ ++ qs_, List.Perm.refl _, ps_, qs_, rfl, r1_, r2_⟩)
        have hS := Sep.join2P (S3 := Sh.two (Sh.two sh_Desk (Sh.dc Str (List Str)) (.ref p_law_desk) (.ref p_law_trays)) (Sh.lt ((List Str) × (List Str))) .non (.ref p_law_held)) (v3 := .non) (a3 := ((r14.1, a_law_trays), a_law_held)) hS (fun ps_ qs_ r1_ r2_ => ⟨ps_ ++ qs_, List.Perm.refl _, ps_, qs_, rfl, r1_, r2_⟩)
        obtain ⟨ps_, o_⟩ := hS.nth 0 rfl; exact hW _ hm _ _ _ hS.st o_
      · skip
        have hm := Good.ifF e31 hm
        obtain ⟨W34, hm, hWW34⟩ := Good.bndW hm
        refine ⟨_, rfl, ⟨_, rfl, (hS.L 0 rfl).sq, (forKO (Z := Z18) (H0 := (delL H0 ps_LL)) (L := r14.2) (fun rr σr Hr Zr => (∃ (w_law_text_here : Option V), σr = [some (.ref p_law_desk), some (.ref p_law_trays), some (.str a_law_name), some (.ref p_law_held), some (.ref p27), w_law_text_here] ∧ Sep K Z0 (delL H0 ps_LL) Zr Hr [⟨sh_Desk, (.ref p_law_desk), r14.1⟩, ⟨(Sh.dc Str (List Str)), (.ref p_law_trays), a_law_trays⟩, ⟨(Sh.lt ((List Str) × (List Str))), (.ref p_law_held), a_law_held⟩, ⟨(Sh.lt Str), (.ref p27), r14.2⟩] ∧ Same Z18 Zr ∧ (Good (forL (fun (s_ : Unit) (q_ : Str) => m_law_shown_b0 q_) () rr) W34 WE))) ?_ ?_ ?_ ?_)⟩⟩
        · rintro rr σr Hr Zr hk
          obtain ⟨w_law_text_here, rfl, hS, sm33, hm⟩ := hk
          exact ⟨sm33, hS.zh, hS.L 3 rfl⟩
        · exact ⟨Z18, (none), rfl, hS.pick [1, 2, 3, 0] (by decide) rfl, Same.refl _, hm⟩
        · skip
          intro text_here_35 r36 x37 sg38 H39 Z41 mem42 dec43 hp44 y45
          obtain ⟨w_law_text_here, rfl, hS, sm33, hm⟩ := hp44
          obtain ⟨W46, hm, hn47, hb48, hr49⟩ := Good.forL hm
          have hm : Good (m_law_shown_b0 text_here_35) _ _ := hm; unfold m_law_shown_b0 at hm
          have y45 := (⟨rfl, y45⟩ : (H39 : Hp) = H39 ∧ _)
          obtain ⟨_, y45⟩ := y45; obtain rfl : x37 = (.str text_here_35) := y45
          refine (tgt1 ?_)
          refine ⟨_, rfl, ⟨trivial, ⟨trivial, (k_isi (b := true) (Pt.str _) (by decide +kernel) ⟨_, rfl, (iteF ?_)⟩)⟩⟩⟩
          have hm := hn47 _ hm
          exact ⟨_, (some (.str text_here_35)), rfl, hS.pick [0, 1, 2, 3] (by decide) rfl, sm33, hm⟩
        · intro sg50 H51 Z52 hp53
          obtain ⟨w_law_text_here, rfl, hS, sm33, hm⟩ := hp53
          have hm := hWW34 _ hm
          obtain ⟨g56, hm⟩ := Good.chk hm
          refine ⟨_, rfl, ⟨tyO (hS.L 3 rfl), ⟨trivial, ⟨trivial, ⟨_, _, rfl, rfl, (by decide), (by decide), (by decide +kernel), ⟨trivial, (k_append (a := (Txt.mul ("7" : Str) (40 : Int))) (hS.L 3 rfl) rfl g56 fun u54 o55 => ?_)⟩⟩⟩⟩⟩⟩
          have hS := hS.mutL 3 rfl o55; dsimp only [List.set] at hS
          obtain ⟨found_57, en58⟩ : ∃ z, z = (r14.2 ++ [(Txt.mul ("7" : Str) (40 : Int))]) := ⟨_, rfl⟩
          rw [← en58] at hS
          have hm := Good.vl en58 hm
          obtain ⟨Z59, s60, hS⟩ := hS.tell 3 rfl; dsimp only [List.set] at hS
          refine ⟨_, rfl, ⟨tyO (hS.L 2 rfl), ⟨_, rfl, ⟨_, rfl, ⟨trivial, (k_listQ hS.zh (hS.fact 3 rfl) (New.tel fun v64 Z61 H62 st63 hv64 => ?_))⟩⟩⟩⟩⟩
          have hS := (hS.step st63).tel (a := found_57) hv64
          refine ⟨trivial, (k_tup (K := K) (a := found_57) (b := found_57) hS.zh (hS.fact 4 rfl) (hS.fact 0 rfl) (fun v68 Z65 H66 st67 hv68 => ?_))⟩
          have hS := (hS.step st67).tel (a := (found_57, found_57)) hv68
          obtain ⟨g71, hm⟩ := Good.chk hm
          refine ⟨trivial, (k_append (a := (found_57, found_57)) (hS.L 4 rfl) (hS.fact 0 rfl) g71 fun u69 o70 => ?_)⟩
          have hS := hS.mutL 4 rfl o70; dsimp only [List.set] at hS
          obtain ⟨held_72, en73⟩ : ∃ z, z = (a_law_held ++ [(found_57, found_57)]) := ⟨_, rfl⟩
          rw [← en73] at hS
          have hm := Good.vl en73 hm
          have hS := hS.drop
          have hS := hS.drop
          refine ⟨trivial, ?_⟩
          have hS : (Sep K Z0 (delL H0 ps_LL) _ _ [⟨sh_Desk, (.ref p_law_desk), r14.1⟩, ⟨(Sh.dc Str (List Str)), (.ref p_law_trays), a_law_trays⟩, ⟨(Sh.lt ((List Str) × (List Str))), (.ref p_law_held), held_72⟩, ⟨(Sh.told (α := (List Str))), (.ref p27), found_57⟩]) := hS.pick [0, 1, 2, 3] (by decide) rfl
          have hS := Sep.join2P (S3 := Sh.two sh_Desk (Sh.dc Str (List Str)) (.ref p_law_desk) (.ref p_law_trays)) (v3 := .non) (a3 := (r14.1, a_law_trays)) hS (fun ps_ qs_ r1_ r2_ => ⟨ps_ ++ qs_, List.Perm.refl _, ps_, qs_, rfl, r1_, r2_⟩)
          have hS := Sep.join2P (S3 := Sh.two (Sh.two sh_Desk (Sh.dc Str (List Str)) (.ref p_law_desk) (.ref p_law_trays)) (Sh.lt ((List Str) × (List Str))) .non (.ref p_law_held)) (v3 := .non) (a3 := ((r14.1, a_law_trays), held_72)) hS (fun ps_ qs_ r1_ r2_ => ⟨ps_ ++ qs_, List.Perm.refl _, ps_, qs_, rfl, r1_, r2_⟩)
          obtain ⟨ps_, o_⟩ := hS.nth 0 rfl; exact hW _ hm _ _ _ hS.st o_
theorem ok_law_shown {f : Addr} {fd : FuncData} (F : Fun K "_law_shown" "_law_shown" (topS 138) f fd) (gm : mg "_law_shown" = some (.ref f)) (T : Txt K mg ca cb) (C_Desk_say : MetX P w K mg base (L2.CX P w) 4 cb.Desk "say" ["self", "row"] (sp_Desk_say K ca)) (C_law_no_tray : Cal P w K mg base CX0 "_law_no_tray" 5 ["_law_desk", "_law_row"] (sp_law_no_tray K ca)) : Cal P w K mg base CX0 "_law_shown" 6 ["_law_desk", "_law_trays", "_law_name", "_law_held"] (sp_law_shown K ca) :=
  ⟨⟨f, fd, okf_law_shown F T C_Desk_say C_law_no_tray, gm, F.kp, F.binds (ps := ["_law_desk", "_law_trays", "_law_name", "_law_held"]) fun _ _ _ _ _ _ us hl => match us, hl with | [_, _, _, _], _ => rfl⟩⟩
theorem sc_law_said : FnScope ["_law_desk", "_law_trays", "_law_names_here", "_law_cell", "_law_held", "_law_name", "_law_many", "_law_deck", "_law_words", "_law_k", "_law_text_here"] ["_law_desk", "_law_trays", "_law_names_here", "_law_cell", "_law_held"] (defScope (topS 139)) := ⟨rfl, rfl, rfl, by decide +kernel, rfl, by decide +kernel, by decide +kernel⟩
theorem okf_law_said {f : Addr} {fd : FuncData} (F : Fun K "_law_said" "_law_said" (topS 139) f fd) (T : Txt K mg ca cb) (C_law_card : Cal P w K mg base CX0 "_law_card" 2 ["_law_cell"] (sp_law_card K ca)) (C_law_word : Cal P w K mg base CX0 "_law_word" 1 ["_law_text_here", "_law_whole"] (sp_law_word K ca)) (C_Desk_say : MetX P w K mg base (L2.CX P w) 4 cb.Desk "say" ["self", "row"] (sp_Desk_say K ca)) (C_law_no_tray : Cal P w K mg base CX0 "_law_no_tray" 5 ["_law_desk", "_law_row"] (sp_law_no_tray K ca)) (C_law_shown : Cal P w K mg base CX0 "_law_shown" 6 ["_law_desk", "_law_trays", "_law_name", "_law_held"] (sp_law_shown K ca)) : FnOk P w K mg base CX0 7 f fd ["_law_desk", "_law_trays", "_law_names_here", "_law_cell", "_law_held"] (sp_law_said K ca) := by
  refine F.ok sc_law_said (fun vs H0 Q E h => ?_) (fun cdv A outer s H0 vs Q E hr h => ?_)
  · obtain ⟨Z0, a_law_desk, v_law_desk, a_law_trays, v_law_trays, a_law_names_here, v_law_names_here, a_law_cell, a_law_held, v_law_held, ps_LL, rfl, _⟩ := h
    rfl
  · obtain ⟨Z0, a_law_desk, v_law_desk, a_law_trays, v_law_trays, a_law_names_here, v_law_names_here, a_law_cell, a_law_held, v_law_held, ps_LL, rfl, zh, h_law_names_here, h_LL, hnd_LL, hnz_LL, hm⟩ := h
    have nd := sc_law_said.nd
    have hm_ := hm.opn; clear hm; obtain ⟨W, WE, hm, hW, hWE⟩ := hm_
    have hS := Sep.lent zh h_LL hnd_LL hnz_LL
    have hS : (Sep K Z0 (delL H0 ps_LL) _ _ (⟨(Sh.two sh_Desk (Sh.dc Str (List Str)) v_law_desk v_law_trays), .non, (a_law_desk, a_law_trays)⟩ :: ⟨(Sh.lt ((List Str) × (List Str))), v_law_held, a_law_held⟩ :: _)) := Sep.split2P hS (fun rs_ ⟨ps_, qs_, e_, r1_, r2_⟩ => ⟨ps_, qs_, e_ ▸ List.Perm.refl _, r1_, r2_⟩)
    have hS : (Sep K Z0 (delL H0 ps_LL) _ _ (⟨sh_Desk, v_law_desk, a_law_desk⟩ :: ⟨(Sh.dc Str (List Str)), v_law_trays, a_law_trays⟩ :: _)) := Sep.split2P hS (fun rs_ ⟨ps_, qs_, e_, r1_, r2_⟩ => ⟨ps_, qs_, e_ ▸ List.Perm.refl _, r1_, r2_⟩)
    obtain ⟨p_law_desk, er_⟩ := hS.ref 0 rfl; subst er_
    obtain ⟨p_law_trays, er_⟩ := hS.ref 1 rfl; subst er_
    obtain ⟨p_law_held, er_⟩ := hS.ref 2 rfl; subst er_
    have hS := hS.tel h_law_names_here
    unfold m_law_said at hm
    refine ⟨_, (pss_cons (ps_set (i := 5) nd rfl (Or.inl rfl) (pe_ix (ix_listK (K := K) rfl) (pv 2) (pe_op op_mod (pe_op op_fdiv (pv 3) (pcK pe_int)) (pcK pe_int)) (fun _ _ => rfl))) (pss_cons (ps_if (pt_cmpR op_eq (pe_op op_mod (pv 3) (pcK pe_int)) (pcK pe_int) (nomark _)) (pss_one (ps_ret (pe_cal C_law_shown (hr.mono (by decide)) pass0 (pa_cons (pv 0) (pa_cons (pv 1) (pa_cons (pv 5) (pa_cons (pv 4) pnK))))))) pss_nil) (pss_cons (ps_if (ptK (PW.pt (pw_and (pt_cmpR op_eq (pe_op op_mod (pv 3) (pcK pe_int)) (pcK pe_int) (nomark _)) (pw_and1 (pt_cmp (pc_dninQ (hu_of hr) (pv 5) (pv 1))))))) (pss_one (ps_ret (pe_cal C_law_no_tray (hr.mono (by decide)) pass0 (pa_cons (pv 0) (pa_cons (pe_op op_add_str (pcK pe_str) (pv 5)) pnK))))) pss_nil) (pss_cons (ps_if (pt_cmpR op_eq (pe_op op_mod (pv 3) (pcK pe_int)) (pcK pe_int) (nomark _)) (pss_cons (ps_expr (pe_dpopQ (pv 1) (pv 5) ⟨rfl, rfl, rfl, rfl⟩)) (pss_one (ps_ret (pe_cmpR (op_eqCK (K := K) rfl hr.units) (pe_mtX C_Desk_say (hr.mono (by decide)) passN (pv 0) (pa_cons (pe_op op_add_str (pcK pe_str) (pv 5)) pnK)) (pe_lstQ pnK) (nomark _))))) pss_nil) (pss_cons (ps_set (i := 6) nd rfl (Or.inl rfl) (pe_op op_mod (pe_op op_fdiv (pv 3) (pcK pe_int)) (pcK pe_int))) (pss_cons (ps_setLcQ (i := 7) (own := [("_law_k", 9)]) (g := (gName 9)) rfl nd rfl rfl (sw_true rfl rfl rfl (by decide +kernel)) (pi_range1 rfl T.b_range (pa_cons (pv 6) pnK)) (blkOk_by (N := ["_law_desk", "_law_trays", "_law_names_here", "_law_cell", "_law_held", "_law_name", "_law_many", "_law_deck", "_law_words", "_law_k", "_law_text_here"]) (sc := defScope (topS 139)) (own := [("_law_k", 9)]) (by decide +kernel)) (by intro _ _ _ _ _; exact pg_name (i := 9) nd rfl (Or.inl rfl)) (by intro _ _ _ _ _; exact pts_nil) (by intro _ _ _ _ _; exact (pe_cal C_law_card (hr.mono (by decide)) pass0 (pa_cons (pe_op op_add (pe_op op_fdiv (pv 3) (pcK pe_int)) (pe_op op_mulC (pv 9) (pe_op op_add (pv 9) (pcK pe_int)))) pnK)))) (pss_cons (ps_setLcQ (i := 8) (own := [("_law_text_here", 10)]) (g := (gName 10)) rfl nd rfl rfl (sw_true rfl rfl rfl (by decide +kernel)) (pi_list (pv 7)) (blkOk_by (N := ["_law_desk", "_law_trays", "_law_names_here", "_law_cell", "_law_held", "_law_name", "_law_many", "_law_deck", "_law_words", "_law_k", "_law_text_here"]) (sc := defScope (topS 139)) (own := [("_law_text_here", 10)]) (by decide +kernel)) (by intro _ _ _ _ _; exact pg_name (i := 10) nd rfl (Or.inl rfl)) (by intro _ _ _ _ _; exact pts_nil) (by intro _ _ _ _ _; exact (pe_cal C_law_word (hr.mono (by decide)) pass0 (pa_cons (pv 10) (pa_cons (pe_cmpR op_eq (pe_op op_mod (pe_op op_add (pe_op op_fdiv (pv 3) (pcK pe_int)) (pe_callB call_len_str (by rfl) T.b_len PySem.boot_len (pa_cons (pe_bm0K (K := K) rfl PySem.F.plainAttrs_str PySem.F.slot_str_rstrip PySem.F.type_str_rstrip mt_rstrip (pv 10)) pnK))) (pcK pe_int)) (pcK pe_int) (nomark _)) pnK))))) (pss_cons (ps_dputQ (hu_of hr) (pv 1) (pv 5) (pv 7) rfl) (pss_one (ps_ret (pe_cmpR (op_eqCK (K := K) rfl hr.units) (pe_mtX C_Desk_say (hr.mono (by decide)) passN (pv 0) (pa_cons (pe_bmK (K := K) rfl PySem.F.plainAttrs_str PySem.F.slot_str_join PySem.F.type_str_join (mt_joinK (K := K) rfl) (pcK pe_str) (pa_cons (pe_op op_cat (pe_lstQ (pa_cons (pcK pe_str) (pa_cons (pv 5) pnK))) (pv 8)) pnK)) pnK)) (pe_lstQ pnK) (nomark _)))))))))))), ?_⟩
    obtain ⟨g1, hm⟩ := Good.chk hm
    refine ⟨_, rfl, ⟨_, rfl, ⟨trivial, ⟨_, _, rfl, rfl, ⟨by decide, by decide⟩, ⟨trivial, ⟨_, _, rfl, rfl, (show (0 : Int) < (4 : Int) from (by decide)), (k_ixLs hS.zh (hS.fact 0 rfl) g1 (storeS fun name_2 en3 => ?_))⟩⟩⟩⟩⟩⟩
    have hm := Good.vl en3 hm
    refine ⟨_, rfl, ⟨trivial, ⟨_, _, rfl, rfl, (show (0 : Int) < (4 : Int) from (by decide)), ⟨trivial, (k_eqI ⟨_, rfl, (ite2 (fun e4 => ?_) (fun e5 => ?_))⟩)⟩⟩⟩⟩
    · skip
      have hm := Good.ifT e4 hm
      refine ⟨_, rfl, ⟨_, rfl, ⟨_, rfl, ⟨_, rfl, ⟨trivial, ?_⟩⟩⟩⟩⟩
      have hS : (Sep K Z0 (delL H0 ps_LL) _ _ [⟨sh_Desk, (.ref p_law_desk), a_law_desk⟩, ⟨(Sh.dc Str (List Str)), (.ref p_law_trays), a_law_trays⟩, ⟨(Sh.lt ((List Str) × (List Str))), (.ref p_law_held), a_law_held⟩, ⟨(Sh.told (α := (List Str))), v_law_names_here, a_law_names_here⟩]) := hS.pick [1, 2, 3, 0] (by decide) rfl
      have hS := Sep.join2P (S3 := Sh.two sh_Desk (Sh.dc Str (List Str)) (.ref p_law_desk) (.ref p_law_trays)) (v3 := .non) (a3 := (a_law_desk, a_law_trays)) hS (fun ps_ qs_ r1_ r2_ => ⟨ps_ ++ qs_, List.Perm.refl _, ps_, qs_, rfl, r1_, r2_⟩)
      have hS := Sep.join2P (S3 := Sh.two (Sh.two sh_Desk (Sh.dc Str (List Str)) (.ref p_law_desk) (.ref p_law_trays)) (Sh.lt ((List Str) × (List Str))) .non (.ref p_law_held)) (v3 := .non) (a3 := ((a_law_desk, a_law_trays), a_law_held)) hS (fun ps_ qs_ r1_ r2_ => ⟨ps_ ++ qs_, List.Perm.refl _, ps_, qs_, rfl, r1_, r2_⟩)
      obtain ⟨ps7, h8, lg9⟩ := hS.lend 0 rfl
      refine ⟨_, _, _, _, _, _, _, _, _, rfl, hS.zh, h8.1, h8.2.1, h8.2.2, (Good.bnd hm).imp (fun r6 hm Z10 H11 ps12 st13 o14 => ?_) hWE⟩
      have hS := lg9 (b := r6.1) st13 o14; dsimp only [List.set] at hS
      have hS : (Sep K Z0 (delL H0 ps_LL) _ _ (⟨(Sh.two sh_Desk (Sh.dc Str (List Str)) (.ref p_law_desk) (.ref p_law_trays)), .non, (r6.1.1.1, r6.1.1.2)⟩ :: ⟨(Sh.lt ((List Str) × (List Str))), (.ref p_law_held), r6.1.2⟩ :: _)) := Sep.split2P hS (fun rs_ ⟨ps_, qs_, e_, r1_, r2_⟩ => ⟨ps_, qs_, e_ ▸ List.Perm.refl _, r1_, r2_⟩)
      have hS : (Sep K Z0 (delL H0 ps_LL) _ _ (⟨sh_Desk, (.ref p_law_desk), r6.1.1.1⟩ :: ⟨(Sh.dc Str (List Str)), (.ref p_law_trays), r6.1.1.2⟩ :: _)) := Sep.split2P hS (fun rs_ ⟨ps_, qs_, e_, r1_, r2_⟩ => ⟨ps_, qs_, e_ ▸ List.Perm.refl _, r1_, r2_⟩)
      have hS : (Sep K Z0 (delL H0 ps_LL) _ _ [⟨sh_Desk, (.ref p_law_desk), r6.1.1.1⟩, ⟨(Sh.dc Str (List Str)), (.ref p_law_trays), r6.1.1.2⟩, ⟨(Sh.lt ((List Str) × (List Str))), (.ref p_law_held), r6.1.2⟩, ⟨(Sh.told (α := (List Str))), v_law_names_here, a_law_names_here⟩]) := hS
      have hS : (Sep K Z0 (delL H0 ps_LL) _ _ [⟨sh_Desk, (.ref p_law_desk), r6.1.1.1⟩, ⟨(Sh.dc Str (List Str)), (.ref p_law_trays), r6.1.1.2⟩, ⟨(Sh.lt ((List Str) × (List Str))), (.ref p_law_held), r6.1.2⟩, ⟨(Sh.told (α := (List Str))), v_law_names_here, a_law_names_here⟩]) := hS.pick [0, 1, 2, 3] (by decide) rfl
      have hS := Sep.join2P (S3 := Sh.two sh_Desk (Sh.dc Str (List Str)) (.ref p_law_desk) (.ref p_law_trays)) (v3 := .non) (a3 := (r6.1.1.1, r6.1.1.2)) hS (fun ps_ qs_ r1_ r2_ => ⟨ps_ ++ qs_, List.Perm.refl _, ps_, qs_, rfl, r1_, r2_⟩)
      have hS := Sep.join2P (S3 := Sh.two (Sh.two sh_Desk (Sh.dc Str (List Str)) (.ref p_law_desk) (.ref p_law_trays)) (Sh.lt ((List Str) × (List Str))) .non (.ref p_law_held)) (v3 := .non) (a3 := ((r6.1.1.1, r6.1.1.2), r6.1.2)) hS (fun ps_ qs_ r1_ r2_ => ⟨ps_ ++ qs_, List.Perm.refl _, ps_, qs_, rfl, r1_, r2_⟩)
      obtain ⟨ps_, o_⟩ := hS.nth 0 rfl; exact hW _ hm _ _ _ hS.st o_
    · skip
      have hm := Good.ifF e5 hm
      refine ⟨trivial, (ansAnd (fun _ q => ⟨_, rfl, ⟨trivial, ⟨_, _, rfl, rfl, (show (0 : Int) < (4 : Int) from (by decide)), ⟨trivial, (k_eqI ⟨_, rfl, q⟩)⟩⟩⟩⟩) (fun b17 _ q => ⟨_, rfl, ⟨_, rfl, (k_dnin (RD.own (hS.D 2 rfl)) ⟨_, rfl, q⟩)⟩⟩) (ite2 (fun e15 => ?_) (fun e16 => ?_)))⟩
      · skip
        have hm := Good.ifT e15 hm
        obtain ⟨g18, hm⟩ := Good.chk hm
        refine ⟨_, rfl, ⟨trivial, ⟨_, rfl, ⟨_, _, rfl, rfl, g18, ⟨trivial, ?_⟩⟩⟩⟩⟩
        have hS : (Sep K Z0 (delL H0 ps_LL) _ _ [⟨sh_Desk, (.ref p_law_desk), a_law_desk⟩, ⟨(Sh.told (α := (List Str))), v_law_names_here, a_law_names_here⟩, ⟨(Sh.dc Str (List Str)), (.ref p_law_trays), a_law_trays⟩, ⟨(Sh.lt ((List Str) × (List Str))), (.ref p_law_held), a_law_held⟩]) := hS.pick [1, 0, 2, 3] (by decide) rfl
        obtain ⟨ps20, h21, lg22⟩ := hS.lend 0 rfl
        refine ⟨_, _, _, _, _, rfl, hS.zh, h21.1, h21.2.1, h21.2.2, (Good.bnd hm).imp (fun r19 hm Z23 H24 ps25 st26 o27 => ?_) hWE⟩
        have hS := lg22 (b := r19.1) st26 o27; dsimp only [List.set] at hS
        have hS : (Sep K Z0 (delL H0 ps_LL) _ _ [⟨sh_Desk, (.ref p_law_desk), r19.1⟩, ⟨(Sh.told (α := (List Str))), v_law_names_here, a_law_names_here⟩, ⟨(Sh.dc Str (List Str)), (.ref p_law_trays), a_law_trays⟩, ⟨(Sh.lt ((List Str) × (List Str))), (.ref p_law_held), a_law_held⟩]) := hS
        have hS : (Sep K Z0 (delL H0 ps_LL) _ _ [⟨sh_Desk, (.ref p_law_desk), r19.1⟩, ⟨(Sh.dc Str (List Str)), (.ref p_law_trays), a_law_trays⟩, ⟨(Sh.lt ((List Str) × (List Str))), (.ref p_law_held), a_law_held⟩, ⟨(Sh.told (α := (List Str))), v_law_names_here, a_law_names_here⟩]) := hS.pick [0, 2, 3, 1] (by decide) rfl
        have hS := Sep.join2P (S3 := Sh.two sh_Desk (Sh.dc Str (List Str)) (.ref p_law_desk) (.ref p_law_trays)) (v3 := .non) (a3 := (r19.1, a_law_trays)) hS (fun ps_ qs_ r1_ r2_ => ⟨ps_ ++ qs_, List.Perm.refl _, ps_, qs_, rfl, r1_, r2_⟩)
        have hS := Sep.join2P (S3 := Sh.two (Sh.two sh_Desk (Sh.dc Str (List Str)) (.ref p_law_desk) (.ref p_law_trays)) (Sh.lt ((List Str) × (List Str))) .non (.ref p_law_held)) (v3 := .non) (a3 := ((r19.1, a_law_trays), a_law_held)) hS (fun ps_ qs_ r1_ r2_ => ⟨ps_ ++ qs_, List.Perm.refl _, ps_, qs_, rfl, r1_, r2_⟩)
        obtain ⟨ps_, o_⟩ := hS.nth 0 rfl; exact hW _ hm _ _ _ hS.st o_
      · skip
        have hm := Good.ifF e16 hm
        refine ⟨_, rfl, ⟨trivial, ⟨_, _, rfl, rfl, (show (0 : Int) < (4 : Int) from (by decide)), ⟨trivial, (k_eqI ⟨_, rfl, (ite2 (fun e28 => ?_) (fun e29 => ?_))⟩)⟩⟩⟩⟩
        · skip
          have hm := Good.ifT e28 hm
          refine ⟨_, rfl, ⟨_, rfl, tyD (hS.D 2 rfl), ⟨_, rfl, ?_⟩⟩⟩
          obtain ⟨g32, hm⟩ := Good.chk hm
          refine (k_dpop (k0 := name_2) (hS.D 2 rfl) g32 (fun y33 u30 o31 => ?_))
          have hS := hS.mutD 2 rfl o31; dsimp only [List.set] at hS
          obtain ⟨trays_34, en35⟩ : ∃ z, z = (⟨dDrop (a_law_trays).kv name_2⟩ : (Dct Str (List Str))) := ⟨_, rfl⟩
          rw [← en35] at hS
          have hm := Good.vl en35 hm
          obtain ⟨g36, hm⟩ := Good.chk hm
          refine ⟨_, rfl, (hS.mth 1 rfl T.nk_Desk (by decide) ⟨trivial, ⟨_, rfl, ⟨_, _, rfl, rfl, g36, ⟨trivial, ?_⟩⟩⟩⟩)⟩
          obtain ⟨ps38, h39, lg40⟩ := hS.lendO 1 rfl
          refine ⟨_, _, _, _, _, rfl, hS.zh, h39.1, h39.2.1, h39.2.2, (Good.nx (Good.bnd hm)).imp (fun r37 hm Z41 H42 ps43 st44 o45 v46 qs47 o48 nd49 => ?_) (fun _ h_ => False.elim h_)⟩
          have hS := lg40 (b := r37.1) (c := r37.2) st44 o45 o48 nd49; dsimp only [List.set] at hS
          obtain ⟨p50, er_⟩ := hS.ref 0 rfl
          subst er_
          obtain ⟨Z51, s52, hS⟩ := hS.tell 0 rfl; dsimp only [List.set] at hS
          refine ⟨trivial, (k_lst (K := K) (m := ([] : (List Str))) hS.zh .nil (Nat.le_of_ble_eq_true rfl) (New.tel fun v56 Z53 H54 st55 hv56 => ?_))⟩
          have hS := (hS.step st55).tel (a := ([] : (List Str))) hv56
          refine (k_eqL (α := (List Str)) (Rn.tel hS.zh (hS.fact 1 rfl)) (Rn.tel hS.zh (hS.fact 0 rfl)) (Nat.le_of_ble_eq_true rfl) ?_)
          have hS : (Sep K Z0 (delL H0 ps_LL) _ _ [⟨sh_Desk, (.ref p_law_desk), r37.1⟩, ⟨(Sh.dc Str (List Str)), (.ref p_law_trays), trays_34⟩, ⟨(Sh.lt ((List Str) × (List Str))), (.ref p_law_held), a_law_held⟩, ⟨(Sh.told (α := (List Str))), v56, ([] : (List Str))⟩, ⟨(Sh.told (α := (List Str))), (.ref p50), r37.2⟩, ⟨(Sh.told (α := (List Str))), v_law_names_here, a_law_names_here⟩]) := hS.pick [3, 4, 5, 0, 1, 2] (by decide) rfl
          have hS := Sep.join2P (S3 := Sh.two sh_Desk (Sh.dc Str (List Str)) (.ref p_law_desk) (.ref p_law_trays)) (v3 := .non) (a3 := (r37.1, trays_34)) hS (fun ps_ qs_ r1_ r2_ => ⟨ps_ ++ qs_, List.Perm.refl _, ps_, qs_, rfl, r1_, r2_⟩)
          have hS := Sep.join2P (S3 := Sh.two (Sh.two sh_Desk (Sh.dc Str (List Str)) (.ref p_law_desk) (.ref p_law_trays)) (Sh.lt ((List Str) × (List Str))) .non (.ref p_law_held)) (v3 := .non) (a3 := ((r37.1, trays_34), a_law_held)) hS (fun ps_ qs_ r1_ r2_ => ⟨ps_ ++ qs_, List.Perm.refl _, ps_, qs_, rfl, r1_, r2_⟩)
          obtain ⟨ps_, o_⟩ := hS.nth 0 rfl; exact hW _ hm _ _ _ hS.st o_
        · skip
          have hm := Good.ifF e29 hm
          refine ⟨_, rfl, ⟨trivial, ⟨_, _, rfl, rfl, ⟨by decide, by decide⟩, ⟨trivial, ⟨_, _, rfl, rfl, (show (0 : Int) < (4 : Int) from (by decide)), (storeI fun many_57 en58 => ?_)⟩⟩⟩⟩⟩
          have hm := Good.vl en58 hm
          obtain ⟨g59, hm⟩ := Good.chk hm
          obtain ⟨g65, hm⟩ := Good.chk hm
          obtain ⟨W80, hmc, hWW80⟩ := Good.bndW hm
          refine ⟨_, rfl, ⟨trivial, ⟨_, rfl, And.left g59, And.right g59, (lcMK (K := K) (src_range _ _) hS.zh _ g65 (hmc.imp (fun _ h_ => h_) hWE) (fun k_60 x67 Z68 H69 H70 C71 N72 Wo78 mem73 st74 y75 hm79 kC76 kN77 => ?_) (fun r66 wW80 => (New.tel fun v84 Z81 H82 st83 hv84 => ?_)))⟩⟩⟩
          · skip
            have hS := hS.step st74
            have sx_ := Step.refl hS.zh
            have hm := hm79
            have hWE : ∀ e_, NoE e_ → False := fun _ h => h
            obtain ⟨rfl, rfl⟩ := y75
            refine (tgt1 ?_)
            obtain ⟨g63, hm⟩ := Good.chk hm
            refine ⟨rfl, (yesK ⟨_, rfl, ⟨trivial, ⟨_, _, rfl, rfl, ⟨by decide, by decide⟩, ⟨_, rfl, ⟨_, rfl, ⟨trivial, ⟨_, _, rfl, rfl, ⟨_, _, rfl, rfl, g63, ⟨_, _, rfl, rfl, ⟨trivial, ⟨_, _, rfl, hS.zh, (Good.bnd hm).imp (fun r64 hm => fun Z85 H86 st87 => ?_) hWE⟩⟩⟩⟩⟩⟩⟩⟩⟩⟩⟩)⟩
            have sx_ := sx_.trans st87
            have hS := hS.step st87
            refine (kC76 _ hm _ _ _ sx_ rfl)
          have hm := hWW80 _ wW80
          have hS := (hS.step st83).tel (a := r66) hv84
          refine (tgt1 ?_)
          obtain ⟨g94, hm⟩ := Good.chk hm
          obtain ⟨a96, xs97, ev98, hz99, pr100⟩ := pyL (hS.fact 0 rfl)
          obtain ⟨W114, hmc, hWW114⟩ := Good.bndW hm
          refine ⟨_, rfl, ⟨_, ev98, ⟨_, SqL.of (hS.zh _ _ hz99)⟩, (lcMK (K := K) (src_list hz99 pr100) hS.zh _ g94 (hmc.imp (fun _ h_ => h_) hWE) (fun text_here_88 x101 Z102 H103 H104 C105 N106 Wo112 mem107 st108 y109 hm113 kC110 kN111 => ?_) (fun r95 wW114 => (New.tel fun v118 Z115 H116 st117 hv118 => ?_)))⟩⟩
          · skip
            have hS := hS.step st108
            have sx_ := Step.refl hS.zh
            have hm := hm113
            have hWE : ∀ e_, NoE e_ → False := fun _ h => h
            obtain ⟨rfl, rfl⟩ := y109
            refine (tgt1 ?_)
            obtain ⟨g91, hm⟩ := Good.chk hm
            obtain ⟨g92, hm⟩ := Good.chk hm
            refine ⟨rfl, (yesK ⟨_, rfl, ⟨_, rfl, ⟨trivial, ⟨_, _, rfl, rfl, ⟨by decide, by decide⟩, ⟨_, rfl, ⟨rfl, ⟨_, rfl, rfl, g91, ⟨trivial, ⟨_, rfl, g92, ⟨_, _, rfl, rfl, ⟨trivial, ⟨_, _, rfl, rfl, (show (0 : Int) < (2 : Int) from (by decide)), ⟨trivial, (k_eqI ⟨trivial, ⟨_, _, _, rfl, hS.zh, (Good.bnd hm).imp (fun r93 hm => fun Z119 H120 st121 => ?_) hWE⟩⟩)⟩⟩⟩⟩⟩⟩⟩⟩⟩⟩⟩⟩⟩)⟩
            have sx_ := sx_.trans st121
            have hS := hS.step st121
            refine (kC110 _ hm _ _ _ sx_ rfl)
          have hm := hWW114 _ wW114
          have hS := (hS.step st117).tel (a := r95) hv118
          refine (tgt1 ?_)
          obtain ⟨g124, hm⟩ := Good.chk hm
          refine ⟨_, rfl, ⟨_, rfl, ⟨_, rfl, (k_dput (k0 := name_2) (a := r66) (hS.D 4 rfl) (hS.fact 1 rfl) g124 (fun u122 o123 => ?_))⟩⟩⟩
          have hS := hS.mutD 4 rfl o123; dsimp only [List.set] at hS
          obtain ⟨trays_125, en126⟩ : ∃ z, z = (⟨dPut (a_law_trays).kv name_2 r66⟩ : (Dct Str (List Str))) := ⟨_, rfl⟩
          rw [← en126] at hS
          have hm := Good.vl en126 hm
          refine ⟨_, rfl, (hS.mth 3 rfl T.nk_Desk (by decide) ⟨trivial, ⟨rfl, ⟨trivial, ⟨_, rfl, ⟨trivial, (k_lst (K := K) (m := [("deck" : Str), name_2]) hS.zh (.cons rfl (.cons rfl .nil)) (Nat.le_of_ble_eq_true rfl) (New.tel fun v133 Z130 H131 st132 hv133 => ?_))⟩⟩⟩⟩⟩)⟩
          have hS := (hS.step st132).tel (a := [("deck" : Str), name_2]) hv133
          obtain ⟨g127, hm⟩ := Good.chk hm
          refine ⟨_, rfl, (k_catL hS.zh (RO.tell hS.zh (hS.fact 0 rfl)) (RO.tell hS.zh (hS.fact 1 rfl)) g127 (New.tel fun v137 Z134 H135 st136 hv137 => ?_))⟩
          have hS := (hS.step st136).tel (a := ([("deck" : Str), name_2] ++ r95)) hv137
          obtain ⟨g128, hm⟩ := Good.chk hm
          refine ⟨trivial, (k_join hS.zh (hS.fact 0 rfl) g128 ⟨trivial, ?_⟩)⟩
          obtain ⟨ps138, h139, lg140⟩ := hS.lendO 5 rfl
          refine ⟨_, _, _, _, _, rfl, hS.zh, h139.1, h139.2.1, h139.2.2, (Good.nx (Good.bnd hm)).imp (fun r129 hm Z141 H142 ps143 st144 o145 v146 qs147 o148 nd149 => ?_) (fun _ h_ => False.elim h_)⟩
          have hS := lg140 (b := r129.1) (c := r129.2) st144 o145 o148 nd149; dsimp only [List.set] at hS
          obtain ⟨p150, er_⟩ := hS.ref 0 rfl
          subst er_
          obtain ⟨Z151, s152, hS⟩ := hS.tell 0 rfl; dsimp only [List.set] at hS
          refine ⟨trivial, (k_lst (K := K) (m := ([] : (List Str))) hS.zh .nil (Nat.le_of_ble_eq_true rfl) (New.tel fun v156 Z153 H154 st155 hv156 => ?_))⟩
          have hS := (hS.step st155).tel (a := ([] : (List Str))) hv156
          refine (k_eqL (α := (List Str)) (Rn.tel hS.zh (hS.fact 1 rfl)) (Rn.tel hS.zh (hS.fact 0 rfl)) (Nat.le_of_ble_eq_true rfl) ?_)
          have hS : (Sep K Z0 (delL H0 ps_LL) _ _ [⟨sh_Desk, (.ref p_law_desk), r129.1⟩, ⟨(Sh.dc Str (List Str)), (.ref p_law_trays), trays_125⟩, ⟨(Sh.lt ((List Str) × (List Str))), (.ref p_law_held), a_law_held⟩, ⟨(Sh.told (α := (List Str))), v156, ([] : (List Str))⟩, ⟨(Sh.told (α := (List Str))), (.ref p150), r129.2⟩, ⟨(Sh.told (α := (List Str))), v137, ([("deck" : Str), name_2] ++ r95)⟩, ⟨(Sh.told (α := (List Str))), v133, [("deck" : Str), name_2]⟩, ⟨(Sh.told (α := (List Str))), v118, r95⟩, ⟨(Sh.told (α := (List Str))), v84, r66⟩, ⟨(Sh.told (α := (List Str))), v_law_names_here, a_law_names_here⟩]) := hS.pick [7, 8, 9, 0, 1, 2, 3, 4, 5, 6] (by decide) rfl
          have hS := Sep.join2P (S3 := Sh.two sh_Desk (Sh.dc Str (List Str)) (.ref p_law_desk) (.ref p_law_trays)) (v3 := .non) (a3 := (r129.1, trays_125)) hS (fun ps_ qs_ r1_ r2_ => ⟨ps_ ++ qs_, List.Perm.refl _, ps_, qs_, rfl, r1_, r2_⟩)
          have hS := Sep.join2P (S3 := Sh.two (Sh.two sh_Desk (Sh.dc Str (List Str)) (.ref p_law_desk) (.ref p_law_trays)) (Sh.lt ((List Str) × (List Str))) .non (.ref p_law_held)) (v3 := .non) (a3 := ((r129.1, trays_125), a_law_held)) hS (fun ps_ qs_ r1_ r2_ => ⟨ps_ ++ qs_, List.Perm.refl _, ps_, qs_, rfl, r1_, r2_⟩)
          obtain ⟨ps_, o_⟩ := hS.nth 0 rfl; exact hW _ hm _ _ _ hS.st o_
theorem ok_law_said {f : Addr} {fd : FuncData} (F : Fun K "_law_said" "_law_said" (topS 139) f fd) (gm : mg "_law_said" = some (.ref f)) (T : Txt K mg ca cb) (C_law_card : Cal P w K mg base CX0 "_law_card" 2 ["_law_cell"] (sp_law_card K ca)) (C_law_word : Cal P w K mg base CX0 "_law_word" 1 ["_law_text_here", "_law_whole"] (sp_law_word K ca)) (C_Desk_say : MetX P w K mg base (L2.CX P w) 4 cb.Desk "say" ["self", "row"] (sp_Desk_say K ca)) (C_law_no_tray : Cal P w K mg base CX0 "_law_no_tray" 5 ["_law_desk", "_law_row"] (sp_law_no_tray K ca)) (C_law_shown : Cal P w K mg base CX0 "_law_shown" 6 ["_law_desk", "_law_trays", "_law_name", "_law_held"] (sp_law_shown K ca)) : Cal P w K mg base CX0 "_law_said" 7 ["_law_desk", "_law_trays", "_law_names_here", "_law_cell", "_law_held"] (sp_law_said K ca) :=
  ⟨⟨f, fd, okf_law_said F T C_law_card C_law_word C_Desk_say C_law_no_tray C_law_shown, gm, F.kp, F.binds (ps := ["_law_desk", "_law_trays", "_law_names_here", "_law_cell", "_law_held"]) fun _ _ _ _ _ _ us hl => match us, hl with | [_, _, _, _, _], _ => rfl⟩⟩
theorem sc_Desk___init__ : FnScope ["self"] ["self"] (defScope (inClass (topS 129) 0)) := ⟨rfl, rfl, rfl, by decide +kernel, rfl, by decide +kernel, by decide +kernel⟩
theorem okf_Desk___init__ {f : Addr} {fd : FuncData} (F : Fun K "__init__" "Desk.__init__" (inClass (topS 129) 0) f fd) (T : Txt K mg ca cb) : FnOk P w K mg base CX0 1 f fd ["self"] (sp_Desk___init__ K ca) := by
  refine F.ok sc_Desk___init__ (fun vs H0 Q E h => ?_) (fun cdv A outer s H0 vs Q E hr h => ?_)
  · obtain ⟨Z0, p_self, dx_self, rfl, _⟩ := h
    rfl
  · obtain ⟨Z0, p_self, dx_self, rfl, zh, hat_self, hdx_self, hm⟩ := h
    have nd := sc_Desk___init__.nd
    have hm_ := hm.opn; clear hm; obtain ⟨W, WE, hm, hW, hWE⟩ := hm_
    obtain ⟨C_, nk_, hat_self⟩ := hat_self
    have hS := Sep.newH zh nk_ hat_self hdx_self
    unfold m_Desk___init__ at hm
    refine ⟨_, (pss_one (ps_fldK (K := K) rfl (pv 0) (puK pe_dnewQ) rfl)), ?_⟩
    refine ⟨trivial, (k_dnew (K := K) (κ := Str) (α := (List Str)) hS.zh (NewD.ownS fun p6 ps7 Z3 H4 st5 o8 => ?_))⟩
    have hS := hS.own st5 o8
    obtain ⟨self_trays_1, en2⟩ : ∃ z, z = (⟨[]⟩ : (Dct Str (List Str))) := ⟨_, rfl⟩
    have hS := hS.nam 0 rfl en2; dsimp only [List.set] at hS
    have hm := Good.vl en2 hm
    refine ⟨_, rfl, (hS.put (v := (.ref p6)) (ns' := ["trays"]) (vs' := [(.ref p6)]) 1 rfl T.nk_Desk T.cl_Desk T.na_Desk_trays (Nat.le_of_ble_eq_true rfl) (rfl) rfl fun H_ hS => ?_)⟩
    dsimp only [List.set] at hS
    have hS : (Sep K Z0 (delL H0 [p_self, dx_self]) _ _ [⟨(Sh.dc Str (List Str)), (.ref p6), self_trays_1⟩, ⟨(Sh.husk "Desk" ["trays"]), (.ref p_self), [(.ref p6)]⟩]) := hS.pick [0, 1] (by decide) rfl
    have hS := hS.mknil
    have hS := hS.mkr
    have hS : (Sep K Z0 (delL H0 [p_self, dx_self]) _ _ [⟨sh_Desk, (.ref p_self), (⟨self_trays_1⟩ : Desk)⟩]) := Sep.clsO (f := Desk.row) rfl hS
    obtain ⟨ps_, o_⟩ := hS.nth 0 rfl; exact hW _ hm _ _ _ hS.st o_
theorem ok_Desk___init__ {f : Addr} {fd : FuncData} (F : Fun K "__init__" "Desk.__init__" (inClass (topS 129) 0) f fd) (gm : Mk K cb.Desk f) (T : Txt K mg ca cb) : MakX P w K mg base CX0 1 "Desk" cb.Desk ["self"] (sp_Desk___init__ K ca) :=
  ⟨⟨f, fd, gm, okf_Desk___init__ F T, T.gc_Desk, F.binds (ps := ["self"]) fun _ _ _ _ _ _ us hl => match us, hl with | [_], _ => rfl⟩⟩
theorem sc_law : FnScope ["_law_script", "_law_names_here", "_law_desks", "_law_trays", "_law_held", "_law_cell", "_law_who", "_law_k", "_law_found", "_law_was", "_law_name"] ["_law_script"] (defScope (topS 140)) := ⟨rfl, rfl, rfl, by decide +kernel, rfl, by decide +kernel, by decide +kernel⟩
theorem okf_law {f : Addr} {fd : FuncData} (F : Fun K "law" "law" (topS 140) f fd) (T : Txt K mg ca cb) (C_law_cell_at : Cal P w K mg base CX0 "_law_cell_at" 1 ["_law_script", "_law_k"] (sp_law_cell_at K ca)) (C_law_names : Cal P w K mg base CX0 "_law_names" 1 ["_law_cell", "_law_place"] (sp_law_names K ca)) (C_law_shown : Cal P w K mg base CX0 "_law_shown" 6 ["_law_desk", "_law_trays", "_law_name", "_law_held"] (sp_law_shown K ca)) (C_law_said : Cal P w K mg base CX0 "_law_said" 7 ["_law_desk", "_law_trays", "_law_names_here", "_law_cell", "_law_held"] (sp_law_said K ca)) (C_Desk___init__ : MakX P w K mg base CX0 1 "Desk" cb.Desk ["self"] (sp_Desk___init__ K ca)) : FnOk P w K mg base CX0 8 f fd ["_law_script"] (sp_law K) := by
  refine F.ok sc_law (fun vs H0 Q E h => ?_) (fun cdv A outer s H0 vs Q E hr h => ?_)
  · obtain ⟨Z0, a_law_script, v_law_script, rfl, _⟩ := h
    rfl
  · obtain ⟨Z0, a_law_script, v_law_script, rfl, zh, h_law_script, hm⟩ := h
    have nd := sc_law.nd
    have hm_ := hm.opn; clear hm; obtain ⟨W, WE, hm, hW, hWE⟩ := hm_
    have hS := Sep.start (K := K) zh
    have hS := hS.tel h_law_script
    unfold m_law at hm
    refine ⟨_, (pss_cons (ps_set (i := 1) nd rfl (Or.inr rfl) (pe_cal C_law_names (hr.mono (by decide)) pass0 (pa_cons (pe_cal C_law_cell_at (hr.mono (by decide)) pass0 (pa_cons (pv 0) (pa_cons (pcK pe_int) pnK))) (pa_cons (pe_cal C_law_cell_at (hr.mono (by decide)) pass0 (pa_cons (pv 0) (pa_cons (pcK pe_int) pnK))) pnK)))) (pss_cons (ps_set (i := 1) nd rfl (Or.inr rfl) (pe_op op_cat (pe_slice sl_list (pv 1) po_noK (po_some (pcK pe_int))) (pe_lcQ (own := [("_law_name", 10)]) (g := (gName 10)) rfl nd (pi_list (pe_slice sl_list (pv 1) (po_some (pcK pe_int)) po_noK)) (blkOk_by (N := ["_law_script", "_law_names_here", "_law_desks", "_law_trays", "_law_held", "_law_cell", "_law_who", "_law_k", "_law_found", "_law_was", "_law_name"]) (sc := defScope (topS 140)) (own := [("_law_name", 10)]) (by decide +kernel)) (by intro _ _ _ _ _; exact pg_name (i := 10) nd rfl (Or.inl rfl)) (by intro _ _ _ _ _; exact (pts_one (pt_cmpR op_ne (pv 10) (pe_ix (ix_listK (K := K) rfl) (pv 1) (pcK pe_int) (fun _ _ => rfl)) (nomark _)))) (by intro _ _ _ _ _; exact (pv 10))))) (pss_cons (ps_set (i := 1) nd rfl (Or.inr rfl) (pe_slice sl_list (pe_op op_rep (pv 1) (pcK pe_int)) po_noK (po_some (pcK pe_int)))) (pss_cons (ps_set (i := 2) nd rfl (Or.inl rfl) (pe_lstQ (pa_cons (pe_mkX0 C_Desk___init__ (hr.mono (by decide)) pass0) (pa_cons (pe_mkX0 C_Desk___init__ (hr.mono (by decide)) pass0) pnK)))) (pss_cons (ps_set (i := 3) nd rfl (Or.inl rfl) (pe_lstQ (pa_cons (puK pe_dnewQ) (pa_cons (puK pe_dnewQ) pnK)))) (pss_cons (ps_set (i := 4) nd rfl (Or.inl rfl) (pe_lstQ pnK)) (pss_cons (ps_for PassesOwn.never rfl (pi_list (pe_slice sl_list (pv 0) (po_some (pcK pe_int)) (po_some (pcK pe_int)))) (pg_name (i := 5) nd rfl (Or.inl rfl)) (pss_cons (ps_set (i := 6) nd rfl (Or.inl rfl) (pe_op op_fdiv (pe_op op_mod (pe_op op_mod (pe_op op_mulC (pe_op op_mod (pv 5) (pcK pe_int)) (pcK pe_int)) (pcK pe_int)) (pcK pe_int)) (pcK pe_int))) (pss_one (ps_if (ptK (pt_not (pt_val (pe_cal C_law_said (hr.mono (by decide)) pass0 (pa_cons (pe_ix (ix_listK (K := K) rfl) (pv 2) (pv 6) (fun _ _ => rfl)) (pa_cons (pe_ix (ix_listK (K := K) rfl) (pv 3) (pv 6) (fun _ _ => rfl)) (pa_cons (pv 1) (pa_cons (pv 5) (pa_cons (pv 4) pnK))))))))) (pss_one (ps_ret (pcK pe_bl))) pss_nil)))) (pss_cons (ps_for PassesOwn.never rfl (pi_range1 rfl T.b_range (pa_cons (pcK pe_int) pnK)) (pg_name (i := 7) nd rfl (Or.inl rfl)) (pss_one (ps_if (ptK (pt_not (pt_val (pe_cal C_law_shown (hr.mono (by decide)) pass0 (pa_cons (pe_ix (ix_listK (K := K) rfl) (pv 2) (pe_op op_mod (pv 7) (pcK pe_int)) (fun _ _ => rfl)) (pa_cons (pe_ix (ix_listK (K := K) rfl) (pv 3) (pe_op op_mod (pv 7) (pcK pe_int)) (fun _ _ => rfl)) (pa_cons (pe_ix (ix_listK (K := K) rfl) (pv 1) (pe_op op_mod (pe_op op_fdiv (pv 7) (pcK pe_int)) (pcK pe_int)) (fun _ _ => rfl)) (pa_cons (pv 4) pnK)))))))) (pss_one (ps_ret (pcK pe_bl))) pss_nil))) (pss_cons (ps_for PassesOwn.never rfl (pi_list (pv 4)) (pg_tup rfl (pgs_cons (pg_name (i := 8) nd rfl (Or.inl rfl)) (pgs_cons (pg_name (i := 9) nd rfl (Or.inl rfl)) pgs_nil))) (pss_one (ps_if (pt_cmpR (op_neCK (K := K) rfl hr.units) (pv 8) (pv 9) (nomark _)) (pss_one (ps_ret (pcK pe_bl))) pss_nil))) (pss_one (ps_ret (pcK pe_bl)))))))))))), ?_⟩
    refine ⟨_, rfl, ⟨trivial, ⟨trivial, ⟨_, _, _, _, rfl, hS.zh, (hS.fact 0 rfl), (Good.bnd hm).imp (fun r1 hm => fun Z4 H5 st6 => ?_) hWE⟩⟩⟩⟩
    have hS := hS.step st6
    refine ⟨_, rfl, ⟨trivial, ⟨trivial, ⟨_, _, _, _, rfl, hS.zh, (hS.fact 0 rfl), (Good.bnd hm).imp (fun r2 hm => fun Z7 H8 st9 => ?_) hWE⟩⟩⟩⟩
    have hS := hS.step st9
    refine ⟨trivial, ⟨_, _, _, rfl, hS.zh, (Good.bnd hm).imp (fun r3 hm => NewO.tel hS.zh (fun v13 Z10 H11 st12 hv13 => ?_)) hWE⟩⟩
    have hS := (hS.step st12).tel (a := r3) hv13
    refine (tgt1 ?_)
    refine ⟨_, rfl, ⟨trivial, ⟨trivial, ⟨_, rfl, (k_slL hS.zh (hS.fact 0 rfl) (New.tel fun v27 Z24 H25 st26 hv27 => ?_))⟩⟩⟩⟩
    have hS := (hS.step st26).tel (a := (cutL r3 none (some (1 : Int)))) hv27
    refine ⟨_, rfl, ⟨trivial, ⟨_, rfl, ⟨trivial, (k_slL hS.zh (hS.fact 1 rfl) (New.tel fun v31 Z28 H29 st30 hv31 => ?_))⟩⟩⟩⟩
    have hS := (hS.step st30).tel (a := (cutL r3 (some (1 : Int)) none)) hv31
    obtain ⟨g20, hm⟩ := Good.chk hm
    obtain ⟨g19, hm⟩ := Good.chk hm
    obtain ⟨a32, xs33, ev34, hz35, pr36⟩ := pyL (hS.fact 0 rfl)
    refine ⟨_, ev34, ⟨_, SqL.of (hS.zh _ _ hz35)⟩, (lcKQ (K := K) (src_list hz35 pr36) hS.zh (fun (name_16 : Str) => name_16) (fun (name_16 : Str) => (!decide (name_16 = (getI r3 (0 : Int))))) g20 (fun name_16 x37 Z38 H39 H40 C41 N42 mem43 st44 y45 kC46 kN47 => ?_) (New.tel fun v53 Z50 H51 st52 hv53 => ?_))⟩
    · skip
      have hS := hS.step st44
      have sx_ := Step.refl hS.zh
      have g19 := g19 name_16 mem43
      obtain ⟨rfl, rfl⟩ := y45
      refine (tgt1 ?_)
      refine ⟨rfl, ⟨_, rfl, ⟨_, rfl, ⟨trivial, (k_ixLs hS.zh (hS.fact 2 rfl) g19 (k_neS ⟨_, rfl, (ite2 (fun e54 => ?_) (fun e55 => ?_))⟩))⟩⟩⟩⟩
      · skip
        refine ⟨_, rfl, (kC46 _ _ _ sx_ e54 rfl)⟩
      · skip
        exact kN47 _ _ sx_ (eqF e55)
    have hS := (hS.step st52).tel (a := (((cutL r3 (some (1 : Int)) none).filter (fun (name_16 : Str) => (!decide (name_16 = (getI r3 (0 : Int)))))).map (fun (name_16 : Str) => name_16))) hv53
    obtain ⟨g21, hm⟩ := Good.chk hm
    refine (k_catL hS.zh (RO.tell hS.zh (hS.fact 2 rfl)) (RO.tell hS.zh (hS.fact 0 rfl)) g21 (New.gen fun names_here_22 en23 => New.tel fun v59 Z56 H57 st58 hv59 => ?_))
    have hS := (hS.step st58).tel (a := names_here_22) hv59
    refine (tgt1 ?_)
    have hm := Good.vl en23 hm
    have hS := hS.drop1
    have hS := hS.drop1
    have hS := hS.drop1
    have hS := hS.drop1
    obtain ⟨g60, hm⟩ := Good.chk hm
    refine ⟨_, rfl, ⟨trivial, (k_rep hS.zh (RO.tell hS.zh (hS.fact 0 rfl)) g60.1 g60.2.1 g60.2.2 (New.tel fun v66 Z63 H64 st65 hv66 => ?_))⟩⟩
    have hS := (hS.step st65).tel (a := (repL names_here_22 (4 : Int))) hv66
    refine ⟨trivial, ⟨trivial, ⟨_, rfl, (k_slL hS.zh (hS.fact 0 rfl) (New.gen fun names_here_61 en62 => New.tel fun v70 Z67 H68 st69 hv70 => ?_))⟩⟩⟩
    have hS := (hS.step st69).tel (a := names_here_61) hv70
    refine (tgt1 ?_)
    have hm := Good.vl en62 hm
    have hS := hS.drop1
    have hS := hS.drop1
    refine fun x_r71 dx_ nx_ ndx_ ne_ => ⟨_, x_r71, dx_, rfl, new_zh hS.zh nx_ ndx_ ne_, ⟨_, T.nk_Desk, upd_same⟩, new_dx ne_, (Good.bnd hm).imp (fun r71 hm => new_fitP nx_ ndx_ ne_ (fun ps76 Z72 H73 st74 o77 => ?_)) hWE⟩
    have hS := hS.own st74 o77
    refine fun x_r78 dx_ nx_ ndx_ ne_ => ⟨_, x_r78, dx_, rfl, new_zh hS.zh nx_ ndx_ ne_, ⟨_, T.nk_Desk, upd_same⟩, new_dx ne_, (Good.bnd hm).imp (fun r78 hm => new_fitP nx_ ndx_ ne_ (fun ps83 Z79 H80 st81 o84 => ?_)) hWE⟩
    have hS := hS.own st81 o84
    obtain ⟨f87, hf_⟩ := hS.opnF
    have rw91 := hf_.consA 1 rfl (hf_.consA 0 rfl hf_.nilA (by decide)) (by decide)
    refine ⟨trivial, (hf_.lst (G' := [⟨(Sh.told (α := (List Str))), v70, names_here_61⟩, ⟨(Sh.told (α := Scr)), v_law_script, a_law_script⟩]) rw91 [2, 3] (by decide) (by decide) rfl (Nat.le_of_ble_eq_true rfl) (fun p88 H89 st90 hS => ?_))⟩
    have hS : Sep K Z0 H0 _ _ (⟨(Sh.lst (ShL.all sh_Desk)), (.ref p88), [r71, r78]⟩ :: _) := hS
    refine (tgt1 ?_)
    obtain ⟨desks_85, en86⟩ : ∃ z, z = [r71, r78] := ⟨_, rfl⟩
    have hS := hS.nam 0 rfl en86; dsimp only [List.set] at hS
    have hm := Good.vl en86 hm
    refine ⟨trivial, (k_dnew (K := K) (κ := Str) (α := (List Str)) hS.zh (NewD.ownS fun p95 ps96 Z92 H93 st94 o97 => ?_))⟩
    have hS := hS.own st94 o97
    refine ⟨trivial, (k_dnew (K := K) (κ := Str) (α := (List Str)) hS.zh (NewD.ownS fun p101 ps102 Z98 H99 st100 o103 => ?_))⟩
    have hS := hS.own st100 o103
    obtain ⟨f106, hf_⟩ := hS.opnF
    have rw110 := hf_.consA 1 rfl (hf_.consA 0 rfl hf_.nilA (by decide)) (by decide)
    refine ⟨trivial, (hf_.lst (G' := [⟨(Sh.lst (ShL.all sh_Desk)), (.ref p88), desks_85⟩, ⟨(Sh.told (α := (List Str))), v70, names_here_61⟩, ⟨(Sh.told (α := Scr)), v_law_script, a_law_script⟩]) rw110 [2, 3, 4] (by decide) (by decide) rfl (Nat.le_of_ble_eq_true rfl) (fun p107 H108 st109 hS => ?_))⟩
    have hS : Sep K Z0 H0 _ _ (⟨(Sh.lst (ShL.all (Sh.dc Str (List Str)))), (.ref p107), [(⟨[]⟩ : (Dct Str (List Str))), (⟨[]⟩ : (Dct Str (List Str)))]⟩ :: _) := hS
    refine (tgt1 ?_)
    obtain ⟨trays_104, en105⟩ : ∃ z, z = [(⟨[]⟩ : (Dct Str (List Str))), (⟨[]⟩ : (Dct Str (List Str)))] := ⟨_, rfl⟩
    have hS := hS.nam 0 rfl en105; dsimp only [List.set] at hS
    have hm := Good.vl en105 hm
    refine ⟨trivial, (k_lst (K := K) (m := ([] : (List ((List Str) × (List Str))))) hS.zh .nil (Nat.le_of_ble_eq_true rfl) (New.ownS fun p116 ps117 Z113 H114 st115 o118 => ?_))⟩
    have hS := hS.own st115 o118
    refine (tgt1 ?_)
    obtain ⟨held_111, en112⟩ : ∃ z, z = ([] : (List ((List Str) × (List Str)))) := ⟨_, rfl⟩
    have hS := hS.nam 0 rfl en112; dsimp only [List.set] at hS
    have hm := Good.vl en112 hm
    refine ⟨_, rfl, ⟨trivial, ⟨_, rfl, ⟨trivial, ⟨_, rfl, (k_slR hS.zh (hS.fact 4 rfl) (New.tel fun v122 Z119 H120 st121 hv122 => ?_))⟩⟩⟩⟩⟩
    have hS := (hS.step st121).tel (a := (cutL a_law_script.ns (some (2 : Int)) (some (63 : Int)))) hv122
    obtain ⟨a123, xs124, ev125, hz126, pr127⟩ := pyL (hS.fact 0 rfl)
    obtain ⟨W135, hm, hWW135⟩ := Good.bndW hm
    refine ⟨_, ev125, ⟨_, SqL.of (hS.zh _ _ hz126)⟩, (forK (Z := Z119) (L := (cutL a_law_script.ns (some (2 : Int)) (some (63 : Int)))) (src_list hz126 pr127) (fun rr σr Hr Zr => (∃ (desks_128 : (List Desk)) (trays_129 : (List (Dct Str (List Str)))) (held_130 : (List ((List Str) × (List Str)))) (v131 : V) (v132 : V) (v133 : V) (w_law_cell : Option V) (w_law_who : Option V), σr = [some v_law_script, some v70, some v131, some v132, some v133, w_law_cell, w_law_who, none, none, none, none] ∧ Sep K Z0 H0 Zr Hr [⟨(Sh.lst (ShL.all sh_Desk)), v131, desks_128⟩, ⟨(Sh.lst (ShL.all (Sh.dc Str (List Str)))), v132, trays_129⟩, ⟨(Sh.lt ((List Str) × (List Str))), v133, held_130⟩, ⟨(Sh.told (α := Scr)), v_law_script, a_law_script⟩, ⟨(Sh.told (α := (List Str))), v70, names_here_61⟩] ∧ Same Z119 Zr ∧ (Good (forL (fun (s_ : (List Desk) × (List (Dct Str (List Str))) × (List ((List Str) × (List Str)))) (q_ : Int) => m_law_b0 names_here_61 s_.1 s_.2.1 s_.2.2 q_) (desks_128, trays_129, held_130) rr) W135 WE))) ?_ ?_ ?_ ?_)⟩
    · rintro rr σr Hr Zr hk
      obtain ⟨desks_128, trays_129, held_130, v131, v132, v133, w_law_cell, w_law_who, rfl, hS, sm134, hm⟩ := hk
      obtain ⟨p181, er_⟩ := hS.ref 0 rfl
      subst er_
      obtain ⟨p182, er_⟩ := hS.ref 1 rfl
      subst er_
      obtain ⟨p183, er_⟩ := hS.ref 2 rfl
      subst er_
      exact ⟨sm134, hS.zh⟩
    · exact ⟨Z119, desks_85, trays_104, held_111, ((.ref p88)), ((.ref p107)), ((.ref p116)), (none), (none), rfl, hS.pick [3, 2, 1, 5, 4] (by decide) rfl, Same.refl _, hm⟩
    · skip
      intro cell_136 r137 x138 sg139 H140 H141 Z142 mem143 dec144 hp145 y146
      obtain ⟨desks_128, trays_129, held_130, v131, v132, v133, w_law_cell, w_law_who, rfl, hS, sm134, hm⟩ := hp145
      obtain ⟨p147, er_⟩ := hS.ref 0 rfl
      subst er_
      obtain ⟨p148, er_⟩ := hS.ref 1 rfl
      subst er_
      obtain ⟨p149, er_⟩ := hS.ref 2 rfl
      subst er_
      obtain ⟨W150, hm, hn151, hb152, hr153⟩ := Good.forL hm
      have hm : Good (m_law_b0 names_here_61 desks_128 trays_129 held_130 cell_136) _ _ := hm; unfold m_law_b0 at hm
      obtain ⟨rfl, rfl⟩ := y146
      refine (tgt1 ?_)
      refine ⟨_, rfl, ⟨trivial, ⟨_, _, rfl, rfl, (show (0 : Int) < (2147483647 : Int) from (by decide)), ⟨trivial, ⟨_, _, rfl, rfl, (mulR ⟨by decide, by decide⟩), ⟨trivial, ⟨_, _, rfl, rfl, (show (0 : Int) < (2147483629 : Int) from (by decide)), ⟨trivial, ⟨_, _, rfl, rfl, (show (0 : Int) < (3 : Int) from (by decide)), ⟨trivial, ⟨_, _, rfl, rfl, ⟨by decide, by decide⟩, (storeI fun who_156 en157 => ?_)⟩⟩⟩⟩⟩⟩⟩⟩⟩⟩⟩
      have hm := Good.vl en157 hm
      obtain ⟨g158, hm⟩ := Good.chk hm
      refine ⟨trivial, ⟨_, rfl, ⟨_, rfl, ?_⟩⟩⟩
      have hS : (Sep K Z0 H0 _ _ [⟨(Sh.lst (ShL.all sh_Desk)), (.ref p147), desks_128⟩, ⟨(Sh.lst (ShL.all (Sh.dc Str (List Str)))), (.ref p148), trays_129⟩, ⟨(Sh.lt ((List Str) × (List Str))), (.ref p149), held_130⟩, ⟨(Sh.told (α := Scr)), v_law_script, a_law_script⟩, ⟨(Sh.told (α := (List Str))), v70, names_here_61⟩]) := hS.pick [0, 1, 2, 3, 4] (by decide) rfl
      obtain ⟨xs161, hl162, hS⟩ := hS.vals; obtain ⟨x163, hx164, hS⟩ := hS.takeI g158
      have hS : (Sep K Z0 H0 _ _ [⟨sh_Desk, x163, (getI desks_128 who_156)⟩, ⟨(Sh.lstH xs161 (jx desks_128.length who_156) sh_Desk), (.ref p147), desks_128⟩, ⟨(Sh.lst (ShL.all (Sh.dc Str (List Str)))), (.ref p148), trays_129⟩, ⟨(Sh.lt ((List Str) × (List Str))), (.ref p149), held_130⟩, ⟨(Sh.told (α := Scr)), v_law_script, a_law_script⟩, ⟨(Sh.told (α := (List Str))), v70, names_here_61⟩]) := hS
      obtain ⟨p165, er_⟩ := hS.ref 0 rfl
      subst er_
      refine k_ixV (hS.atH 1 rfl).1 hx164 ?_
      obtain ⟨g159, hm⟩ := Good.chk hm
      refine ⟨_, rfl, ⟨_, rfl, ?_⟩⟩
      have hS : (Sep K Z0 H0 _ _ [⟨(Sh.lst (ShL.all (Sh.dc Str (List Str)))), (.ref p148), trays_129⟩, ⟨sh_Desk, (.ref p165), (getI desks_128 who_156)⟩, ⟨(Sh.lstH xs161 (jx desks_128.length who_156) sh_Desk), (.ref p147), desks_128⟩, ⟨(Sh.lt ((List Str) × (List Str))), (.ref p149), held_130⟩, ⟨(Sh.told (α := Scr)), v_law_script, a_law_script⟩, ⟨(Sh.told (α := (List Str))), v70, names_here_61⟩]) := hS.pick [2, 0, 1, 3, 4, 5] (by decide) rfl
      obtain ⟨xs166, hl167, hS⟩ := hS.vals; obtain ⟨x168, hx169, hS⟩ := hS.takeI g159
      have hS : (Sep K Z0 H0 _ _ [⟨(Sh.dc Str (List Str)), x168, (getI trays_129 who_156)⟩, ⟨(Sh.lstH xs166 (jx trays_129.length who_156) (Sh.dc Str (List Str))), (.ref p148), trays_129⟩, ⟨sh_Desk, (.ref p165), (getI desks_128 who_156)⟩, ⟨(Sh.lstH xs161 (jx desks_128.length who_156) sh_Desk), (.ref p147), desks_128⟩, ⟨(Sh.lt ((List Str) × (List Str))), (.ref p149), held_130⟩, ⟨(Sh.told (α := Scr)), v_law_script, a_law_script⟩, ⟨(Sh.told (α := (List Str))), v70, names_here_61⟩]) := hS
      obtain ⟨p170, er_⟩ := hS.ref 0 rfl
      subst er_
      refine k_ixV (hS.atH 1 rfl).1 hx169 ?_
      refine ⟨_, rfl, ⟨_, rfl, ⟨_, rfl, ⟨trivial, ?_⟩⟩⟩⟩
      have hS : (Sep K Z0 H0 _ _ [⟨sh_Desk, (.ref p165), (getI desks_128 who_156)⟩, ⟨(Sh.dc Str (List Str)), (.ref p170), (getI trays_129 who_156)⟩, ⟨(Sh.lt ((List Str) × (List Str))), (.ref p149), held_130⟩, ⟨(Sh.lstH xs166 (jx trays_129.length who_156) (Sh.dc Str (List Str))), (.ref p148), trays_129⟩, ⟨(Sh.lstH xs161 (jx desks_128.length who_156) sh_Desk), (.ref p147), desks_128⟩, ⟨(Sh.told (α := Scr)), v_law_script, a_law_script⟩, ⟨(Sh.told (α := (List Str))), v70, names_here_61⟩]) := hS.pick [2, 0, 4, 1, 3, 5, 6] (by decide) rfl
      have hS := Sep.join2P (S3 := Sh.two sh_Desk (Sh.dc Str (List Str)) (.ref p165) (.ref p170)) (v3 := .non) (a3 := ((getI desks_128 who_156), (getI trays_129 who_156))) hS (fun ps_ qs_ r1_ r2_ => ⟨ps_ ++ qs_, List.Perm.refl _, ps_, qs_, rfl, r1_, r2_⟩)
      have hS := Sep.join2P (S3 := Sh.two (Sh.two sh_Desk (Sh.dc Str (List Str)) (.ref p165) (.ref p170)) (Sh.lt ((List Str) × (List Str))) .non (.ref p149)) (v3 := .non) (a3 := (((getI desks_128 who_156), (getI trays_129 who_156)), held_130)) hS (fun ps_ qs_ r1_ r2_ => ⟨ps_ ++ qs_, List.Perm.refl _, ps_, qs_, rfl, r1_, r2_⟩)
      obtain ⟨ps171, h172, lg173⟩ := hS.lend 0 rfl
      refine ⟨_, _, _, _, _, _, _, _, _, _, _, rfl, hS.zh, (hS.fact 4 rfl), h172.1, h172.2.1, h172.2.2, (Good.bnd hm).imp (fun r160 hm Z174 H175 ps176 st177 o178 => ?_) hWE⟩
      have sm134 := sm134.trans st177.zz
      have hS := lg173 (b := r160.1) st177 o178; dsimp only [List.set] at hS
      have hS : (Sep K Z0 H0 _ _ (⟨(Sh.two sh_Desk (Sh.dc Str (List Str)) (.ref p165) (.ref p170)), .non, (r160.1.1.1, r160.1.1.2)⟩ :: ⟨(Sh.lt ((List Str) × (List Str))), (.ref p149), r160.1.2⟩ :: _)) := Sep.split2P hS (fun rs_ ⟨ps_, qs_, e_, r1_, r2_⟩ => ⟨ps_, qs_, e_ ▸ List.Perm.refl _, r1_, r2_⟩)
      have hS : (Sep K Z0 H0 _ _ (⟨sh_Desk, (.ref p165), r160.1.1.1⟩ :: ⟨(Sh.dc Str (List Str)), (.ref p170), r160.1.1.2⟩ :: _)) := Sep.split2P hS (fun rs_ ⟨ps_, qs_, e_, r1_, r2_⟩ => ⟨ps_, qs_, e_ ▸ List.Perm.refl _, r1_, r2_⟩)
      have hS : (Sep K Z0 H0 _ _ [⟨sh_Desk, (.ref p165), r160.1.1.1⟩, ⟨(Sh.dc Str (List Str)), (.ref p170), r160.1.1.2⟩, ⟨(Sh.lt ((List Str) × (List Str))), (.ref p149), r160.1.2⟩, ⟨(Sh.lstH xs166 (jx trays_129.length who_156) (Sh.dc Str (List Str))), (.ref p148), trays_129⟩, ⟨(Sh.lstH xs161 (jx desks_128.length who_156) sh_Desk), (.ref p147), desks_128⟩, ⟨(Sh.told (α := Scr)), v_law_script, a_law_script⟩, ⟨(Sh.told (α := (List Str))), v70, names_here_61⟩]) := hS
      have hS : (Sep K Z0 H0 _ _ [⟨sh_Desk, (.ref p165), r160.1.1.1⟩, ⟨(Sh.lstH xs161 (jx desks_128.length who_156) sh_Desk), (.ref p147), desks_128⟩, ⟨(Sh.dc Str (List Str)), (.ref p170), r160.1.1.2⟩, ⟨(Sh.lt ((List Str) × (List Str))), (.ref p149), r160.1.2⟩, ⟨(Sh.lstH xs166 (jx trays_129.length who_156) (Sh.dc Str (List Str))), (.ref p148), trays_129⟩, ⟨(Sh.told (α := Scr)), v_law_script, a_law_script⟩, ⟨(Sh.told (α := (List Str))), v70, names_here_61⟩]) := hS.pick [0, 4, 1, 2, 3, 5, 6] (by decide) rfl
      have hS := (Sep.giveI g158 hx164 hS).unvals
      have hS : (Sep K Z0 H0 _ _ [⟨(Sh.lst (ShL.all sh_Desk)), (.ref p147), (setI desks_128 who_156 r160.1.1.1)⟩, ⟨(Sh.dc Str (List Str)), (.ref p170), r160.1.1.2⟩, ⟨(Sh.lt ((List Str) × (List Str))), (.ref p149), r160.1.2⟩, ⟨(Sh.lstH xs166 (jx trays_129.length who_156) (Sh.dc Str (List Str))), (.ref p148), trays_129⟩, ⟨(Sh.told (α := Scr)), v_law_script, a_law_script⟩, ⟨(Sh.told (α := (List Str))), v70, names_here_61⟩]) := hS
      have hS : (Sep K Z0 H0 _ _ [⟨(Sh.dc Str (List Str)), (.ref p170), r160.1.1.2⟩, ⟨(Sh.lstH xs166 (jx trays_129.length who_156) (Sh.dc Str (List Str))), (.ref p148), trays_129⟩, ⟨(Sh.lst (ShL.all sh_Desk)), (.ref p147), (setI desks_128 who_156 r160.1.1.1)⟩, ⟨(Sh.lt ((List Str) × (List Str))), (.ref p149), r160.1.2⟩, ⟨(Sh.told (α := Scr)), v_law_script, a_law_script⟩, ⟨(Sh.told (α := (List Str))), v70, names_here_61⟩]) := hS.pick [1, 3, 0, 2, 4, 5] (by decide) rfl
      have hS := (Sep.giveI g159 hx169 hS).unvals
      have hS : (Sep K Z0 H0 _ _ [⟨(Sh.lst (ShL.all (Sh.dc Str (List Str)))), (.ref p148), (setI trays_129 who_156 r160.1.1.2)⟩, ⟨(Sh.lst (ShL.all sh_Desk)), (.ref p147), (setI desks_128 who_156 r160.1.1.1)⟩, ⟨(Sh.lt ((List Str) × (List Str))), (.ref p149), r160.1.2⟩, ⟨(Sh.told (α := Scr)), v_law_script, a_law_script⟩, ⟨(Sh.told (α := (List Str))), v70, names_here_61⟩]) := hS
      refine ⟨_, rfl, (ite2 (fun e179 => ?_) (fun e180 => ?_))⟩
      · skip
        have hm := Good.ifT e179 hm
        refine ⟨trivial, ?_⟩
        have hm := hr153 _ hm
        have hm := hWW135 _ hm
        exact hW _ hm _ _ hS.st
      · skip
        have hm := Good.ifF e180 hm
        have hm := hn151 _ hm
        exact ⟨_, (setI desks_128 who_156 r160.1.1.1), (setI trays_129 who_156 r160.1.1.2), r160.1.2, ((.ref p147)), ((.ref p148)), ((.ref p149)), (some (.int cell_136)), (some (.int who_156)), rfl, hS.pick [1, 0, 2, 3, 4] (by decide) rfl, sm134, hm⟩
    · intro sg184 H185 Z186 hp187
      obtain ⟨desks_128, trays_129, held_130, v131, v132, v133, w_law_cell, w_law_who, rfl, hS, sm134, hm⟩ := hp187
      obtain ⟨p188, er_⟩ := hS.ref 0 rfl
      subst er_
      obtain ⟨p189, er_⟩ := hS.ref 1 rfl
      subst er_
      obtain ⟨p190, er_⟩ := hS.ref 2 rfl
      subst er_
      have hm := hWW135 _ hm
      have hm : Good (m_law_k0 names_here_61 desks_128 trays_129 held_130) _ _ := hm; unfold m_law_k0 at hm
      obtain ⟨W198, hm, hWW198⟩ := Good.bndW hm
      refine ⟨trivial, ⟨trivial, ⟨_, rfl, by decide, by decide, (forK (Z := Z186) (L := (rangeL 0 ((16 : Int)).toNat)) (src_range _ _) (fun rr σr Hr Zr => (∃ (desks_191 : (List Desk)) (trays_192 : (List (Dct Str (List Str)))) (held_193 : (List ((List Str) × (List Str)))) (v194 : V) (v195 : V) (v196 : V) (w_law_k : Option V), σr = [some v_law_script, some v70, some v194, some v195, some v196, w_law_cell, w_law_who, w_law_k, none, none, none] ∧ Sep K Z0 H0 Zr Hr [⟨(Sh.lst (ShL.all sh_Desk)), v194, desks_191⟩, ⟨(Sh.lst (ShL.all (Sh.dc Str (List Str)))), v195, trays_192⟩, ⟨(Sh.lt ((List Str) × (List Str))), v196, held_193⟩, ⟨(Sh.told (α := Scr)), v_law_script, a_law_script⟩, ⟨(Sh.told (α := (List Str))), v70, names_here_61⟩] ∧ Same Z186 Zr ∧ (Good (forL (fun (s_ : (List Desk) × (List (Dct Str (List Str))) × (List ((List Str) × (List Str)))) (q_ : Int) => m_law_b1 names_here_61 s_.1 s_.2.1 s_.2.2 q_) (desks_191, trays_192, held_193) rr) W198 WE))) ?_ ?_ ?_ ?_)⟩⟩⟩
      · rintro rr σr Hr Zr hk
        obtain ⟨desks_191, trays_192, held_193, v194, v195, v196, w_law_k, rfl, hS, sm197, hm⟩ := hk
        obtain ⟨p243, er_⟩ := hS.ref 0 rfl
        subst er_
        obtain ⟨p244, er_⟩ := hS.ref 1 rfl
        subst er_
        obtain ⟨p245, er_⟩ := hS.ref 2 rfl
        subst er_
        exact ⟨sm197, hS.zh⟩
      · exact ⟨Z186, desks_128, trays_129, held_130, ((.ref p188)), ((.ref p189)), ((.ref p190)), (none), rfl, hS.pick [0, 1, 2, 3, 4] (by decide) rfl, Same.refl _, hm⟩
      · skip
        intro k_199 r200 x201 sg202 H203 H204 Z205 mem206 dec207 hp208 y209
        obtain ⟨desks_191, trays_192, held_193, v194, v195, v196, w_law_k, rfl, hS, sm197, hm⟩ := hp208
        obtain ⟨p210, er_⟩ := hS.ref 0 rfl
        subst er_
        obtain ⟨p211, er_⟩ := hS.ref 1 rfl
        subst er_
        obtain ⟨p212, er_⟩ := hS.ref 2 rfl
        subst er_
        obtain ⟨W213, hm, hn214, hb215, hr216⟩ := Good.forL hm
        have hm : Good (m_law_b1 names_here_61 desks_191 trays_192 held_193 k_199) _ _ := hm; unfold m_law_b1 at hm
        obtain ⟨rfl, rfl⟩ := y209
        refine (tgt1 ?_)
        obtain ⟨g219, hm⟩ := Good.chk hm
        refine ⟨trivial, ⟨_, rfl, ⟨_, rfl, ⟨trivial, ⟨_, _, rfl, rfl, (show (0 : Int) < (2 : Int) from (by decide)), ?_⟩⟩⟩⟩⟩
        have hS : (Sep K Z0 H0 _ _ [⟨(Sh.lst (ShL.all sh_Desk)), (.ref p210), desks_191⟩, ⟨(Sh.lst (ShL.all (Sh.dc Str (List Str)))), (.ref p211), trays_192⟩, ⟨(Sh.lt ((List Str) × (List Str))), (.ref p212), held_193⟩, ⟨(Sh.told (α := Scr)), v_law_script, a_law_script⟩, ⟨(Sh.told (α := (List Str))), v70, names_here_61⟩]) := hS.pick [0, 1, 2, 3, 4] (by decide) rfl
        obtain ⟨xs223, hl224, hS⟩ := hS.vals; obtain ⟨x225, hx226, hS⟩ := hS.takeI g219
        have hS : (Sep K Z0 H0 _ _ [⟨sh_Desk, x225, (getI desks_191 (k_199 % (2 : Int)))⟩, ⟨(Sh.lstH xs223 (jx desks_191.length (k_199 % (2 : Int))) sh_Desk), (.ref p210), desks_191⟩, ⟨(Sh.lst (ShL.all (Sh.dc Str (List Str)))), (.ref p211), trays_192⟩, ⟨(Sh.lt ((List Str) × (List Str))), (.ref p212), held_193⟩, ⟨(Sh.told (α := Scr)), v_law_script, a_law_script⟩, ⟨(Sh.told (α := (List Str))), v70, names_here_61⟩]) := hS
        obtain ⟨p227, er_⟩ := hS.ref 0 rfl
        subst er_
        refine k_ixV (hS.atH 1 rfl).1 hx226 ?_
        obtain ⟨g220, hm⟩ := Good.chk hm
        refine ⟨_, rfl, ⟨_, rfl, ⟨trivial, ⟨_, _, rfl, rfl, (show (0 : Int) < (2 : Int) from (by decide)), ?_⟩⟩⟩⟩
        have hS : (Sep K Z0 H0 _ _ [⟨(Sh.lst (ShL.all (Sh.dc Str (List Str)))), (.ref p211), trays_192⟩, ⟨sh_Desk, (.ref p227), (getI desks_191 (k_199 % (2 : Int)))⟩, ⟨(Sh.lstH xs223 (jx desks_191.length (k_199 % (2 : Int))) sh_Desk), (.ref p210), desks_191⟩, ⟨(Sh.lt ((List Str) × (List Str))), (.ref p212), held_193⟩, ⟨(Sh.told (α := Scr)), v_law_script, a_law_script⟩, ⟨(Sh.told (α := (List Str))), v70, names_here_61⟩]) := hS.pick [2, 0, 1, 3, 4, 5] (by decide) rfl
        obtain ⟨xs228, hl229, hS⟩ := hS.vals; obtain ⟨x230, hx231, hS⟩ := hS.takeI g220
        have hS : (Sep K Z0 H0 _ _ [⟨(Sh.dc Str (List Str)), x230, (getI trays_192 (k_199 % (2 : Int)))⟩, ⟨(Sh.lstH xs228 (jx trays_192.length (k_199 % (2 : Int))) (Sh.dc Str (List Str))), (.ref p211), trays_192⟩, ⟨sh_Desk, (.ref p227), (getI desks_191 (k_199 % (2 : Int)))⟩, ⟨(Sh.lstH xs223 (jx desks_191.length (k_199 % (2 : Int))) sh_Desk), (.ref p210), desks_191⟩, ⟨(Sh.lt ((List Str) × (List Str))), (.ref p212), held_193⟩, ⟨(Sh.told (α := Scr)), v_law_script, a_law_script⟩, ⟨(Sh.told (α := (List Str))), v70, names_here_61⟩]) := hS
        obtain ⟨p232, er_⟩ := hS.ref 0 rfl
        subst er_
        refine k_ixV (hS.atH 1 rfl).1 hx231 ?_
        obtain ⟨g221, hm⟩ := Good.chk hm
        refine ⟨_, rfl, ⟨_, rfl, ⟨trivial, ⟨_, _, rfl, rfl, ⟨by decide, by decide⟩, ⟨trivial, ⟨_, _, rfl, rfl, (show (0 : Int) < (4 : Int) from (by decide)), (k_ixLs hS.zh (hS.fact 6 rfl) g221 ⟨_, rfl, ⟨trivial, ?_⟩⟩)⟩⟩⟩⟩⟩⟩
        have hS : (Sep K Z0 H0 _ _ [⟨sh_Desk, (.ref p227), (getI desks_191 (k_199 % (2 : Int)))⟩, ⟨(Sh.dc Str (List Str)), (.ref p232), (getI trays_192 (k_199 % (2 : Int)))⟩, ⟨(Sh.lt ((List Str) × (List Str))), (.ref p212), held_193⟩, ⟨(Sh.lstH xs228 (jx trays_192.length (k_199 % (2 : Int))) (Sh.dc Str (List Str))), (.ref p211), trays_192⟩, ⟨(Sh.lstH xs223 (jx desks_191.length (k_199 % (2 : Int))) sh_Desk), (.ref p210), desks_191⟩, ⟨(Sh.told (α := Scr)), v_law_script, a_law_script⟩, ⟨(Sh.told (α := (List Str))), v70, names_here_61⟩]) := hS.pick [2, 0, 4, 1, 3, 5, 6] (by decide) rfl
        have hS := Sep.join2P (S3 := Sh.two sh_Desk (Sh.dc Str (List Str)) (.ref p227) (.ref p232)) (v3 := .non) (a3 := ((getI desks_191 (k_199 % (2 : Int))), (getI trays_192 (k_199 % (2 : Int))))) hS (fun ps_ qs_ r1_ r2_ => ⟨ps_ ++ qs_, List.Perm.refl _, ps_, qs_, rfl, r1_, r2_⟩)
        have hS := Sep.join2P (S3 := Sh.two (Sh.two sh_Desk (Sh.dc Str (List Str)) (.ref p227) (.ref p232)) (Sh.lt ((List Str) × (List Str))) .non (.ref p212)) (v3 := .non) (a3 := (((getI desks_191 (k_199 % (2 : Int))), (getI trays_192 (k_199 % (2 : Int)))), held_193)) hS (fun ps_ qs_ r1_ r2_ => ⟨ps_ ++ qs_, List.Perm.refl _, ps_, qs_, rfl, r1_, r2_⟩)
        obtain ⟨ps233, h234, lg235⟩ := hS.lend 0 rfl
        refine ⟨_, _, _, _, _, _, _, _, _, rfl, hS.zh, h234.1, h234.2.1, h234.2.2, (Good.bnd hm).imp (fun r222 hm Z236 H237 ps238 st239 o240 => ?_) hWE⟩
        have sm197 := sm197.trans st239.zz
        have hS := lg235 (b := r222.1) st239 o240; dsimp only [List.set] at hS
        have hS : (Sep K Z0 H0 _ _ (⟨(Sh.two sh_Desk (Sh.dc Str (List Str)) (.ref p227) (.ref p232)), .non, (r222.1.1.1, r222.1.1.2)⟩ :: ⟨(Sh.lt ((List Str) × (List Str))), (.ref p212), r222.1.2⟩ :: _)) := Sep.split2P hS (fun rs_ ⟨ps_, qs_, e_, r1_, r2_⟩ => ⟨ps_, qs_, e_ ▸ List.Perm.refl _, r1_, r2_⟩)
        have hS : (Sep K Z0 H0 _ _ (⟨sh_Desk, (.ref p227), r222.1.1.1⟩ :: ⟨(Sh.dc Str (List Str)), (.ref p232), r222.1.1.2⟩ :: _)) := Sep.split2P hS (fun rs_ ⟨ps_, qs_, e_, r1_, r2_⟩ => ⟨ps_, qs_, e_ ▸ List.Perm.refl _, r1_, r2_⟩)
        have hS : (Sep K Z0 H0 _ _ [⟨sh_Desk, (.ref p227), r222.1.1.1⟩, ⟨(Sh.dc Str (List Str)), (.ref p232), r222.1.1.2⟩, ⟨(Sh.lt ((List Str) × (List Str))), (.ref p212), r222.1.2⟩, ⟨(Sh.lstH xs228 (jx trays_192.length (k_199 % (2 : Int))) (Sh.dc Str (List Str))), (.ref p211), trays_192⟩, ⟨(Sh.lstH xs223 (jx desks_191.length (k_199 % (2 : Int))) sh_Desk), (.ref p210), desks_191⟩, ⟨(Sh.told (α := Scr)), v_law_script, a_law_script⟩, ⟨(Sh.told (α := (List Str))), v70, names_here_61⟩]) := hS
        have hS : (Sep K Z0 H0 _ _ [⟨sh_Desk, (.ref p227), r222.1.1.1⟩, ⟨(Sh.lstH xs223 (jx desks_191.length (k_199 % (2 : Int))) sh_Desk), (.ref p210), desks_191⟩, ⟨(Sh.dc Str (List Str)), (.ref p232), r222.1.1.2⟩, ⟨(Sh.lt ((List Str) × (List Str))), (.ref p212), r222.1.2⟩, ⟨(Sh.lstH xs228 (jx trays_192.length (k_199 % (2 : Int))) (Sh.dc Str (List Str))), (.ref p211), trays_192⟩, ⟨(Sh.told (α := Scr)), v_law_script, a_law_script⟩, ⟨(Sh.told (α := (List Str))), v70, names_here_61⟩]) := hS.pick [0, 4, 1, 2, 3, 5, 6] (by decide) rfl
        have hS := (Sep.giveI g219 hx226 hS).unvals
        have hS : (Sep K Z0 H0 _ _ [⟨(Sh.lst (ShL.all sh_Desk)), (.ref p210), (setI desks_191 (k_199 % (2 : Int)) r222.1.1.1)⟩, ⟨(Sh.dc Str (List Str)), (.ref p232), r222.1.1.2⟩, ⟨(Sh.lt ((List Str) × (List Str))), (.ref p212), r222.1.2⟩, ⟨(Sh.lstH xs228 (jx trays_192.length (k_199 % (2 : Int))) (Sh.dc Str (List Str))), (.ref p211), trays_192⟩, ⟨(Sh.told (α := Scr)), v_law_script, a_law_script⟩, ⟨(Sh.told (α := (List Str))), v70, names_here_61⟩]) := hS
        have hS : (Sep K Z0 H0 _ _ [⟨(Sh.dc Str (List Str)), (.ref p232), r222.1.1.2⟩, ⟨(Sh.lstH xs228 (jx trays_192.length (k_199 % (2 : Int))) (Sh.dc Str (List Str))), (.ref p211), trays_192⟩, ⟨(Sh.lst (ShL.all sh_Desk)), (.ref p210), (setI desks_191 (k_199 % (2 : Int)) r222.1.1.1)⟩, ⟨(Sh.lt ((List Str) × (List Str))), (.ref p212), r222.1.2⟩, ⟨(Sh.told (α := Scr)), v_law_script, a_law_script⟩, ⟨(Sh.told (α := (List Str))), v70, names_here_61⟩]) := hS.pick [1, 3, 0, 2, 4, 5] (by decide) rfl
        have hS := (Sep.giveI g220 hx231 hS).unvals
        have hS : (Sep K Z0 H0 _ _ [⟨(Sh.lst (ShL.all (Sh.dc Str (List Str)))), (.ref p211), (setI trays_192 (k_199 % (2 : Int)) r222.1.1.2)⟩, ⟨(Sh.lst (ShL.all sh_Desk)), (.ref p210), (setI desks_191 (k_199 % (2 : Int)) r222.1.1.1)⟩, ⟨(Sh.lt ((List Str) × (List Str))), (.ref p212), r222.1.2⟩, ⟨(Sh.told (α := Scr)), v_law_script, a_law_script⟩, ⟨(Sh.told (α := (List Str))), v70, names_here_61⟩]) := hS
        refine ⟨_, rfl, (ite2 (fun e241 => ?_) (fun e242 => ?_))⟩
        · skip
          have hm := Good.ifT e241 hm
          refine ⟨trivial, ?_⟩
          have hm := hr216 _ hm
          have hm := hWW198 _ hm
          exact hW _ hm _ _ hS.st
        · skip
          have hm := Good.ifF e242 hm
          have hm := hn214 _ hm
          exact ⟨_, (setI desks_191 (k_199 % (2 : Int)) r222.1.1.1), (setI trays_192 (k_199 % (2 : Int)) r222.1.1.2), r222.1.2, ((.ref p210)), ((.ref p211)), ((.ref p212)), (some (.int k_199)), rfl, hS.pick [1, 0, 2, 3, 4] (by decide) rfl, sm197, hm⟩
      · intro sg246 H247 Z248 hp249
        obtain ⟨desks_191, trays_192, held_193, v194, v195, v196, w_law_k, rfl, hS, sm197, hm⟩ := hp249
        obtain ⟨p250, er_⟩ := hS.ref 0 rfl
        subst er_
        obtain ⟨p251, er_⟩ := hS.ref 1 rfl
        subst er_
        obtain ⟨p252, er_⟩ := hS.ref 2 rfl
        subst er_
        have hm := hWW198 _ hm
        have hm : Good (m_law_k1 desks_191 trays_192 held_193) _ _ := hm; unfold m_law_k1 at hm
        obtain ⟨Z253, s254, hS⟩ := hS.tell 2 rfl; dsimp only [List.set] at hS
        obtain ⟨a255, xs256, ev257, hz258, pr259⟩ := pyL (hS.fact 2 rfl)
        obtain ⟨W261, hm, hWW261⟩ := Good.bndW hm
        refine ⟨_, rfl, ⟨_, ev257, ⟨_, SqL.of (hS.zh _ _ hz258)⟩, (forK (Z := Z253) (L := held_193) (src_list hz258 pr259) (fun rr σr Hr Zr => (∃ (w_law_found : Option V) (w_law_was : Option V), σr = [some v_law_script, some v70, some (.ref p250), some (.ref p251), some (.ref p252), w_law_cell, w_law_who, w_law_k, w_law_found, w_law_was, none] ∧ Sep K Z0 H0 Zr Hr [⟨(Sh.lst (ShL.all sh_Desk)), (.ref p250), desks_191⟩, ⟨(Sh.lst (ShL.all (Sh.dc Str (List Str)))), (.ref p251), trays_192⟩, ⟨(Sh.told (α := (List ((List Str) × (List Str))))), (.ref p252), held_193⟩, ⟨(Sh.told (α := Scr)), v_law_script, a_law_script⟩, ⟨(Sh.told (α := (List Str))), v70, names_here_61⟩] ∧ Same Z253 Zr ∧ (Good (forL (fun (s_ : Unit) (q_ : ((List Str) × (List Str))) => m_law_b2 q_.1 q_.2) () rr) W261 WE))) ?_ ?_ ?_ ?_)⟩⟩
        · rintro rr σr Hr Zr hk
          obtain ⟨w_law_found, w_law_was, rfl, hS, sm260, hm⟩ := hk
          exact ⟨sm260, hS.zh⟩
        · exact ⟨Z253, (none), (none), rfl, hS.pick [0, 1, 2, 3, 4] (by decide) rfl, Same.refl _, hm⟩
        · skip
          intro q264 r265 x266 sg267 H268 H269 Z270 mem271 dec272 hp273 y274
          obtain ⟨found_262, was_263⟩ := q264
          obtain ⟨w_law_found, w_law_was, rfl, hS, sm260, hm⟩ := hp273
          obtain ⟨W275, hm, hn276, hb277, hr278⟩ := Good.forL hm
          have hm : Good (m_law_b2 found_262 was_263) _ _ := hm; unfold m_law_b2 at hm
          obtain ⟨rfl, ht_⟩ := y274
          refine (tgtP hS.zh (Py.mono sm260 ht_) fun a285 e283 a286 e284 v279 v281 h280 h282 => ?_)
          obtain rfl : found_262 = a285 := e283.symm
          have hS := hS.tel (a := found_262) h280
          obtain rfl : was_263 = a286 := e284.symm
          have hS := hS.tel (a := was_263) h282
          refine ⟨_, rfl, ⟨_, rfl, (k_neL (α := (List Str)) (Rn.tel hS.zh (hS.fact 1 rfl)) (Rn.tel hS.zh (hS.fact 0 rfl)) (Nat.le_of_ble_eq_true rfl) ⟨_, rfl, (ite2 (fun e287 => ?_) (fun e288 => ?_))⟩)⟩⟩
          · skip
            have hm := Good.ifT e287 hm
            refine ⟨trivial, ?_⟩
            have hm := hr278 _ hm
            have hm := hWW261 _ hm
            exact hW _ hm _ _ hS.st
          · skip
            have hm := Good.ifF e288 hm
            have hm := hn276 _ hm
            exact ⟨_, (some v279), (some v281), rfl, hS.pick [2, 3, 4, 5, 6] (by decide) rfl, sm260, hm⟩
        · intro sg289 H290 Z291 hp292
          obtain ⟨w_law_found, w_law_was, rfl, hS, sm260, hm⟩ := hp292
          have hm := hWW261 _ hm
          refine ⟨trivial, ?_⟩
          exact hW _ hm _ _ hS.st
end

/-! ### the plain law -/

theorem cell_is (s : Scr) {k : Int} (h : 0 ≤ k) : m_law_cell_at s k = .ok (if k < (s.ns.length : Int) then getI s.ns k else 0) := by
  unfold m_law_cell_at
  by_cases c : k < (s.ns.length : Int)
  · rw [if_pos (decide_eq_true c), if_pos c]; exact chk_t ⟨by omega, c⟩
  · rw [if_neg (by simpa using c), if_neg c]

/-! ### askings, plainly -/
abbrev Wk := T4 (Int × Int) (Int × Int) Str (Int × Int)
theorem forL_any {S α T : Type} {f : S → α → R (LR S T)} {s : S} {v : T} (p : α → Bool) : ∀ {l : List α}, (∀ x ∈ l, f s x = .ok (if p x = true then .ret v else .nxt s)) → forL f s l = .ok (if l.any p = true then .ret v else .nxt s)
  | [], _ => rfl
  | x :: r, h => by
    have ih := forL_any (f := f) (s := s) (v := v) p (l := r) fun y hy => h y (List.mem_cons_of_mem _ hy)
    rw [forL_cons, h x List.mem_cons_self, List.any_cons]
    cases p x with
    | true => rfl
    | false => exact ih
theorem any_not {α : Type} (p : α → Bool) : ∀ l : List α, (l.any fun x => !p x) = !l.all p
  | [] => rfl
  | x :: r => by rw [List.any_cons, List.all_cons, any_not p r, Bool.not_and]
theorem go_ifn {T : Type} {k1 : Unit → R T} {k2 : Bool → R T} (b : Bool) : (R.bind (R.ok (if (!b) = true then (LR.ret false : LR Unit Bool) else .nxt ())) fun o => LR.go o k1 k2) = if b = true then k1 () else k2 false := by cases b <;> rfl
def letS (z : Str) : Bool := (chars z).all fun c => inS c "abcdefghijklmnopqrstuvwxyz"
def nameOk (z : Str) : Bool := letS z && (decide ((1 : Int) ≤ (z.length : Int)) && decide ((z.length : Int) ≤ (8 : Int)))
theorem name_yes {z : Str} (hl : z.length ≤ 1000000) : m_is_name z = .ok (nameOk z) := by
  unfold m_is_name nameOk letS
  rw [forL_any (v := false) (fun c => !inS c "abcdefghijklmnopqrstuvwxyz") (fun x _ => by unfold m_is_name_b0; cases inS x _ <;> rfl), any_not, go_ifn]
  cases (chars z).all fun c => inS c "abcdefghijklmnopqrstuvwxyz" with
  | true => exact chk_t (sz_le hl)
  | false => rfl

def sgnS (z : Str) : Bool := (chars z).all fun c => inS c " 0123456789ABCDEFGHIJKLMNOPQRSTUVWXYZ"
theorem iscard_yes {z : Str} (hl : z.length ≤ 1000000) : m_is_card z = .ok (decide ((z.length : Int) = (40 : Int)) && sgnS z) := by
  unfold m_is_card sgnS
  rw [chk_t (sz_le hl)]
  by_cases h : (z.length : Int) = 40
  · rw [decide_eq_true h, if_neg (by decide), forL_any (v := false) (fun c => !inS c " 0123456789ABCDEFGHIJKLMNOPQRSTUVWXYZ") (fun x _ => by unfold m_is_card_b0; cases inS x _ <;> rfl), any_not, go_ifn]
    cases (chars z).all fun c => inS c " 0123456789ABCDEFGHIJKLMNOPQRSTUVWXYZ" with
    | true => rfl
    | false => rfl
  · rw [decide_eq_false h, if_pos (by decide)]; rfl
theorem ljust_l (z : Str) : (Txt.ljust z 40).length = max z.length 40 := by
  rw [len_codes, codes_ljust, List.length_append, List.length_replicate, ← len_codes]
  show z.length + ((40 : Int).toNat - z.length) = _
  have : (40 : Int).toNat = 40 := rfl
  omega
theorem ljust_s (z : Str) : sgnS (Txt.ljust z 40) = sgnS z := by
  unfold sgnS
  rw [chars_codes, chars_codes, codes_ljust, List.map_append, List.all_append]
  have : ((List.replicate ((40 : Int).toNat - z.length) 32).map sg).all (fun c => inS c " 0123456789ABCDEFGHIJKLMNOPQRSTUVWXYZ") = true := by
    rw [List.all_eq_true]
    intro x hx
    obtain ⟨c, hc, rfl⟩ := List.mem_map.mp hx
    rw [(List.mem_replicate.mp hc).2]; decide +kernel
  rw [this, Bool.and_true]
theorem cardof_yes {z : Str} (hl : z.length ≤ 1000000) : m_card_of z = if (decide (z.length ≤ 40) && sgnS z) = true then .ok (Txt.ljust z 40) else .bad := by
  unfold m_card_of
  simp only [vl]
  rw [iscard_yes (by rw [ljust_l]; omega), ljust_s, ljust_l]
  have : decide (((max z.length 40 : Nat) : Int) = (40 : Int)) = decide (z.length ≤ 40) := by
    by_cases h : z.length ≤ 40
    · rw [decide_eq_true h, decide_eq_true]; omega
    · rw [decide_eq_false h, decide_eq_false]; omega
  rw [this]
  cases decide (z.length ≤ 40) && sgnS z with
  | true => rfl
  | false => rfl

/-! ### texts: split, joined, replaced -/
theorem join_S2 (s : Str) (l : List Str) : Txt.join s l = SX.S (TL.joinL (codes s) (l.map codes)) := by
  have := SX.join_S (codes s) (l.map codes)
  rw [map_mk, show SX.S (codes s) = s from mk_codes s] at this
  exact this
theorem codes_join (s : Str) (l : List Str) : codes (Txt.join s l) = TL.joinL (codes s) (l.map codes) := by
  rw [join_S2]; exact codes_mk _
theorem splC_join {c : Nat} : ∀ {ps : List (List Nat)}, ps ≠ [] → (∀ p ∈ ps, c ∉ p) → splC c (TL.joinL [c] ps) = ps
  | [], h, _ => absurd rfl h
  | [p], _, h => splC_out (h p List.mem_cons_self)
  | p :: q :: r, _, h => by
    show splC c (p ++ ([c] ++ TL.joinL [c] (q :: r))) = _
    rw [show [c] ++ TL.joinL [c] (q :: r) = c :: TL.joinL [c] (q :: r) from rfl, splC_app (h p List.mem_cons_self), splC_join (ps := q :: r) (List.cons_ne_nil _ _) fun x hx => h x (List.mem_cons_of_mem _ hx)]
theorem sp_sg : (" " : Str) = sg 32 := by decide +kernel
theorem us_sg : ("_" : Str) = sg 95 := by decide +kernel
theorem split_join1 {l : List Str} (hn : l ≠ []) (h : ∀ x ∈ l, 32 ∉ codes x) : Txt.split (Txt.join " " l) " " = l := by
  rw [sp_sg, split_sg (by decide), codes_join, codes_sg, splC_join (fun e => hn (by simpa using e)) (fun p hp => ?_)]
  · exact map_mk l
  · obtain ⟨x, hx, rfl⟩ := List.mem_map.mp hp
    exact h x hx
theorem swap_join (c d : Nat) : ∀ l : List Nat, TL.joinL [d] (splC c l) = l.map fun e => if e = c then d else e
  | [] => rfl
  | x :: r => by
    have ih := swap_join c d r
    rw [splC_c, List.map_cons]
    by_cases e : x = c
    · rw [if_pos e, if_pos e, ← ih]
      cases h : splC c r with
      | nil => exact absurd h (splC_ne _ _)
      | cons p q => rfl
    · rw [if_neg e, if_neg e, ← ih]
      cases h : splC c r with
      | nil => exact absurd h (splC_ne _ _)
      | cons p q => cases q <;> rfl
theorem joinS_codes {c d : Nat} (hc : c < 256) (z : Str) : codes (Txt.join (sg d) (Txt.split z (sg c))) = (codes z).map fun e => if e = c then d else e := by
  have e : ∀ l : List (List Nat), (l.map mk).map codes = l := fun l => by rw [List.map_map]; exact (List.map_congr_left fun x _ => codes_mk x).trans (List.map_id l)
  rw [split_sg hc, codes_join, codes_sg, e]
  exact swap_join c d _
theorem rep_codes {c d : Nat} (hc : c < 256) (z : Str) : codes (Txt.replace z (sg c) (sg d)) = (codes z).map fun e => if e = c then d else e := by
  have h := PySem.StrLaws.replace_one z (sg d) c
  have h2 : Txt.replace z (sg c) (sg d) = Txt.join (sg d) (Txt.split z (sg c)) := h.trans (PySem.StrLaws.glued_eq_join _ _).symm
  rw [h2]; exact joinS_codes hc z
/-! ### names -/
def LTS : List Nat := [97, 98, 99, 100, 101, 102, 103, 104, 105, 106, 107, 108, 109, 110, 111, 112, 113, 114, 115, 116, 117, 118, 119, 120, 121, 122]
theorem lts_codes : codes "abcdefghijklmnopqrstuvwxyz" = LTS := by decide +kernel
def Nm (z : Str) : Prop := ∃ cs : List Nat, z = mk cs ∧ (∀ c ∈ cs, c ∈ LTS) ∧ 1 ≤ cs.length ∧ cs.length ≤ 8
theorem mk_l (l : List Nat) : (mk l).length = l.length := by rw [len_codes, codes_mk]
theorem Nm.len {z : Str} (h : Nm z) : 1 ≤ z.length ∧ z.length ≤ 8 := by
  obtain ⟨cs, rfl, _, h1, h2⟩ := h
  rw [mk_l]; exact ⟨h1, h2⟩
theorem Nm.ok {z : Str} (h : Nm z) : nameOk z = true := by
  have hl := h.len
  obtain ⟨cs, rfl, hc, _, _⟩ := h
  unfold nameOk letS
  rw [decide_eq_true (by omega : (1 : Int) ≤ ((mk cs).length : Int)), decide_eq_true (by omega : ((mk cs).length : Int) ≤ 8), Bool.and_true, Bool.and_true, List.all_eq_true]
  intro x hx
  rw [chars_codes, codes_mk] at hx
  obtain ⟨c, h, rfl⟩ := List.mem_map.mp hx
  rw [inS_sg, lts_codes]
  exact decide_eq_true (hc c h)
theorem sgs_of {P : Nat → Prop} : ∀ {l : List Str}, (∀ x ∈ l, ∃ c, P c ∧ x = sg c) → ∃ cs : List Nat, l = cs.map sg ∧ (∀ c ∈ cs, P c) ∧ cs.length = l.length
  | [], _ => ⟨[], rfl, (fun _ h => nomatch h), rfl⟩
  | x :: r, h => by
    obtain ⟨c, hc, rfl⟩ := h x List.mem_cons_self
    obtain ⟨cs, rfl, h1, h2⟩ := sgs_of fun y hy => h y (List.mem_cons_of_mem _ hy)
    refine ⟨c :: cs, rfl, fun d hd => ?_, by simp⟩
    rcases List.mem_cons.mp hd with rfl | hd
    · exact hc
    · exact h1 d hd
theorem let_at {i : Int} (h : inR 26 i) (h0 : 0 ≤ i) : ∃ c, c ∈ LTS ∧ chS "abcdefghijklmnopqrstuvwxyz" i = sg c := by
  have l26 : ("abcdefghijklmnopqrstuvwxyz" : Str).length = 26 := by decide +kernel
  obtain ⟨c, hc, e⟩ := chS_mem (z := "abcdefghijklmnopqrstuvwxyz") h0 (by rw [l26]; unfold inR at h; omega)
  rw [lts_codes] at hc
  exact ⟨c, hc, e⟩
theorem modR {x : Int} {n : Nat} (h : 0 < n) : inR n (x % (n : Int)) ∧ 0 ≤ x % (n : Int) := by
  have h1 := Int.emod_nonneg x (show (n : Int) ≠ 0 by omega)
  have h2 := Int.emod_lt_of_pos x (show (0 : Int) < n by omega)
  unfold inR; omega

theorem ltext_yes (n : Int) : Yes (m_law_text n) fun t => t.length = 40 ∧ textOk t := by
  unfold m_law_text
  refine Yes.vl (Yes.vl (Yes.bind (Yes.forR (fun p (s : Str × Int) => s.1.length = p.length ∧ textOk s.1) ⟨by show ("" : Str).length = 0; decide +kernel, fun c h => by rw [show codes ("" : Str) = [] by decide +kernel] at h; exact nomatch h⟩ (fun p x r e s h => ?_) (W := fun s => s.1.length = 40 ∧ textOk s.1) fun s h => ⟨by rw [h.1, rangeL_len]; rfl, h.2⟩) fun s h => Yes.ok h))
  have hp := len_mid e
  rw [rangeL_len] at hp
  have hp : p.length < 40 := hp
  unfold m_law_text_b0
  have h1 := h.1
  exact Yes.chk (sgs_mod _) (Yes.chk (sz_le (by rw [len_chS]; omega)) (Yes.vl (Yes.vl (Yes.ok ⟨by dsimp only; rw [len_app, len_chS, h1, List.length_append]; rfl, text_app h.2 (text_sign (sign_mod _))⟩))))

/-! ### cards and words -/
theorem bits_div {x : Int} {m : Nat} {k : Int} (h : Builtin.Int.intBits x ≤ m) (hk : 0 < k) : Builtin.Int.intBits (x / k) ≤ m := PyProof.Rows.bits_of_natAbs_le (by
  have := Int.natAbs_ediv_le_natAbs x k
  exact this) h
theorem text_rep {n : Nat} {c : Nat} (hc : c ∈ KN) : ∀ x ∈ List.replicate n c, x ∈ KN := fun x hx => by rw [(List.mem_replicate.mp hx).2]; exact hc
theorem fig_kn {c : Nat} (h : 48 ≤ c ∧ c ≤ 57) : c ∈ KN := by
  have : c = 48 ∨ c = 49 ∨ c = 50 ∨ c = 51 ∨ c = 52 ∨ c = 53 ∨ c = 54 ∨ c = 55 ∨ c = 56 ∨ c = 57 := by omega
  rcases this with rfl | rfl | rfl | rfl | rfl | rfl | rfl | rfl | rfl | rfl <;> decide
theorem codes_mul1 {a : Str} {c : Nat} (h : codes a = [c]) (n : Int) : codes (Txt.mul a n) = List.replicate n.toNat c := by
  rw [codes_mul, h]
  induction n.toNat with
  | zero => rfl
  | succ k ih => rw [List.replicate_succ, List.flatten_cons, ih, List.replicate_succ]; rfl
theorem lcard_yes {cell : Int} (hb : Builtin.Int.intBits cell ≤ 1048580) : Yes (m_law_card cell) cardOk := by
  have hb2 := bits_div (k := 2) hb (by decide)
  unfold m_law_card
  refine Yes.ite (fun _ => Yes.chk (IntMulOk.of_le hb2 (n := 1048576) (by decide +kernel) (by decide)) (Yes.chk (by decide) (Yes.bind (ltext_yes _) fun t ht => Yes.ok ht))) fun _ => Yes.chk (IntMulOk.of_le hb2 (n := 1048576) (by decide +kernel) (by decide)) (Yes.chk (by decide) ?_)
  have hm : (0 : Int) < (10 : Int) ^ ((40 : Int)).toNat := by decide +kernel
  generalize (cell / (2 : Int)) * (((7 : Int) + ((3 : Int) * ((10 : Int) ^ ((17 : Int)).toNat))) + ((10 : Int) ^ ((31 : Int)).toNat)) = v
  have n0 := Int.emod_nonneg v (show (10 : Int) ^ ((40 : Int)).toNat ≠ 0 by omega)
  have n1 := Int.emod_lt_of_pos v hm
  have hl := str_len v
  have hd : ∀ c ∈ codes (toStr (v % (10 : Int) ^ ((40 : Int)).toNat)), 48 ≤ c ∧ c ≤ 57 := by
    have := toStr_digits (v % (10 : Int) ^ ((40 : Int)).toNat).toNat
    rw [Int.toNat_of_nonneg n0] at this; exact this
  generalize hw : v % (10 : Int) ^ ((40 : Int)).toNat = w at *
  have k0 := Int.emod_nonneg (cell / 2) (show (5 : Int) ≠ 0 by decide)
  have k1 := Int.emod_lt_of_pos (cell / 2) (show (0 : Int) < 5 by decide)
  have lb : (" " : Str).length = 1 := by decide +kernel
  have lm : (Txt.mul (" " : Str) ((cell / 2) % 5)).length ≤ 4 := by rw [len_mul, lb]; omega
  have lz : (Txt.mul ("0" : Str) (40 : Int)).length = 40 := by rw [len_mul]; decide +kernel
  have hlog : w.natAbs.log2 < 1920 := by
    have : w.natAbs < 2 ^ 1900 := by
      have h10 : (10 : Int) ^ ((40 : Int)).toNat < 2 ^ 1900 := by decide +kernel
      omega
    exact Nat.lt_trans (PySem.Flt.log2_lt_of (by decide) this) (by decide)
  refine Yes.chk hlog (Yes.vl (Yes.chk ⟨by omega, by omega, by rw [lb]; omega⟩ (Yes.chk (sz_le (by omega)) (Yes.chk (sz_le (by rw [len_app]; omega)) (Yes.chk (sz_le (by rw [len_app, len_app]; omega)) (Yes.ok ⟨?_, ?_⟩))))))
  · rw [cut_to_len _ (by decide) (by rw [len_app, len_app]; omega)]; rfl
  · refine text_cut (text_app (text_app ?_ ?_) ?_)
    · intro c hc
      rw [codes_mul1 (c := 32) (by decide +kernel)] at hc
      exact text_rep (by decide) c hc
    · exact fun c hc => fig_kn (hd c hc)
    · intro c hc
      rw [codes_mul1 (c := 48) (by decide +kernel)] at hc
      exact text_rep (by decide) c hc
theorem sp_only : ∀ c ∈ KN, PyProof.Rows.spS ⟨#[c]⟩ = true → c = 32 := by decide +kernel
theorem kn_small : ∀ c ∈ KN, c < 128 ∧ c ≠ 95 := by decide
/-- a text without its last blanks -/
theorem rstrip_kn {t : Str} (h : textOk t) : ∃ k, codes t = codes (Txt.rstrip t) ++ List.replicate k 32 ∧ textOk (Txt.rstrip t) ∧ (Txt.rstrip t).length ≤ t.length := by
  obtain ⟨hi, h1, h2, h3, _⟩ := PyProof.Rows.rstrip_cut (x := t) (fun c hc => (kn_small c (h c hc)).1)
  have e : codes (Txt.rstrip t) = (codes t).take hi := by
    rw [h2]
    show ((t.cps.extract 0 hi).toList) = _
    rw [Array.toList_extract]
    show List.extract (codes t) 0 hi = _
    simp [List.extract]
  have hd : (codes t).drop hi = List.replicate ((codes t).length - hi) 32 := by
    refine List.eq_replicate_iff.mpr ⟨List.length_drop .., fun c hc => ?_⟩
    obtain ⟨i, hil, rfl⟩ := List.getElem_of_mem hc
    rw [List.length_drop] at hil
    rw [List.getElem_drop]
    have h4 := h3 (hi + i) (by omega) (by rw [len_codes]; omega)
    have hsz : t.cps.size = (codes t).length := by simp [codes]
    have e5 : t.cps.getD (hi + i) 0 = (codes t)[hi + i]'(by omega) := by
      rw [Array.getD_eq_getD_getElem?, Array.getElem?_eq_getElem (by omega)]
      simp [codes]
    rw [e5] at h4
    exact sp_only _ (h _ (List.getElem_mem _)) h4
  refine ⟨(codes t).length - hi, ?_, fun c hc => ?_, ?_⟩
  · rw [e, ← hd, List.take_append_drop]
  · rw [e] at hc; exact h c (List.mem_of_mem_take hc)
  · rw [len_codes, len_codes, e, List.length_take]; omega
/-- a word that writes a card -/
structure WordOf (t w : Str) : Prop where
  lo : 1 ≤ w.length
  hi : w.length ≤ 40
  nb : 32 ∉ codes w
  ok : textOk (Txt.replace w "_" " ")
  eq : Txt.ljust (Txt.replace w "_" " ") 40 = t
theorem word_of {t z : Str} (ht : cardOk t) (hz : textOk z) (h1 : 1 ≤ z.length) (h2 : z.length ≤ 40) (he : codes t = codes z ++ List.replicate (40 - z.length) 32) : Yes (m_law_word_j0 z) (WordOf t) := by
  have hne := splC_ne 32 (codes z)
  have e1 : codes (Txt.join "_" (Txt.split z " ")) = (codes z).map fun e => if e = 32 then 95 else e := by rw [us_sg, sp_sg, joinS_codes (by decide)]
  have e2 : codes (Txt.replace (Txt.join "_" (Txt.split z " ")) "_" " ") = codes z := by
    rw [us_sg, sp_sg, rep_codes (by decide), ← us_sg, ← sp_sg, e1, List.map_map]
    conv => rhs; rw [← List.map_id (codes z)]
    refine List.map_congr_left fun c hc => ?_
    have := (kn_small c (hz c hc)).2
    show (if (if c = 32 then 95 else c) = 95 then 32 else (if c = 32 then 95 else c)) = c
    by_cases q : c = 32
    · rw [if_pos q]; exact q.symm
    · rw [if_neg q, if_neg this]
  have e3 : Txt.replace (Txt.join "_" (Txt.split z " ")) "_" " " = z := codes_inj e2
  unfold m_law_word_j0
  refine Yes.chk (sz_le (by omega)) (Yes.chk ?_ (Yes.ok ⟨?_, ?_, ?_, ?_, ?_⟩))
  · have hs : ∀ l : List (List Nat), (∀ p ∈ l, p.length ≤ 40) → ∀ x ∈ l.map mk, x.length ≤ 40 := fun l hl x hx => by
      obtain ⟨p, hp, rfl⟩ := List.mem_map.mp hx
      rw [len_codes, codes_mk]; exact hl p hp
    have hb : ∀ l : List Nat, (splC 32 l).length ≤ l.length + 1 ∧ ∀ p ∈ splC 32 l, p.length ≤ l.length := by
      intro l
      induction l with
      | nil => exact ⟨Nat.le_refl _, fun p hp => by rw [show splC 32 [] = [[]] from rfl, List.mem_singleton] at hp; rw [hp]; exact Nat.le_refl _⟩
      | cons x r ih =>
        obtain ⟨i1, i2⟩ := ih
        rw [splC_c]
        by_cases q : x = 32
        · rw [if_pos q]
          refine ⟨by rw [List.length_cons, List.length_cons]; omega, fun p hp => ?_⟩
          rcases List.mem_cons.mp hp with rfl | hp
          · exact Nat.zero_le _
          · have := i2 p hp; rw [List.length_cons]; omega
        · rw [if_neg q]
          cases e : splC 32 r with
          | nil => exact absurd e (splC_ne _ _)
          | cons p ps =>
            rw [e] at i1 i2
            refine ⟨by simp only [List.length_cons] at i1 ⊢; omega, fun y hy => ?_⟩
            rcases List.mem_cons.mp hy with rfl | hy
            · have := i2 p List.mem_cons_self; simp only [List.length_cons]; omega
            · have := i2 y (List.mem_cons_of_mem _ hy); rw [List.length_cons]; omega
    obtain ⟨b1, b2⟩ := hb (codes z)
    have hcz : (codes z).length ≤ 40 := by rw [← len_codes]; exact h2
    rw [sp_sg, split_sg (by decide)]
    refine join_ok (n := 40) (hs _ fun p hp => Nat.le_trans (b2 p hp) hcz) ?_
    rw [List.length_map, show ("_" : Str).length = 1 by decide +kernel]; omega
  · rw [len_codes, e1, List.length_map, ← len_codes]; exact h1
  · rw [len_codes, e1, List.length_map, ← len_codes]; exact h2
  · rw [e1]
    intro hm
    obtain ⟨c, _, hc⟩ := List.mem_map.mp hm
    by_cases q : c = 32
    · rw [if_pos q] at hc; cases hc
    · rw [if_neg q] at hc; exact q hc
  · rw [e3]; exact hz
  · rw [e3]
    apply codes_inj
    rw [codes_ljust, he]; rfl
theorem lword_yes {t : Str} (ht : cardOk t) (b : Bool) : Yes (m_law_word t b) (WordOf t) := by
  have hl := ht.1
  unfold m_law_word
  refine Yes.bind (P := fun z => textOk z ∧ 1 ≤ z.length ∧ z.length ≤ 40 ∧ codes t = codes z ++ List.replicate (40 - z.length) 32) (Yes.ite (fun _ => Yes.chk (sz_le (by omega)) (Yes.vli fun z hz => ?_)) fun _ => Yes.ok ⟨ht.2, by omega, by omega, by rw [hl]; simp⟩) fun z hz => word_of ht hz.1 hz.2.1 hz.2.2.1 hz.2.2.2
  obtain ⟨k, k1, k2, k3⟩ := rstrip_kn ht.2
  rw [← hz] at k1 k2 k3
  have hlen := congrArg List.length k1
  rw [List.length_append, List.length_replicate, ← len_codes, ← len_codes, hl] at hlen
  refine Yes.itb (fun e => Yes.vl (Yes.ok ?_)) fun e => Yes.ok ⟨k2, ?_, by omega, by rw [k1]; congr 2; omega⟩
  · have e : z = "" := of_decide_eq_true e
    have z0 : z.length = 0 := by rw [e]; decide +kernel
    refine ⟨fun c hc => ?_, by decide +kernel, by decide +kernel, ?_⟩
    · rw [sp_sg, codes_sg, List.mem_singleton] at hc; rw [hc]; decide
    · rw [k1, e, show codes ("" : Str) = [] by decide +kernel, sp_sg, codes_sg, show (sg 32).length = 1 from rfl, show k = 40 by omega]; rfl
  · have e : ¬ z = "" := of_decide_eq_false e
    refine Nat.one_le_iff_ne_zero.mpr fun z0 => e (codes_inj ?_)
    rw [len_codes] at z0
    rw [List.length_eq_zero_iff.mp z0]; decide +kernel

/-! ### the names -/
theorem lnames_yes (cell place : Int) : Yes (m_law_names cell place) fun l => l.length = 4 ∧ ∀ n ∈ l, Nm n := by
  have m8 := modR (x := cell) (n := 8) (by decide)
  have g8 : 0 ≤ cell % 8 ∧ cell % 8 < 8 := by have := m8.1; unfold inR at this; have := m8.2; omega
  have l26 : ("abcdefghijklmnopqrstuvwxyz" : Str).length = 26 := by decide +kernel
  have hk : ∀ k ∈ rangeL 0 ((1 : Int) + (cell % 8)).toNat, 0 ≤ k ∧ k < 8 := fun k hk => by have := rangeL_mem hk; omega
  unfold m_law_names
  refine Yes.vl (Yes.chk ⟨by omega, by omega⟩ (Yes.chk (sz_lt (by rw [rangeL_len]; omega)) (Yes.chk (fun k h => ?_) (Yes.chk (fun k h => mulL (by have := hk k h; omega)) (Yes.vli fun base hbase => ?_)))))
  · have := hk k h
    refine ⟨by omega, ?_⟩
    have h9 : (k + 1).natAbs ≤ 8 := by omega
    exact Nat.lt_of_le_of_lt (Nat.log2_le_self _) (by omega)
  have hlb : base.length = (1 + cell % 8).toNat := by rw [hbase, List.length_map, rangeL_len]
  have hbm : ∀ x ∈ base, 0 ≤ x ∧ x < 26 := fun x hx => by
    rw [hbase] at hx
    obtain ⟨k, _, rfl⟩ := List.mem_map.mp hx
    exact ⟨Int.emod_nonneg _ (by decide), Int.emod_lt_of_pos _ (by decide)⟩
  have ha := modR (x := place) (n := base.length) (by omega)
  have ha1 := ha.1
  unfold inR at ha1
  refine Yes.chk (by omega) (Yes.vli fun at_ hat => Yes.vl (Yes.bind (Yes.forR (fun p (l : List Str) => l.length = p.length ∧ ∀ n ∈ l, Nm n) ⟨rfl, fun _ h => nomatch h⟩ (fun p x r e l hl => ?_) (W := fun l => l.length = 4 ∧ ∀ n ∈ l, Nm n) fun l h => ⟨by rw [h.1, rangeL_len]; rfl, h.2⟩) fun l h => Yes.ok h))
  rw [← hat] at ha ha1
  obtain ⟨hx, hp⟩ := range_mid e
  have hp : p.length < 4 := hp
  have q0 := Int.emod_nonneg (place / 8) (show (5 : Int) ≠ 0 by decide)
  have q1 := Int.emod_lt_of_pos (place / 8) (show (0 : Int) < 5 by decide)
  have c1 := cutL_len_le base none (some at_)
  have c2 := cutL_len_le base (some (at_ + 1)) none
  unfold m_law_names_b0
  refine Yes.chk ha.1 (Yes.chk (mulL (by omega)) (Yes.vli fun ot hot => Yes.chk (sz_le (by rw [List.length_singleton]; omega)) (Yes.chk (sz_le (by rw [List.length_append, List.length_singleton]; omega)) (Yes.vli fun some_ hsome => ?_))))
  have hot2 : 0 ≤ ot ∧ ot < 26 := by rw [hot]; exact ⟨Int.emod_nonneg _ (by decide), Int.emod_lt_of_pos _ (by decide)⟩
  have hsm : ∀ x ∈ some_, 0 ≤ x ∧ x < 26 := fun x hx => by
    rw [hsome] at hx
    rcases List.mem_append.mp hx with hx | hx
    · rcases List.mem_append.mp hx with hx | hx
      · exact hbm x (cutL_mem hx)
      · rw [List.mem_singleton] at hx; rw [hx]; exact hot2
    · exact hbm x (cutL_mem hx)
  have hsl : 1 ≤ some_.length ∧ some_.length ≤ 8 := by
    have d1 : (cutL base none (some at_)).length = at_.toNat := by rw [cutL_to (by omega), List.length_take]; omega
    have d2 : (cutL base (some (at_ + 1)) none).length = base.length - (at_ + 1).toNat := by rw [cutL_from (by omega), List.length_drop]
    rw [hsome, List.length_append, List.length_append, List.length_singleton, d1, d2]; omega
  obtain ⟨cs, e1, e2, e3⟩ := sgs_of (P := fun c => c ∈ LTS) (l := some_.map fun k => chS "abcdefghijklmnopqrstuvwxyz" k) fun y hy => by
    obtain ⟨k, hk, rfl⟩ := List.mem_map.mp hy
    have := hsm k hk
    exact let_at (by unfold inR; omega) this.1
  rw [List.length_map] at e3
  refine Yes.chk (sz_lt (by omega)) (Yes.chk (fun k hk => ⟨sz_le (by omega), by have := hsm k hk; rw [l26]; unfold inR; omega⟩) (Yes.chk ?_ (Yes.chk (sz_lt (by omega)) (Yes.vl (Yes.ok ⟨by rw [List.length_append, List.length_append, hl.1]; rfl, fun n hn => ?_⟩)))))
  · rw [e1]
    exact join_ok (n := 1) (fun x hx => by obtain ⟨c, _, rfl⟩ := List.mem_map.mp hx; exact Nat.le_refl _) (by rw [List.length_map, show ("" : Str).length = 0 by decide +kernel]; omega)
  · rcases List.mem_append.mp hn with hn | hn
    · exact hl.2 n hn
    · rw [List.mem_singleton] at hn
      rw [hn, e1, join_sg]
      exact ⟨cs, rfl, e2, by omega, by omega⟩
theorem Nm.nb {z : Str} (h : Nm z) : 32 ∉ codes z := by
  obtain ⟨cs, rfl, hc, _, _⟩ := h
  rw [codes_mk]
  exact fun h => absurd (hc 32 h) (by decide)
theorem Nm.ne {z : Str} (h : Nm z) : ¬ ("" : Str) = z := fun e => by
  have := h.len
  rw [← e] at this
  exact absurd this.1 (by decide +kernel)

/-! ### the desk -/
abbrev DD := Dct Str (List Str)
theorem readcards_yes : ∀ {ws ts : List Str}, Paired (fun w t => WordOf t w ∧ cardOk t) ws ts → ∀ d : List Str, d.length + ws.length ≤ 1000 → forR (fun (s_ : (List Str)) (q_ : Str) => m_read_cards_b0 s_ q_) d ws = .ok (d ++ ts)
  | _, _, .nil, d, _ => by rw [List.append_nil]; rfl
  | w :: ws, t :: ts, .cons h r, d, hd => by
    rw [List.length_cons] at hd
    obtain ⟨h, ht⟩ := h
    have l1 : (" " : Str).length = 1 := by decide +kernel
    have hhi := h.hi
    have hlen : (Txt.replace w "_" " ").length = w.length := by rw [us_sg, sp_sg, len_codes, rep_codes (by decide), List.length_map, ← len_codes]
    have e : m_read_cards_b0 d w = .ok (d ++ [t]) := by
      unfold m_read_cards_b0
      rw [chk_t (sz_le (by omega)), if_neg (by rw [decide_eq_true_eq]; omega), chk_t (by rw [l1]; have := Nat.mul_le_mul_left w.length (show w.length + 1 ≤ 41 by omega); omega), cardof_yes (by omega), if_pos]
      · show chk _ _ = _
        rw [chk_t (sz_lt (by omega)), h.eq]; rfl
      · have hs : sgnS (Txt.replace w "_" " ") = true := by
          unfold sgnS
          rw [List.all_eq_true]
          intro x hx
          obtain ⟨c, hc, rfl⟩ := mem_chars hx
          rw [inS_sg, sgs_codes]; exact decide_eq_true (h.ok c hc)
        rw [hs, decide_eq_true (by omega)]; rfl
    rw [forR_cons, e]
    show forR _ (d ++ [t]) ws = _
    rw [readcards_yes r (d ++ [t]) (by rw [List.length_append, List.length_singleton]; omega), List.append_assoc]; rfl
theorem lit_deck : codes ("deck" : Str) = [100, 101, 99, 107] ∧ codes ("show" : Str) = [115, 104, 111, 119] ∧ codes ("drop" : Str) = [100, 114, 111, 112] ∧ codes ("show " : Str) = [115, 104, 111, 119, 32] ∧ codes ("drop " : Str) = [100, 114, 111, 112, 32] ∧ codes ("" : Str) = [] := by decide +kernel
theorem row_two {w : Str} {n : Str} (hw : w = "show" ∨ w = "drop") (hn : Nm n) : (w ++ " ") ++ n = Txt.join " " [w, n] ∧ Txt.split ((w ++ " ") ++ n) " " = [w, n] := by
  have e : (w ++ " ") ++ n = Txt.join " " [w, n] := by
    apply codes_inj
    rw [codes_app, codes_app, codes_join, sp_sg, codes_sg, List.append_assoc]; rfl
  refine ⟨e, ?_⟩
  rw [e, split_join1 (by simp)]
  intro x hx
  rcases List.mem_cons.mp hx with rfl | hx
  · rcases hw with rfl | rfl
    · rw [lit_deck.2.1]; decide
    · rw [lit_deck.2.2.1]; decide
  · rw [List.mem_singleton] at hx; rw [hx]; exact hn.nb
theorem isrow_two {w n : Str} (hw : w = "show" ∨ w = "drop") (hn : Nm n) : m_is_row [w, n] = .ok true := by
  unfold m_is_row
  have h1 : ¬ ("" : Str) ∈ [w, n] := fun h => by
    rcases List.mem_cons.mp h with e | h
    · rcases hw with rfl | rfl
      · exact absurd (congrArg codes e) (by rw [lit_deck.2.2.2.2.2, lit_deck.2.1]; decide)
      · exact absurd (congrArg codes e) (by rw [lit_deck.2.2.2.2.2, lit_deck.2.2.1]; decide)
    · rw [List.mem_singleton] at h; exact hn.ne h
  rw [decide_eq_false h1, if_neg (by decide), chk_t (by unfold inR; simp)]
  show (if (decide (w = "show") || decide (w = "drop")) = true then R.ok (decide ((2 : Int) = 2)) else _) = _
  rw [if_pos (by rcases hw with rfl | rfl <;> simp)]; rfl
theorem ne_dk : ¬ ("show" : Str) = "deck" ∧ ¬ ("drop" : Str) = "deck" ∧ ¬ ("drop" : Str) = "show" ∧ ¬ ("deck" : Str) = "show" ∧ ¬ ("deck" : Str) = "drop" ∧ ¬ ("deck" : Str) = "pour" ∧ ¬ ("deck" : Str) = "copy" := by decide +kernel
theorem there_yes (D : Desk) (n : Str) : m_Desk_there D n = if n ∈ D.trays.kv.map (·.1) then .ok n else .ex .NoTray := by
  unfold m_Desk_there
  by_cases h : n ∈ D.trays.kv.map (·.1)
  · rw [if_pos h, decide_eq_true h]; rfl
  · rw [if_neg h, decide_eq_false h]; rfl
theorem show_pre : ("show " : Str) = "show" ++ " " := codes_inj (by rw [codes_app, sp_sg, codes_sg, lit_deck.2.1, lit_deck.2.2.2.1]; rfl)
theorem drop_pre : ("drop " : Str) = "drop" ++ " " := codes_inj (by rw [codes_app, sp_sg, codes_sg, lit_deck.2.2.1, lit_deck.2.2.2.2.1]; rfl)
theorem say_show {D : Desk} {n : Str} (hn : Nm n) : m_Desk_say D ("show " ++ n) = if n ∈ D.trays.kv.map (·.1) then .ok (D, dAt D.trays n) else .ex .NoTray := by
  have hl := hn.len
  obtain ⟨r1, r2⟩ := row_two (w := "show") (.inl rfl) hn
  have l5 : ("show " : Str).length = 5 := by decide +kernel
  unfold m_Desk_say
  refine chk_eq (sz_le (by rw [len_app]; omega)) ?_
  rw [show_pre, r2]
  refine vl_eq (bind_eq (nx_eq (isrow_two (.inl rfl) hn)) (ite_eqF (by decide) (chk_eq (by unfold inR; simp) (vl_eq (ite_eqF (by show ¬ decide (("show" : Str) = "deck") = true; simpa using ne_dk.1) (ite_eqT (by show decide (("show" : Str) = "show") = true; simp) (chk_eq (by unfold inR; simp) ?_)))))))
  show R.bind (m_Desk_there D n).np _ = _
  rw [there_yes]
  by_cases h : n ∈ D.trays.kv.map (·.1)
  · rw [if_pos h, if_pos h]
    exact chk_t h
  · rw [if_neg h, if_neg h]; rfl
theorem say_drop {D : Desk} {n : Str} (hn : Nm n) : m_Desk_say D ("drop " ++ n) = if n ∈ D.trays.kv.map (·.1) then .ok (⟨⟨dDrop D.trays.kv n⟩⟩, []) else .ex .NoTray := by
  have hl := hn.len
  obtain ⟨r1, r2⟩ := row_two (w := "drop") (.inr rfl) hn
  have l5 : ("drop " : Str).length = 5 := by decide +kernel
  unfold m_Desk_say
  refine chk_eq (sz_le (by rw [len_app]; omega)) ?_
  rw [drop_pre, r2]
  refine vl_eq (bind_eq (nx_eq (isrow_two (.inr rfl) hn)) (ite_eqF (by decide) (chk_eq (by unfold inR; simp) (vl_eq (ite_eqF (by show ¬ decide (("drop" : Str) = "deck") = true; simpa using ne_dk.2.1) (ite_eqF (by show ¬ decide (("drop" : Str) = "show") = true; simpa using ne_dk.2.2.1) (ite_eqT (by show decide (("drop" : Str) = "drop") = true; simp) (chk_eq (by unfold inR; simp) ?_))))))))
  show R.bind (m_Desk_there D n).np _ = _
  rw [there_yes]
  by_cases h : n ∈ D.trays.kv.map (·.1)
  · rw [if_pos h, if_pos h]
    exact chk_t h
  · rw [if_neg h, if_neg h]; rfl
theorem say_deck {D : Desk} {n : Str} {ws ts : List Str} (hn : Nm n) (hp : Paired (fun w t => WordOf t w ∧ cardOk t) ws ts) (hs : D.trays.kv.length < 1000) (hw : ws.length ≤ 900) : m_Desk_say D (Txt.join " " ([("deck" : Str), n] ++ ws)) = .ok (⟨⟨dPut D.trays.kv n ts⟩⟩, []) := by
  have hl := hn.len
  have hwm : ∀ w ∈ ws, 1 ≤ w.length ∧ w.length ≤ 40 ∧ 32 ∉ codes w := by
    clear hw hs
    induction hp with
    | nil => exact fun _ h => nomatch h
    | cons h _ ih =>
      intro w hm
      rcases List.mem_cons.mp hm with rfl | hm
      · exact ⟨h.1.lo, h.1.hi, h.1.nb⟩
      · exact ih w hm
  have ld : ("deck" : Str).length = 4 := by decide +kernel
  have all : ∀ x ∈ [("deck" : Str), n] ++ ws, x.length ≤ 40 ∧ 32 ∉ codes x ∧ ¬ ("" : Str) = x := fun x hx => by
    rcases List.mem_append.mp hx with hx | hx
    · rcases List.mem_cons.mp hx with rfl | hx
      · exact ⟨by omega, by rw [lit_deck.1]; decide, fun e => absurd (congrArg codes e) (by rw [lit_deck.2.2.2.2.2, lit_deck.1]; decide)⟩
      · rw [List.mem_singleton] at hx; rw [hx]; exact ⟨by omega, hn.nb, hn.ne⟩
    · have h := hwm x hx
      exact ⟨h.2.1, h.2.2, fun e => by rw [← e] at h; exact absurd h.1 (by decide +kernel)⟩
  have jl := join_len (a := " ") fun x hx => (all x hx).1
  rw [show (" " : Str).length = 1 by decide +kernel, List.length_append] at jl
  simp only [List.length_cons, List.length_nil] at jl
  have g0 : getI ([("deck" : Str), n] ++ ws) 0 = "deck" := getI_eq (by decide) rfl
  have g1 : getI ([("deck" : Str), n] ++ ws) 1 = n := getI_eq (by decide) rfl
  have hr : m_is_row ([("deck" : Str), n] ++ ws) = .ok true := by
    unfold m_is_row
    have l0 : ([("deck" : Str), n] ++ ws).length = 2 + ws.length := by rw [List.length_append]; rfl
    rw [g0]
    refine ite_eqF (by rw [decide_eq_false (fun h => (all _ h).2.2 rfl)]; decide) (chk_eq (by rw [l0]; unfold inR; omega) (vl_eq (ite_eqF ?_ (ite_eqF ?_ (ite_eqF ?_ ?_)))))
    · show ¬ (decide (("deck" : Str) = "show") || decide (("deck" : Str) = "drop")) = true
      rw [decide_eq_false ne_dk.2.2.2.1, decide_eq_false ne_dk.2.2.2.2.1]; decide
    · show ¬ decide (("deck" : Str) = "pour") = true
      simpa using ne_dk.2.2.2.2.2.1
    · show ¬ decide (("deck" : Str) = "copy") = true
      simpa using ne_dk.2.2.2.2.2.2
    · show R.bind (if decide (("deck" : Str) ∈ [("deck" : Str), ("ask" : Str), ("read" : Str), ("plan" : Str)]) = true then R.ok (decide ((1 : Int) < (([("deck" : Str), n] ++ ws).length : Int))) else R.ok false) (fun t => R.ok t) = _
      rw [decide_eq_true (show ("deck" : Str) ∈ [("deck" : Str), ("ask" : Str), ("read" : Str), ("plan" : Str)] from List.mem_cons_self), if_pos rfl, R.bind_ok]
      congr 1
      apply decide_eq_true
      rw [l0]; omega
  have hnn : m_new_name n = .ok n := by
    unfold m_new_name
    rw [name_yes (by omega), hn.ok]; rfl
  have hrc : m_read_cards ws = .ok ts := by
    unfold m_read_cards
    show R.bind (forR _ [] ws) _ = _
    rw [readcards_yes hp [] (by simp; omega)]; rfl
  have hcut : cutL ([("deck" : Str), n] ++ ws) (some 2) none = ws := by rw [cutL_from (by decide)]; rfl
  have l0 : ([("deck" : Str), n] ++ ws).length = 2 + ws.length := by rw [List.length_append]; rfl
  unfold m_Desk_say
  refine chk_eq (sz_le (by omega)) ?_
  rw [split_join1 (by simp) fun x hx => (all x hx).2.1]
  refine vl_eq (bind_eq (nx_eq hr) (ite_eqF (by decide) (chk_eq (by rw [l0]; unfold inR; omega) (vl_eq (ite_eqT (by rw [g0]; simp) (chk_eq (by rw [l0]; unfold inR; omega) (bind_eq (a := n) (by rw [g1]; exact hnn) ?_)))))))
  rw [hcut]
  refine bind_eq (nx_eq hrc) ?_
  exact chk_t (sz_lt (by omega))
theorem kinds_yes : m_law_kinds_NoTray = .ok true := by
  unfold m_law_kinds_NoTray
  refine Yes.eq (Yes.vl (Yes.chk (by decide) (Yes.vl (Yes.ok ?_))))
  decide
theorem notray_yes {D : Desk} {r : Str} (h : m_Desk_say D r = .ex .NoTray) : m_law_no_tray D r = .ok (D, true) := by
  unfold m_law_no_tray
  show R.tr (R.bind (m_Desk_say D r) _) _ _ = _
  rw [h]
  show R.bind m_law_kinds_NoTray _ = _
  rw [kinds_yes]; rfl
/-- the state: desk and trays agree -/
structure OK (n : Nat) (D : Desk) (t : DD) : Prop where
  eq : D.trays = t
  sz : t.kv.length ≤ n
  en : ∀ e ∈ t.kv, e.2.length ≤ 3
def HOK (n : Nat) (h : List (List Str × List Str)) : Prop := h.length ≤ n ∧ ∀ p ∈ h, p.1 = p.2
theorem HOK.mono {n m : Nat} {h : List (List Str × List Str)} (k : HOK n h) (l : n ≤ m) : HOK m h := ⟨Nat.le_trans k.1 l, k.2⟩
theorem OK.mono {n m : Nat} {D : Desk} {t : DD} (k : OK n D t) (l : n ≤ m) : OK m D t := ⟨k.eq, Nat.le_trans k.sz l, k.en⟩
abbrev After (n : Nat) (r : ((Desk × DD) × List (List Str × List Str)) × Bool) : Prop := r.2 = true ∧ OK n r.1.1.1 r.1.1.2 ∧ HOK n r.1.2
theorem at_len {t : DD} {n : Str} {m : Nat} (he : ∀ e ∈ t.kv, e.2.length ≤ m) (h : n ∈ t.kv.map (·.1)) : (dAt t n).length ≤ m := by
  have hs : (dGet t.kv n).isSome = true := by rw [dGet_isSome]; exact decide_eq_true h
  unfold dAt
  cases e : dGet t.kv n with
  | none => rw [e] at hs; cases hs
  | some a => exact he _ (dGet_mem e)
theorem shown_yes {D : Desk} {t : DD} {n : Str} {h : List (List Str × List Str)} {m : Nat} (hn : Nm n) (k : OK m D t) (kh : HOK m h) (hm : m ≤ 200) : Yes (m_law_shown D t n h) (After (m + 1)) := by
  obtain ⟨ke, ks, kn⟩ := k
  have hl := hn.len
  have l5 : ("show " : Str).length = 5 := by decide +kernel
  unfold m_law_shown
  by_cases c : n ∈ t.kv.map (·.1)
  · rw [decide_eq_true c]
    have hd := at_len kn c
    have e := say_show (D := D) hn
    rw [ke, if_pos c] at e
    refine Yes.iteF (by decide) (Yes.chk (sz_le (by omega)) (Yes.bindE (nx_eq e) (Yes.chk (fun _ => c) (Yes.iteF (by simp) ?_))))
    dsimp only
    have hloop : forL (fun (s_ : Unit) (q_ : Str) => m_law_shown_b0 q_) () (dAt t n) = .ok (.nxt ()) := forL_all fun x _ => rfl
    rw [hloop]
    refine Yes.chk (sz_lt (by omega)) (Yes.vl (Yes.chk (sz_lt (by have := kh.1; omega)) (Yes.vl (Yes.ok ⟨rfl, ⟨ke, Nat.le_succ_of_le ks, kn⟩, ?_, fun p hp => ?_⟩))))
    · rw [List.length_append]; have := kh.1; simp only [List.length_cons, List.length_nil]; omega
    · rcases List.mem_append.mp hp with hp | hp
      · exact kh.2 p hp
      · rw [List.mem_singleton] at hp; rw [hp]
  · rw [decide_eq_false c]
    have e := say_show (D := D) hn
    rw [ke, if_neg c] at e
    exact Yes.iteT (by decide) (Yes.chk (sz_le (by omega)) (Yes.bindE (notray_yes e) (Yes.ok ⟨rfl, ⟨ke, Nat.le_succ_of_le ks, kn⟩, kh.mono (Nat.le_succ _)⟩)))
theorem drop_en {t : DD} {n : Str} {m : Nat} (h : ∀ e ∈ t.kv, e.2.length ≤ m) : (dDrop t.kv n).length ≤ t.kv.length ∧ ∀ e ∈ dDrop t.kv n, e.2.length ≤ m := ⟨List.length_filter_le _ _, fun e he => h e (List.mem_filter.mp he).1⟩
theorem put_en {t : DD} {n : Str} {a : List Str} {m : Nat} (h : ∀ e ∈ t.kv, e.2.length ≤ m) (ha : a.length ≤ m) : ∀ e ∈ dPut t.kv n a, e.2.length ≤ m := fun e he => by
  unfold dPut at he
  split at he
  · obtain ⟨q, hq, rfl⟩ := List.mem_map.mp he
    by_cases c : q.1 = n
    · rw [if_pos c]; exact ha
    · rw [if_neg c]; exact h q hq
  · rcases List.mem_append.mp he with he | he
    · exact h e he
    · rw [List.mem_singleton] at he; rw [he]; exact ha
theorem paired_snoc {α β : Type} {F : α → β → Prop} {l : List α} {m : List β} {a : α} {b : β} (p : Paired F l m) (h : F a b) : Paired F (l ++ [a]) (m ++ [b]) := Paired.pApp p (.cons h .nil)

theorem words_hi : ∀ {ws ts : List Str}, Paired (fun w t => WordOf t w ∧ cardOk t) ws ts → ∀ w ∈ ws, w.length ≤ 40
  | _, _, .nil, _, h => nomatch h
  | _, _, .cons h r, w, hm => by
    rcases List.mem_cons.mp hm with rfl | hm
    · exact h.1.hi
    · exact words_hi r w hm
theorem said_deck_ {D : Desk} {t : DD} {n : Str} {cell : Int} {h : List (List Str × List Str)} {m : Nat} (hn : Nm n) (hb : Builtin.Int.intBits cell ≤ 1048576) (k : OK m D t) (kh : HOK m h) (hm : m ≤ 200) : Yes (vl ((cell / (16 : Int)) % (4 : Int)) fun many_57 => (
  chk (-(2 ^ 62) ≤ many_57 ∧ many_57 < 2 ^ 62) (
chk ((rangeL 0 (many_57).toNat).length < sizeLine) (
R.bind (lcR (fun (k_60 : Int) => (
chk (IntMulOk k_60 (k_60 + (977 : Int))) (
R.bind (m_law_card ((cell / (64 : Int)) + (k_60 * (k_60 + (977 : Int))))) fun r64 => (
.ok (some r64))))) (rangeL 0 (many_57).toNat)) fun r66 => (
  chk (r66.length < sizeLine) (
R.bind (lcR (fun (text_here_88 : Str) => (
chk (text_here_88.length ≤ sizeLine) (
chk ((Txt.rstrip text_here_88).length ≤ sizeLine) (
R.bind (m_law_word text_here_88 (decide ((((cell / (64 : Int)) + (((Txt.rstrip text_here_88)).length : Int)) % (2 : Int)) = (0 : Int)))) fun r93 => (
.ok (some r93)))))) r66) fun r95 => (
  chk (t.kv.length < sizeLine) (
vl (⟨dPut (t).kv n r66⟩ : (Dct Str (List Str))) fun trays_125 => (
  chk ([("deck" : Str), n].length + r95.length ≤ sizeLine) (
chk ((([("deck" : Str), n] ++ r95).map (·.length)).sum + ([("deck" : Str), n] ++ r95).length * (" " : Str).length ≤ 16777216) (
R.bind (m_Desk_say D (Txt.join (" " : Str) ([("deck" : Str), n] ++ r95))).nx fun r129 => (
.ok (((r129.1, trays_125), h), (decide ((r129.2 : (List Str)) = ([] : (List Str))))))))))))))))) (After (m + 1)) := by
  have m0 := Int.emod_nonneg (cell / 16) (show (4 : Int) ≠ 0 by decide)
  have m1 := Int.emod_lt_of_pos (cell / 16) (show (0 : Int) < 4 by decide)
  refine Yes.vli fun many hmany => ?_
  rw [← hmany] at m0 m1
  have hnl := hn.len
  have ks := k.sz
  have ld : ("deck" : Str).length = 4 := by decide +kernel
  refine Yes.chk (by omega) (Yes.chk (sz_lt (by rw [rangeL_len]; omega)) (Yes.bind (Yes.lcR (fun p (d : List Str) => d.length = p.length ∧ deckOk d) ⟨rfl, deck_nil⟩ (fun p x r e d hd => ?_) (W := fun d => d.length ≤ 3 ∧ deckOk d) fun d hd => ⟨by rw [hd.1, rangeL_len]; omega, hd.2⟩) fun d hd => ?_))
  · obtain ⟨hx, hp⟩ := range_mid e
    have hb6 := bits_div (k := 64) hb (by decide)
    have hx3 : 0 ≤ x ∧ x < 3 := by omega
    have hb7 : Builtin.Int.intBits (x * (x + 977)) ≤ 20 := by
      have : x = 0 ∨ x = 1 ∨ x = 2 := by omega
      rcases this with rfl | rfl | rfl <;> decide +kernel
    refine Yes.chk (mulL (by omega)) (Yes.bind (lcard_yes (Nat.le_trans (PyProof.Rows.bits_add hb6 hb7) (by decide))) fun c hc => Yes.ok ⟨?_, deck_app hd.2 hc⟩)
    show (d ++ [c]).length = _
    rw [List.length_append, List.length_append, hd.1]; rfl
  · obtain ⟨d3, dok⟩ := hd
    refine Yes.chk (sz_lt (by omega)) (Yes.bind (Yes.lcR (fun p (ws : List Str) => Paired (fun w t => WordOf t w ∧ cardOk t) ws p) .nil (fun p x r e ws hws => ?_) (W := fun ws => Paired (fun w t => WordOf t w ∧ cardOk t) ws d) fun _ h => h) fun ws hws => ?_)
    · have hx := dok x (mem_mid e)
      obtain ⟨_, _, _, hrl⟩ := rstrip_kn hx.2
      have hx1 := hx.1
      exact Yes.chk (sz_le (by omega)) (Yes.chk (sz_le (by omega)) (Yes.bind (lword_yes hx _) fun w hw => Yes.ok (paired_snoc hws ⟨hw, hx⟩)))
    · have hwl := hws.pLen
      have e := say_deck (D := D) (n := n) hn hws (by rw [k.eq]; omega) (by omega)
      rw [k.eq] at e
      have hall : ∀ x ∈ [("deck" : Str), n] ++ ws, x.length ≤ 40 := by
        intro x hx
        rcases List.mem_append.mp hx with hx | hx
        · rcases List.mem_cons.mp hx with rfl | hx
          · omega
          · rw [List.mem_singleton] at hx; rw [hx]; omega
        · exact words_hi hws x hx
      refine Yes.chk (sz_lt (by omega)) (Yes.vl (Yes.chk (sz_le (by simp only [List.length_cons, List.length_nil]; omega)) (Yes.chk (join_ok (n := 40) hall ?_) (Yes.bindE (nx_eq e) (Yes.ok ⟨by simp, ⟨rfl, ?_, put_en k.en d3⟩, kh.mono (by omega)⟩)))))
      · rw [List.length_append, show (" " : Str).length = 1 by decide +kernel]; simp only [List.length_cons, List.length_nil]; omega
      · exact Nat.le_trans (dPut_len _ _ _) (by omega)
theorem said_yes {D : Desk} {t : DD} {ns : List Str} {cell : Int} {h : List (List Str × List Str)} {m : Nat} (hl : ns.length = 4) (hns : ∀ n ∈ ns, Nm n) (hb : Builtin.Int.intBits cell ≤ 1048576) (k : OK m D t) (kh : HOK m h) (hm : m ≤ 200) : Yes (m_law_said D t ns cell h) (After (m + 1)) := by
  have i4 := modR (x := cell / 4) (n := 4) (by decide)
  rw [← hl] at i4
  unfold m_law_said
  have l4 : ((ns.length : Nat) : Int) = 4 := by rw [hl]; rfl
  rw [l4] at i4
  refine Yes.chk i4.1 (Yes.vli fun n hne => ?_)
  have hn : Nm n := by rw [hne]; exact hns _ (getI_mem i4.1)
  have hnl := hn.len
  have l5 : ("drop " : Str).length = 5 := by decide +kernel
  have ld : ("deck" : Str).length = 4 := by decide +kernel
  have ke := k.eq
  refine Yes.ite (fun _ => Yes.bind (shown_yes hn k kh hm) fun r hr => Yes.ok hr) fun _ => ?_
  have e := say_drop (D := D) hn
  rw [ke] at e
  by_cases c : n ∈ t.kv.map (·.1)
  · rw [decide_eq_true c, if_pos c] at *
    refine Yes.iteF (by simp) (Yes.ite (fun _ => Yes.chk c (Yes.vl (Yes.chk (sz_le (by omega)) (Yes.bindE (nx_eq e) (Yes.ok ⟨by simp, ⟨rfl, Nat.le_trans (drop_en k.en).1 (by have := k.sz; omega), (drop_en k.en).2⟩, kh.mono (by omega)⟩))))) fun _ => ?_)
    exact said_deck_ hn hb k kh hm
  · rw [decide_eq_false c, if_neg c] at *
    refine Yes.ite (fun _ => Yes.chk (sz_le (by omega)) (Yes.bindE (notray_yes e) (Yes.ok ⟨rfl, k.mono (by omega), kh.mono (by omega)⟩))) fun q1 => Yes.ite (fun q2 => absurd (by rw [q2]; rfl) q1) fun _ => ?_
    exact said_deck_ hn hb k kh hm

/-! ### the law -/
structure SI (n : Nat) (s : List Desk × List DD × List (List Str × List Str)) : Prop where
  ex : ∃ d0 d1 t0 t1, s.1 = [d0, d1] ∧ s.2.1 = [t0, t1] ∧ OK n d0 t0 ∧ OK n d1 t1
  ho : HOK n s.2.2
theorem SI.step {n : Nat} {s : List Desk × List DD × List (List Str × List Str)} (h : SI n s) {i : Int} (hi : i = 0 ∨ i = 1) : (inR s.1.length i ∧ inR s.2.1.length i) ∧ OK n (getI s.1 i) (getI s.2.1 i) ∧ ∀ r : ((Desk × DD) × List (List Str × List Str)) × Bool, OK (n + 1) r.1.1.1 r.1.1.2 → HOK (n + 1) r.1.2 → SI (n + 1) (setI s.1 i r.1.1.1, setI s.2.1 i r.1.1.2, r.1.2) := by
  obtain ⟨d, t, hh⟩ := s
  obtain ⟨⟨d0, d1, t0, t1, e1, e2, o0, o1⟩, ho⟩ := h
  dsimp only at e1 e2
  subst e1; subst e2
  rcases hi with rfl | rfl
  · exact ⟨⟨by unfold inR; simp, by unfold inR; simp⟩, o0, fun r a b => ⟨⟨_, _, _, _, rfl, rfl, a, o1.mono (by omega)⟩, b⟩⟩
  · exact ⟨⟨by unfold inR; simp, by unfold inR; simp⟩, o1, fun r a b => ⟨⟨_, _, _, _, rfl, rfl, o0.mono (by omega), a⟩, b⟩⟩
theorem law_true (s : Scr) (hl : s.ns.length ≤ 63) (hb : ∀ z ∈ s.ns, Builtin.Int.intBits z ≤ 1048576) : m_law s = .ok true := by
  unfold m_law
  refine Yes.eq (Yes.bindE (cell_is s (by decide)) (Yes.bindE (cell_is s (by decide)) (Yes.bind (lnames_yes _ _) fun ns hns => ?_)))
  obtain ⟨h4, hnm⟩ := hns
  have c1 := cutL_len_le ns (some 1) none
  have c2 := cutL_len_le ns none (some 1)
  have f1 := List.length_filter_le (fun (name_16 : Str) => (!decide (name_16 = (getI ns (0 : Int))))) (cutL ns (some (1 : Int)) none)
  refine Yes.chk (sz_lt (by omega)) (Yes.chk (fun _ _ => by unfold inR; omega) (Yes.chk (sz_le (by rw [List.length_map]; omega)) (Yes.vli fun n2 hn2 => ?_)))
  have hm2 : ∀ n ∈ n2, Nm n := fun n hn => by
    rw [hn2] at hn
    rcases List.mem_append.mp hn with hn | hn
    · exact hnm n (cutL_mem hn)
    · rw [List.map_id'] at hn
      exact hnm n (cutL_mem (List.mem_filter.mp hn).1)
  have hl2 : 1 ≤ n2.length ∧ n2.length ≤ 8 := by
    rw [hn2, List.length_append, List.length_map]
    have : (cutL ns none (some 1)).length = 1 := by rw [cutL_to (by decide), List.length_take]; show min 1 _ = 1; omega
    omega
  refine Yes.chk ⟨by decide, by decide, sz_le (by show n2.length * 4 ≤ _; omega)⟩ (Yes.vli fun n3 hn3 => ?_)
  have hl3 : n3.length = 4 := by
    rw [hn3, cutL_to (by decide), List.length_take, repL_len]
    show min 4 (4 * n2.length) = 4; omega
  have hm3 : ∀ n ∈ n3, Nm n := fun n hn => by
    rw [hn3] at hn
    have hn := cutL_mem hn
    unfold repL at hn
    rw [List.mem_flatten] at hn
    obtain ⟨l, hl, hn⟩ := hn
    rw [(List.mem_replicate.mp hl).2] at hn
    exact hm2 n hn
  have hD : m_Desk___init__ = .ok ⟨⟨[]⟩⟩ := rfl
  refine Yes.bindE hD (Yes.bindE hD (Yes.vl (Yes.vl (Yes.vl (Yes.forLg (fun p (s : List Desk × List DD × List (List Str × List Str)) => SI p.length s) (fun _ => False) ⟨⟨_, _, _, _, rfl, rfl, ⟨rfl, Nat.zero_le _, fun _ h => nomatch h⟩, ⟨rfl, Nat.zero_le _, fun _ h => nomatch h⟩⟩, Nat.zero_le _, fun _ h => nomatch h⟩ (fun p x r e s2 hs => ?_) (fun s2 hs => ?_) fun _ h => h.elim)))))
  · have hx : Builtin.Int.intBits x ≤ 1048576 := hb x (cutL_mem (mem_mid e))
    have hpl := len_mid e
    have := cutL_len_le s.ns (some 2) (some 63)
    unfold m_law_b0
    refine Yes.vli fun who hwho => ?_
    have hw : who = 0 ∨ who = 1 := by omega
    obtain ⟨⟨i1, i2⟩, ok, nx⟩ := hs.step hw
    refine Yes.chk i1 (Yes.chk i2 (Yes.bind (said_yes hl3 hm3 hx ok hs.ho (by omega)) fun r hr => Yes.iteF (by rw [hr.1]; decide) (Yes.ok ?_)))
    show SI (p ++ [x]).length _
    rw [List.length_append, List.length_singleton]
    exact nx r hr.2.1 hr.2.2
  · have := cutL_len_le s.ns (some 2) (some 63)
    unfold m_law_k0
    refine Yes.forLg (fun p (s' : List Desk × List DD × List (List Str × List Str)) => SI (63 + p.length) s') (fun _ => False) ⟨let ⟨d0, d1, t0, t1, a, b, c, d⟩ := hs.ex; ⟨d0, d1, t0, t1, a, b, c.mono (by simp; omega), d.mono (by simp; omega)⟩, hs.ho.mono (by simp; omega)⟩ (fun p x r e s' hs' => ?_) (fun s' hs' => ?_) fun _ h => h.elim
    · obtain ⟨hx, hp⟩ := range_mid e
      have hp : p.length < 16 := hp
      unfold m_law_b1
      have hw : x % 2 = 0 ∨ x % 2 = 1 := by omega
      obtain ⟨⟨i1, i2⟩, ok, nx⟩ := hs'.step hw
      have i4 : inR n3.length ((x / 2) % 4) := by unfold inR; omega
      refine Yes.chk i1 (Yes.chk i2 (Yes.chk i4 (Yes.bind (shown_yes (hm3 _ (getI_mem i4)) ok hs'.ho (by omega)) fun r hr => Yes.iteF (by rw [hr.1]; decide) (Yes.ok ?_))))
      show SI (63 + (p ++ [x]).length) _
      rw [List.length_append, List.length_singleton]
      exact nx r hr.2.1 hr.2.2
    · unfold m_law_k1
      have hloop : forL (fun (s_ : Unit) (q_ : ((List Str) × (List Str))) => m_law_b2 q_.1 q_.2) () s'.2.2 = .ok (.nxt ()) := forL_all fun q hq => by
        unfold m_law_b2
        rw [decide_eq_true (hs'.ho.2 q hq)]; rfl
      rw [hloop]
      exact Yes.ok rfl

theorem all_mk {l : PySem.W.OpenLaw} {w : World} {K : Fr} {h : Heap} {mg : Str → Option Value} {fa : Addr} (X : K.In h) (G : h.Ns mainGlobals mg) (hfa : mg "law" = some (.ref fa)) (c : SaysB factsA fndsA K)
    : ∃ fd : FuncData, (∀ (s : Shared) (v : Value), BindsTo s fd ⟨[v], []⟩ [("_law_script", v)]) ∧ ∀ base : Heap, K.In base → base.Ns mainGlobals mg → FnOk l.prog w K mg base CX0 8 fa fd ["_law_script"] (sp_law K) := by
  have a1 : PySem.W.nsIn K mainGlobals "is_card" = some (some (.ref (He.fAd K ("is_card", none)))) := of_decide_eq_true (c.fact 0 rfl)
  have a2 : PySem.W.nsIn K mainGlobals "card_of" = some (some (.ref (He.fAd K ("card_of", none)))) := of_decide_eq_true (c.fact 1 rfl)
  have a3 : PySem.W.nsIn K mainGlobals "is_name" = some (some (.ref (He.fAd K ("is_name", none)))) := of_decide_eq_true (c.fact 2 rfl)
  have a4 : PySem.W.nsIn K mainGlobals "read_cards" = some (some (.ref (He.fAd K ("read_cards", none)))) := of_decide_eq_true (c.fact 3 rfl)
  have a5 : PySem.W.nsIn K mainGlobals "new_name" = some (some (.ref (He.fAd K ("new_name", none)))) := of_decide_eq_true (c.fact 4 rfl)
  have a6 : PySem.W.nsIn K mainGlobals "is_row" = some (some (.ref (He.fAd K ("is_row", none)))) := of_decide_eq_true (c.fact 5 rfl)
  have a7 : PySem.W.nsIn K mainGlobals "_law_cell_at" = some (some (.ref (He.fAd K ("_law_cell_at", none)))) := of_decide_eq_true (c.fact 6 rfl)
  have a8 : PySem.W.nsIn K mainGlobals "_law_text" = some (some (.ref (He.fAd K ("_law_text", none)))) := of_decide_eq_true (c.fact 7 rfl)
  have a9 : PySem.W.nsIn K mainGlobals "_law_card" = some (some (.ref (He.fAd K ("_law_card", none)))) := of_decide_eq_true (c.fact 8 rfl)
  have a10 : PySem.W.nsIn K mainGlobals "_law_names" = some (some (.ref (He.fAd K ("_law_names", none)))) := of_decide_eq_true (c.fact 9 rfl)
  have a11 : PySem.W.nsIn K mainGlobals "_law_word" = some (some (.ref (He.fAd K ("_law_word", none)))) := of_decide_eq_true (c.fact 10 rfl)
  have a12 : PySem.W.nsIn K mainGlobals "_law_kinds" = some (some (.ref (He.fAd K ("_law_kinds", none)))) := of_decide_eq_true (c.fact 11 rfl)
  have a13 : PySem.W.nsIn K mainGlobals "_law_no_tray" = some (some (.ref (He.fAd K ("_law_no_tray", none)))) := of_decide_eq_true (c.fact 12 rfl)
  have a14 : PySem.W.nsIn K mainGlobals "_law_shown" = some (some (.ref (He.fAd K ("_law_shown", none)))) := of_decide_eq_true (c.fact 13 rfl)
  have a15 : PySem.W.nsIn K mainGlobals "_law_said" = some (some (.ref (He.fAd K ("_law_said", none)))) := of_decide_eq_true (c.fact 14 rfl)
  have a16 : PySem.W.nsIn K mainGlobals "law" = some (some (.ref (He.fAd K ("law", none)))) := of_decide_eq_true (c.fact 15 rfl)
  have a17 : PySem.W.findIn K (.ref (He.ga K "Desk")) "__init__" = some (some (.ref (He.fAd K ("Desk", some "__init__")))) := of_decide_eq_true (c.fact 16 rfl)
  have i17 : PySem.W.isFn K (.ref (He.fAd K ("Desk", some "__init__"))) = true := of_decide_eq_true (c.fact 17 rfl)
  have a18 : PySem.W.findIn K (.ref (He.ga K "Desk")) "there" = some (some (.ref (He.fAd K ("Desk", some "there")))) := of_decide_eq_true (c.fact 18 rfl)
  have i18 : PySem.W.isFn K (.ref (He.fAd K ("Desk", some "there"))) = true := of_decide_eq_true (c.fact 19 rfl)
  have a19 : PySem.W.findIn K (.ref (He.ga K "Desk")) "say" = some (some (.ref (He.fAd K ("Desk", some "say")))) := of_decide_eq_true (c.fact 20 rfl)
  have i19 : PySem.W.isFn K (.ref (He.fAd K ("Desk", some "say"))) = true := of_decide_eq_true (c.fact 21 rfl)
  have z_ValueError : PySem.W.nsIn K mainGlobals "ValueError" = some none := of_decide_eq_true (c.fact 22 rfl)
  have z_isinstance : PySem.W.nsIn K mainGlobals "isinstance" = some none := of_decide_eq_true (c.fact 23 rfl)
  have z_len : PySem.W.nsIn K mainGlobals "len" = some none := of_decide_eq_true (c.fact 24 rfl)
  have z_list : PySem.W.nsIn K mainGlobals "list" = some none := of_decide_eq_true (c.fact 25 rfl)
  have z_range : PySem.W.nsIn K mainGlobals "range" = some none := of_decide_eq_true (c.fact 26 rfl)
  have z_str : PySem.W.nsIn K mainGlobals "str" = some none := of_decide_eq_true (c.fact 27 rfl)
  have u_LETTERS := He.str_ok X G (x := "LETTERS") (z := ("abcdefghijklmnopqrstuvwxyz" : Str)) (c.fact 28 rfl)
  have u_SIGNS := He.str_ok X G (x := "SIGNS") (z := (" 0123456789ABCDEFGHIJKLMNOPQRSTUVWXYZ" : Str)) (c.fact 29 rfl)
  have u_WIDTH := He.int_ok X G (x := "WIDTH") (i := 40) (c.fact 30 rfl)
  have g_Meet : PySem.W.nsIn K mainGlobals "Meet" = some (some (.ref (He.ga K "Meet"))) := of_decide_eq_true (c.fact 31 rfl)
  have g_NoAsking : PySem.W.nsIn K mainGlobals "NoAsking" = some (some (.ref (He.ga K "NoAsking"))) := of_decide_eq_true (c.fact 32 rfl)
  have g_NoBoard : PySem.W.nsIn K mainGlobals "NoBoard" = some (some (.ref (He.ga K "NoBoard"))) := of_decide_eq_true (c.fact 33 rfl)
  have g_NoCard : PySem.W.nsIn K mainGlobals "NoCard" = some (some (.ref (He.ga K "NoCard"))) := of_decide_eq_true (c.fact 34 rfl)
  have g_NoField : PySem.W.nsIn K mainGlobals "NoField" = some (some (.ref (He.ga K "NoField"))) := of_decide_eq_true (c.fact 35 rfl)
  have g_NoOrder : PySem.W.nsIn K mainGlobals "NoOrder" = some (some (.ref (He.ga K "NoOrder"))) := of_decide_eq_true (c.fact 36 rfl)
  have g_NoPlan : PySem.W.nsIn K mainGlobals "NoPlan" = some (some (.ref (He.ga K "NoPlan"))) := of_decide_eq_true (c.fact 37 rfl)
  have g_NoRow : PySem.W.nsIn K mainGlobals "NoRow" = some (some (.ref (He.ga K "NoRow"))) := of_decide_eq_true (c.fact 38 rfl)
  have g_NoTray : PySem.W.nsIn K mainGlobals "NoTray" = some (some (.ref (He.ga K "NoTray"))) := of_decide_eq_true (c.fact 39 rfl)
  have g_ShopError : PySem.W.nsIn K mainGlobals "ShopError" = some (some (.ref (He.ga K "ShopError"))) := of_decide_eq_true (c.fact 40 rfl)
  have su_NoTray : PySem.W.subIn K (.ref (He.ga K "NoTray")) (.type "BaseException") = some true := of_decide_eq_true (c.fact 41 rfl)
  have ty_NoTray : PySem.W.typeIn K (.ref (He.ga K "NoTray")) = some (.type "type") := of_decide_eq_true (c.fact 42 rfl)
  have hd_NoTray : PySem.W.hasDictIn K (He.ga K "NoTray") = true := of_decide_eq_true (c.fact 43 rfl)
  have sb_NoTray_NoTray : PySem.W.subIn K (.ref (He.ga K "NoTray")) (.ref (He.ga K "NoTray")) = some true := of_decide_eq_true (c.fact 44 rfl)
  have ex_NoTray : PySem.W.excIn K (He.ga K "NoTray") [.type "ValueError", .type "Exception", .type "BaseException", .type "object"] "ValueError.__new__" = true := of_decide_eq_true (c.fact 45 rfl)
  have ty_Meet : PySem.W.typeIn K (.ref (He.ga K "Meet")) = some (.type "type") := of_decide_eq_true (c.fact 46 rfl)
  have hd_Meet : PySem.W.hasDictIn K (He.ga K "Meet") = true := of_decide_eq_true (c.fact 47 rfl)
  have sb_Meet_Meet : PySem.W.subIn K (.ref (He.ga K "Meet")) (.ref (He.ga K "Meet")) = some true := of_decide_eq_true (c.fact 48 rfl)
  have sb_NoTray_Meet : PySem.W.subIn K (.ref (He.ga K "NoTray")) (.ref (He.ga K "Meet")) = some false := of_decide_eq_true (c.fact 49 rfl)
  have ty_NoAsking : PySem.W.typeIn K (.ref (He.ga K "NoAsking")) = some (.type "type") := of_decide_eq_true (c.fact 50 rfl)
  have hd_NoAsking : PySem.W.hasDictIn K (He.ga K "NoAsking") = true := of_decide_eq_true (c.fact 51 rfl)
  have sb_NoAsking_NoAsking : PySem.W.subIn K (.ref (He.ga K "NoAsking")) (.ref (He.ga K "NoAsking")) = some true := of_decide_eq_true (c.fact 52 rfl)
  have sb_NoTray_NoAsking : PySem.W.subIn K (.ref (He.ga K "NoTray")) (.ref (He.ga K "NoAsking")) = some false := of_decide_eq_true (c.fact 53 rfl)
  have ty_NoBoard : PySem.W.typeIn K (.ref (He.ga K "NoBoard")) = some (.type "type") := of_decide_eq_true (c.fact 54 rfl)
  have hd_NoBoard : PySem.W.hasDictIn K (He.ga K "NoBoard") = true := of_decide_eq_true (c.fact 55 rfl)
  have sb_NoBoard_NoBoard : PySem.W.subIn K (.ref (He.ga K "NoBoard")) (.ref (He.ga K "NoBoard")) = some true := of_decide_eq_true (c.fact 56 rfl)
  have sb_NoTray_NoBoard : PySem.W.subIn K (.ref (He.ga K "NoTray")) (.ref (He.ga K "NoBoard")) = some false := of_decide_eq_true (c.fact 57 rfl)
  have ty_NoCard : PySem.W.typeIn K (.ref (He.ga K "NoCard")) = some (.type "type") := of_decide_eq_true (c.fact 58 rfl)
  have hd_NoCard : PySem.W.hasDictIn K (He.ga K "NoCard") = true := of_decide_eq_true (c.fact 59 rfl)
  have sb_NoCard_NoCard : PySem.W.subIn K (.ref (He.ga K "NoCard")) (.ref (He.ga K "NoCard")) = some true := of_decide_eq_true (c.fact 60 rfl)
  have sb_NoTray_NoCard : PySem.W.subIn K (.ref (He.ga K "NoTray")) (.ref (He.ga K "NoCard")) = some false := of_decide_eq_true (c.fact 61 rfl)
  have ty_NoField : PySem.W.typeIn K (.ref (He.ga K "NoField")) = some (.type "type") := of_decide_eq_true (c.fact 62 rfl)
  have hd_NoField : PySem.W.hasDictIn K (He.ga K "NoField") = true := of_decide_eq_true (c.fact 63 rfl)
  have sb_NoField_NoField : PySem.W.subIn K (.ref (He.ga K "NoField")) (.ref (He.ga K "NoField")) = some true := of_decide_eq_true (c.fact 64 rfl)
  have sb_NoTray_NoField : PySem.W.subIn K (.ref (He.ga K "NoTray")) (.ref (He.ga K "NoField")) = some false := of_decide_eq_true (c.fact 65 rfl)
  have ty_NoOrder : PySem.W.typeIn K (.ref (He.ga K "NoOrder")) = some (.type "type") := of_decide_eq_true (c.fact 66 rfl)
  have hd_NoOrder : PySem.W.hasDictIn K (He.ga K "NoOrder") = true := of_decide_eq_true (c.fact 67 rfl)
  have sb_NoOrder_NoOrder : PySem.W.subIn K (.ref (He.ga K "NoOrder")) (.ref (He.ga K "NoOrder")) = some true := of_decide_eq_true (c.fact 68 rfl)
  have sb_NoTray_NoOrder : PySem.W.subIn K (.ref (He.ga K "NoTray")) (.ref (He.ga K "NoOrder")) = some false := of_decide_eq_true (c.fact 69 rfl)
  have ty_NoPlan : PySem.W.typeIn K (.ref (He.ga K "NoPlan")) = some (.type "type") := of_decide_eq_true (c.fact 70 rfl)
  have hd_NoPlan : PySem.W.hasDictIn K (He.ga K "NoPlan") = true := of_decide_eq_true (c.fact 71 rfl)
  have sb_NoPlan_NoPlan : PySem.W.subIn K (.ref (He.ga K "NoPlan")) (.ref (He.ga K "NoPlan")) = some true := of_decide_eq_true (c.fact 72 rfl)
  have sb_NoTray_NoPlan : PySem.W.subIn K (.ref (He.ga K "NoTray")) (.ref (He.ga K "NoPlan")) = some false := of_decide_eq_true (c.fact 73 rfl)
  have ty_NoRow : PySem.W.typeIn K (.ref (He.ga K "NoRow")) = some (.type "type") := of_decide_eq_true (c.fact 74 rfl)
  have hd_NoRow : PySem.W.hasDictIn K (He.ga K "NoRow") = true := of_decide_eq_true (c.fact 75 rfl)
  have sb_NoRow_NoRow : PySem.W.subIn K (.ref (He.ga K "NoRow")) (.ref (He.ga K "NoRow")) = some true := of_decide_eq_true (c.fact 76 rfl)
  have sb_NoTray_NoRow : PySem.W.subIn K (.ref (He.ga K "NoTray")) (.ref (He.ga K "NoRow")) = some false := of_decide_eq_true (c.fact 77 rfl)
  have ty_ShopError : PySem.W.typeIn K (.ref (He.ga K "ShopError")) = some (.type "type") := of_decide_eq_true (c.fact 78 rfl)
  have hd_ShopError : PySem.W.hasDictIn K (He.ga K "ShopError") = true := of_decide_eq_true (c.fact 79 rfl)
  have sb_ShopError_ShopError : PySem.W.subIn K (.ref (He.ga K "ShopError")) (.ref (He.ga K "ShopError")) = some true := of_decide_eq_true (c.fact 80 rfl)
  have sb_NoTray_ShopError : PySem.W.subIn K (.ref (He.ga K "NoTray")) (.ref (He.ga K "ShopError")) = some true := of_decide_eq_true (c.fact 81 rfl)
  have sb_NoTray_ValueError : PySem.W.subIn K (.ref (He.ga K "NoTray")) (.type "ValueError") = some true := of_decide_eq_true (c.fact 82 rfl)
  have kx_NoTray : PySem.W.keepIn K (.ref (He.ga K "NoTray")) = true := of_decide_eq_true (c.fact 83 rfl)
  have xchg_NoTray : PySem.W.findIn K (.ref (He.ga K "NoTray")) "__getattribute__" = some (some (.builtin "BaseException.__getattribute__")) := of_decide_eq_true (c.fact 84 rfl)
  have xchk_NoTray : PySem.W.findIn K (.ref (He.ga K "NoTray")) "__getattr__" = some none := of_decide_eq_true (c.fact 85 rfl)
  have xchs_NoTray : PySem.W.subIn K (.ref (He.ga K "NoTray")) (.type "BaseException") = some true := of_decide_eq_true (c.fact 86 rfl)
  have xchd_NoTray : PySem.W.hasDictIn K (He.ga K "NoTray") = true := of_decide_eq_true (c.fact 87 rfl)
  have xcha_NoTray : PySem.W.findIn K (.ref (He.ga K "NoTray")) "__class__" = some (some (.builtin "object.__class__")) := of_decide_eq_true (c.fact 88 rfl)
  have xchn_NoTray : PySem.W.specialIn K (.builtin "object.__class__") "__get__" = some (some (.builtin "getset_descriptor.__get__")) := of_decide_eq_true (c.fact 89 rfl)
  have xcht_NoTray : PySem.W.takesIn K (.builtin "object.__class__") = some true := of_decide_eq_true (c.fact 90 rfl)
  have xchm_NoTray : PySem.W.mroIn K (He.ga K "NoTray") (.type "object") = some true := of_decide_eq_true (c.fact 91 rfl)
  have bC_Desk : PySem.W.nsIn K mainGlobals "Desk" = some (some (.ref (He.ga K "Desk"))) := of_decide_eq_true (c.fact 92 rfl)
  have pg_Desk : PySem.W.plainGet K (He.ga K "Desk") Str.empty = true := of_decide_eq_true (c.fact 93 rfl)
  have hd_Desk : PySem.W.hasDictIn K (He.ga K "Desk") = true := of_decide_eq_true (c.fact 94 rfl)
  have po_Desk : PySem.W.plainOver K (He.ga K "Desk") = true := of_decide_eq_true (c.fact 95 rfl)
  have sa_Desk : PySem.W.findIn K (.ref (He.ga K "Desk")) "__setattr__" = some (some (.builtin "object.__setattr__")) := of_decide_eq_true (c.fact 96 rfl)
  have mk_Desk : PySem.W.makesIn K (He.ga K "Desk") = true := of_decide_eq_true (c.fact 97 rfl)
  have kc_Desk : PySem.W.keepIn K (.ref (He.ga K "Desk")) = true := of_decide_eq_true (c.fact 98 rfl)
  have na_trays_Desk : PySem.W.findIn K (.ref (He.ga K "Desk")) "trays" = some none := of_decide_eq_true (c.fact 99 rfl)
  obtain ⟨fd1, F1⟩ : ∃ fd, Fun K "is_card" "is_card" (topS 16) (He.fAd K ("is_card", none)) fd := (c.def_ 0 rfl).imp fun _ h => FunD.toFun h; have k1 := F1.kp
  obtain ⟨fd2, F2⟩ : ∃ fd, Fun K "card_of" "card_of" (topS 17) (He.fAd K ("card_of", none)) fd := (c.def_ 1 rfl).imp fun _ h => FunD.toFun h; have k2 := F2.kp
  obtain ⟨fd3, F3⟩ : ∃ fd, Fun K "is_name" "is_name" (topS 37) (He.fAd K ("is_name", none)) fd := (c.def_ 2 rfl).imp fun _ h => FunD.toFun h; have k3 := F3.kp
  obtain ⟨fd4, F4⟩ : ∃ fd, Fun K "read_cards" "read_cards" (topS 125) (He.fAd K ("read_cards", none)) fd := (c.def_ 3 rfl).imp fun _ h => FunD.toFun h; have k4 := F4.kp
  obtain ⟨fd5, F5⟩ : ∃ fd, Fun K "new_name" "new_name" (topS 126) (He.fAd K ("new_name", none)) fd := (c.def_ 4 rfl).imp fun _ h => FunD.toFun h; have k5 := F5.kp
  obtain ⟨fd6, F6⟩ : ∃ fd, Fun K "is_row" "is_row" (topS 128) (He.fAd K ("is_row", none)) fd := (c.def_ 5 rfl).imp fun _ h => FunD.toFun h; have k6 := F6.kp
  obtain ⟨fd7, F7⟩ : ∃ fd, Fun K "_law_cell_at" "_law_cell_at" (topS 131) (He.fAd K ("_law_cell_at", none)) fd := (c.def_ 6 rfl).imp fun _ h => FunD.toFun h; have k7 := F7.kp
  obtain ⟨fd8, F8⟩ : ∃ fd, Fun K "_law_text" "_law_text" (topS 132) (He.fAd K ("_law_text", none)) fd := (c.def_ 7 rfl).imp fun _ h => FunD.toFun h; have k8 := F8.kp
  obtain ⟨fd9, F9⟩ : ∃ fd, Fun K "_law_card" "_law_card" (topS 133) (He.fAd K ("_law_card", none)) fd := (c.def_ 8 rfl).imp fun _ h => FunD.toFun h; have k9 := F9.kp
  obtain ⟨fd10, F10⟩ : ∃ fd, Fun K "_law_names" "_law_names" (topS 134) (He.fAd K ("_law_names", none)) fd := (c.def_ 9 rfl).imp fun _ h => FunD.toFun h; have k10 := F10.kp
  obtain ⟨fd11, F11⟩ : ∃ fd, Fun K "_law_word" "_law_word" (topS 135) (He.fAd K ("_law_word", none)) fd := (c.def_ 10 rfl).imp fun _ h => FunD.toFun h; have k11 := F11.kp
  obtain ⟨fd12, F12⟩ : ∃ fd, Fun K "_law_kinds" "_law_kinds" (topS 136) (He.fAd K ("_law_kinds", none)) fd := (c.def_ 11 rfl).imp fun _ h => FunD.toFun h; have k12 := F12.kp
  obtain ⟨fd13, F13⟩ : ∃ fd, Fun K "_law_no_tray" "_law_no_tray" (topS 137) (He.fAd K ("_law_no_tray", none)) fd := (c.def_ 12 rfl).imp fun _ h => FunD.toFun h; have k13 := F13.kp
  obtain ⟨fd14, F14⟩ : ∃ fd, Fun K "_law_shown" "_law_shown" (topS 138) (He.fAd K ("_law_shown", none)) fd := (c.def_ 13 rfl).imp fun _ h => FunD.toFun h; have k14 := F14.kp
  obtain ⟨fd15, F15⟩ : ∃ fd, Fun K "_law_said" "_law_said" (topS 139) (He.fAd K ("_law_said", none)) fd := (c.def_ 14 rfl).imp fun _ h => FunD.toFun h; have k15 := F15.kp
  obtain ⟨fd16, F16⟩ : ∃ fd, Fun K "law" "law" (topS 140) (He.fAd K ("law", none)) fd := (c.def_ 15 rfl).imp fun _ h => FunD.toFun h; have k16 := F16.kp
  obtain ⟨fd17, F17⟩ : ∃ fd, Fun K "__init__" "Desk.__init__" (inClass (topS 129) 0) (He.fAd K ("Desk", some "__init__")) fd := (c.def_ 16 rfl).imp fun _ h => FunD.toFun h; have k17 := F17.kp
  obtain ⟨fd18, F18⟩ : ∃ fd, Fun K "there" "Desk.there" (inClass (topS 129) 1) (He.fAd K ("Desk", some "there")) fd := (c.def_ 17 rfl).imp fun _ h => FunD.toFun h; have k18 := F18.kp
  obtain ⟨fd19, F19⟩ : ∃ fd, Fun K "say" "Desk.say" (inClass (topS 129) 2) (He.fAd K ("Desk", some "say")) fd := (c.def_ 18 rfl).imp fun _ h => FunD.toFun h; have k19 := F19.kp
  have e := hfa.symm.trans (PySem.W.mg_of X G a16)
  cases e
  have T : Txt K mg (⟨(He.ga K "ShopError"), (He.ga K "NoCard"), (He.ga K "NoField"), (He.ga K "NoOrder"), (He.ga K "NoBoard"), (He.ga K "Meet"), (He.ga K "NoAsking"), (He.ga K "NoTray"), (He.ga K "NoPlan"), (He.ga K "NoRow")⟩ : CA) (⟨0, 0, 0, 0, 0, 0, 0, 0, 0, 0, 0, 0, (He.ga K "Desk")⟩ : CB) := ⟨⟨pg_Desk, hd_Desk, po_Desk, sa_Desk⟩, PySem.W.mg_of X G bC_Desk, bC_Desk, na_trays_Desk, PySem.W.mg_none_of X G z_ValueError, PySem.W.mg_none_of X G z_isinstance, PySem.W.mg_none_of X G z_len, PySem.W.mg_none_of X G z_list, PySem.W.mg_none_of X G z_range, PySem.W.mg_none_of X G z_str, u_LETTERS, u_SIGNS, u_WIDTH, PySem.W.exm_ref su_NoTray hd_NoTray ty_NoTray sb_NoTray_NoTray, ex_NoTray, PySem.W.mg_of X G g_Meet, PySem.W.mg_of X G g_NoAsking, PySem.W.mg_of X G g_NoBoard, PySem.W.mg_of X G g_NoCard, PySem.W.mg_of X G g_NoField, PySem.W.mg_of X G g_NoOrder, PySem.W.mg_of X G g_NoPlan, PySem.W.mg_of X G g_NoRow, PySem.W.mg_of X G g_NoTray, PySem.W.mg_of X G g_ShopError, kit_cl hd_Meet ty_Meet sb_Meet_Meet sb_NoTray_Meet, kit_cl hd_NoAsking ty_NoAsking sb_NoAsking_NoAsking sb_NoTray_NoAsking, kit_cl hd_NoBoard ty_NoBoard sb_NoBoard_NoBoard sb_NoTray_NoBoard, kit_cl hd_NoCard ty_NoCard sb_NoCard_NoCard sb_NoTray_NoCard, kit_cl hd_NoField ty_NoField sb_NoField_NoField sb_NoTray_NoField, kit_cl hd_NoOrder ty_NoOrder sb_NoOrder_NoOrder sb_NoTray_NoOrder, kit_cl hd_NoPlan ty_NoPlan sb_NoPlan_NoPlan sb_NoTray_NoPlan, kit_cl hd_NoRow ty_NoRow sb_NoRow_NoRow sb_NoTray_NoRow, kit_cl hd_ShopError ty_ShopError sb_ShopError_ShopError sb_NoTray_ShopError, kit_tp (by decide +kernel) sb_NoTray_ValueError, kx_NoTray, su_NoTray, ty_NoTray, ⟨xchg_NoTray, xchk_NoTray, xchs_NoTray, xchd_NoTray, xcha_NoTray, xchn_NoTray, xcht_NoTray, xchm_NoTray⟩⟩
  have hbind : ∀ (s : Shared) (v : Value), BindsTo s fd16 ⟨[v], []⟩ [("_law_script", v)] := by obtain ⟨oc_, od_, kV_, doc_, pm_, an_, cdv_, ct_, osl_, e_, lk_, cd_⟩ := F16.ex; subst e_; exact fun s v => .of_eq rfl
  refine ⟨fd16, hbind, fun base _ _ => ?_⟩
  have C_is_card := ok_is_card (P := l.prog) (w := w) (base := base) F1 (PySem.W.mg_of X G a1) T
  have C_card_of := ok_card_of (P := l.prog) (w := w) (base := base) F2 (PySem.W.mg_of X G a2) T C_is_card
  have C_is_name := ok_is_name (P := l.prog) (w := w) (base := base) F3 (PySem.W.mg_of X G a3) T
  have C_read_cards := ok_read_cards (P := l.prog) (w := w) (base := base) F4 (PySem.W.mg_of X G a4) T C_card_of
  have C_new_name := ok_new_name (P := l.prog) (w := w) (base := base) F5 (PySem.W.mg_of X G a5) T C_is_name
  have C_is_row := ok_is_row (P := l.prog) (w := w) (base := base) F6 (PySem.W.mg_of X G a6) T
  have C_law_cell_at := ok_law_cell_at (P := l.prog) (w := w) (base := base) F7 (PySem.W.mg_of X G a7) T
  have C_law_text := ok_law_text (P := l.prog) (w := w) (base := base) F8 (PySem.W.mg_of X G a8) T
  have C_law_card := ok_law_card (P := l.prog) (w := w) (base := base) F9 (PySem.W.mg_of X G a9) T C_law_text
  have C_law_names := ok_law_names (P := l.prog) (w := w) (base := base) F10 (PySem.W.mg_of X G a10) T
  have C_law_word := ok_law_word (P := l.prog) (w := w) (base := base) F11 (PySem.W.mg_of X G a11) T
  have C_law_kinds_NoTray := ok_law_kinds_NoTray (P := l.prog) (w := w) (base := base) F12 (PySem.W.mg_of X G a12) T
  have C_Desk_there := ok_Desk_there (P := l.prog) (w := w) (base := base) F18 ⟨a18, i18, k18⟩ T
  have C_Desk_say := ok_Desk_say (P := l.prog) (w := w) (base := base) F19 ⟨a19, i19, k19⟩ T C_read_cards C_new_name C_is_row C_Desk_there
  have C_law_no_tray := ok_law_no_tray (P := l.prog) (w := w) (base := base) F13 (PySem.W.mg_of X G a13) T C_law_kinds_NoTray C_Desk_say
  have C_law_shown := ok_law_shown (P := l.prog) (w := w) (base := base) F14 (PySem.W.mg_of X G a14) T C_Desk_say C_law_no_tray
  have C_law_said := ok_law_said (P := l.prog) (w := w) (base := base) F15 (PySem.W.mg_of X G a15) T C_law_card C_law_word C_Desk_say C_law_no_tray C_law_shown
  have C_Desk___init__ := ok_Desk___init__ (P := l.prog) (w := w) (base := base) F17 ⟨mk_Desk, a17, i17, kc_Desk⟩ T
  exact okf_law (P := l.prog) (w := w) (base := base) F16 T C_law_cell_at C_law_names C_law_shown C_law_said C_Desk___init__
theorem law_end {K : Fr} {H : Hp} {a : Addr} {ns : List Int} {E : XK} (hl : ns.length ≤ 63) (hb : ∀ z ∈ ns, Builtin.Int.intBits z ≤ 1048576) (hS : SqL K H a (ns.map V.int)) : sp_law K [.ref a] H (fun v _ => v = .bl true) E :=
  ⟨H, ⟨ns⟩, .ref a, rfl, Same.refl _, ⟨a, rfl, hS⟩, by rw [law_true ⟨ns⟩ hl hb]; exact fun Z' H' st => rfl⟩
end Cd
open PySem PySem.W PySem.Calls PyProof.Rows
set_option maxRecDepth 100000 in
set_option maxHeartbeats 0 in
theorem PySem.Challenge.cw_cardshop_k75_desk_trays_holds : PySem.Challenge.rw_cardshop_k75_desk_trays.Holds := by
  w_on; o_law
  refine HandSHeadRun.head_any (r := OpenLaw.row PySem.Challenge.rw_cardshop_k75_desk_trays) (q := view (OpenLaw.row PySem.Challenge.rw_cardshop_k75_desk_trays).prog [140]) (H := Cd.hkA) (ob := Cd.obA) (M := 20000) (loose := Cd.namesA) (d := HandSHeadRun.topDef (OpenLaw.row PySem.Challenge.rw_cardshop_k75_desk_trays).prog 140) (kwd := []) Cd.obA_eq
    (by kernel_rfl) (fun s => by kernel_rfl) Cd.runA (by kernel_rfl) (by kernel_rfl) (by kernel_rfl) (by rfl) (by first | assumption | decide +kernel) (by decide +kernel) ⟨rfl, rfl, rfl, rfl, rfl, by decide +kernel⟩ ?hw ?hc
  case hw => w_witness2
  case hc =>
    refine Cd.walk_ofBE (l := PySem.Challenge.rw_cardshop_k75_desk_trays) (n := 63) (k := 8) (x := "_law_script") (CX := L2.CX0) rfl (by decide) (by kernel_rfl) ⟨rfl, by decide, by decide⟩ ?F (fun _ _ _ _ z => z)
    intro w mg fa h Y G hmg0
    obtain ⟨K, KX, c⟩ := Y
    have hmg : mg ("law" : PySem.Str) = some (.ref fa) := by
      have e : (HandSHeadRun.topDef (OpenLaw.row PySem.Challenge.rw_cardshop_k75_desk_trays).prog 140).name = ("law" : PySem.Str) := by kernel_rfl
      rw [← e]
      exact hmg0
    obtain ⟨fd, hb, hF⟩ := Cd.all_mk (l := PySem.Challenge.rw_cardshop_k75_desk_trays) (w := w) KX G hmg c
    exact ⟨K, fd, Cd.sp_law K, KX, hb, fun H a ns hl hbt _ hS => Cd.law_end hl hbt hS, hF⟩
#print axioms PySem.Challenge.cw_cardshop_k75_desk_trays_holds
