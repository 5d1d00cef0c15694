import PyProof.Rows.All
import Wide.All
import OpenK.AllK
import Wide.FinOn
import HandS.ForMost
import HandS.IsInst
import HandS.StrMore
import HandS.Wide
import HandS.TryOnly
import HandS.WordsExc
import HandS.Style
import HandS.More
import HandS.Evl
import KE.IntTextLaws
import HandS.Strs
import HandS.SetKeys
import KE.KIntText
import PySem.Challenge.RW_cardshop_k05_punched
set_option Elab.async false
set_option linter.all false
set_option maxRecDepth 100000
set_option maxHeartbeats 4000000
/-! ## The ground: data told by heaps, with a ghost heap of what stays -/
namespace PySem
theorem Paired.pImp {α β : Type} {F G : α → β → Prop} (f : ∀ a b, F a b → G a b) : ∀ {l : List α} {m : List β}, Paired F l m → Paired G l m
  | _, _, .nil => .nil
  | _, _, .cons r t => .cons (f _ _ r) (Paired.pImp f t)
theorem Paired.pLen {α β : Type} {F : α → β → Prop} : ∀ {l : List α} {m : List β}, Paired F l m → l.length = m.length
  | _, _, .nil => rfl
  | _, _, .cons _ t => congrArg (· + 1) (Paired.pLen t)
theorem Paired.pApp {α β : Type} {F : α → β → Prop} : ∀ {l : List α} {m : List β} {l' : List α} {m' : List β}, Paired F l m → Paired F l' m' → Paired F (l ++ l') (m ++ m')
  | _, _, _, _, .nil, h => h
  | _, _, _, _, .cons r t, h => .cons r (Paired.pApp t h)
theorem Paired.pDrop {α β : Type} {F : α → β → Prop} : ∀ {l : List α} {m : List β} (n : Nat), Paired F l m → Paired F (l.drop n) (m.drop n)
  | _, _, 0, h => h
  | _, _, _ + 1, .nil => .nil
  | _, _, n + 1, .cons _ t => Paired.pDrop n t
theorem Paired.pTake {α β : Type} {F : α → β → Prop} : ∀ {l : List α} {m : List β} (n : Nat), Paired F l m → Paired F (l.take n) (m.take n)
  | _, _, 0, _ => .nil
  | _, _, _ + 1, .nil => .nil
  | _, _, n + 1, .cons r t => .cons r (Paired.pTake n t)
theorem Paired.pAt {α β : Type} {F : α → β → Prop} : ∀ {l : List α} {m : List β} {i : Nat} {b : β}, Paired F l m → m[i]? = some b → ∃ a, l[i]? = some a ∧ F a b
  | _, _, _, _, .nil, h => by simp at h
  | _, _, 0, _, .cons r _, h => by simp at h; subst h; exact ⟨_, rfl, r⟩
  | _, _, i + 1, _, .cons _ t, h => by
    obtain ⟨a, h1, h2⟩ := Paired.pAt (i := i) t (by simpa using h)
    exact ⟨a, by simpa using h1, h2⟩
theorem Paired.pSet {α β : Type} {F : α → β → Prop} {a : α} {b : β} (r : F a b) : ∀ {l : List α} {m : List β} (i : Nat), Paired F l m → Paired F (l.set i a) (m.set i b)
  | _, _, _, .nil => .nil
  | _, _, 0, .cons _ t => .cons r t
  | _, _, i + 1, .cons q t => .cons q (Paired.pSet r i t)
theorem Paired.pRev {α β : Type} {F : α → β → Prop} : ∀ {l : List α} {m : List β}, Paired F l m → Paired F l.reverse m.reverse
  | _, _, .nil => .nil
  | _, _, .cons r t => by
    rw [List.reverse_cons, List.reverse_cons]
    exact Paired.pApp (Paired.pRev t) (.cons r .nil)
end PySem
namespace Cd
open PySem L2
abbrev Fr := PySem.W.Frag
/-! ### what a value tells -/
class Py (α : Type) where
  R : Fr → Hp → V → α → Prop
  mono : ∀ {K : Fr} {Z Z' : Hp} {v : V} {a : α}, Same Z Z' → R K Z v a → R K Z' v a
/-- a value that needs no heap -/
class Sc (α : Type) where
  emb : α → V
instance : Sc Int := ⟨V.int⟩
instance : Sc Bool := ⟨V.bl⟩
instance : Sc Str := ⟨V.str⟩
instance : Sc Unit := ⟨fun _ => V.non⟩
instance (priority := low) {α : Type} [Sc α] : Py α := ⟨fun _ _ v a => v = Sc.emb a, fun _ h => h⟩
instance {α : Type} [Py α] : Py (Option α) where
  R K Z v o := match o with
    | none => v = .non
    | some a => Py.R K Z v a
  mono := fun {K Z Z' v a} s h => by
    cases a with
    | none => exact h
    | some a => exact Py.mono s h
instance {α : Type} [Py α] : Py (List α) where
  R K Z v l := ∃ a xs, v = .ref a ∧ Z a = some (.lst xs) ∧ Paired (Py.R K Z) xs l
  mono := fun {K Z Z' v l} s h => by
    obtain ⟨a, xs, e, hz, p⟩ := h
    exact ⟨a, xs, e, s _ _ hz, Paired.pImp (fun _ _ r => Py.mono s r) p⟩
instance {α β : Type} [Py α] [Py β] : Py (α × β) where
  R K Z v p := ∃ a x y, v = .ref a ∧ Z a = some (.tup [x, y]) ∧ Py.R K Z x p.1 ∧ Py.R K Z y p.2
  mono := fun {K Z Z' v l} s h => by
    obtain ⟨a, x, y, e, hz, p, q⟩ := h
    exact ⟨a, x, y, e, s _ _ hz, Py.mono s p, Py.mono s q⟩
/-- the script -/
structure Scr where
  ns : List Int
instance : Py Scr where
  R K Z v l := ∃ a, v = .ref a ∧ SqL K Z a (l.ns.map V.int)
  mono := fun {K Z Z' v l} s h => by
    obtain ⟨a, e, hz⟩ := h
    exact ⟨a, e, s.seq hz⟩
/-! ### a step of heap and ghost -/
structure Step (Z H Z' H' : Hp) : Prop where
  hh : Same H H'
  zz : Same Z Z'
  zh : Same Z' H'
  fr : ∀ a o, H a = some o → Z' a = Z a
section
variable {K : Fr} {Z H Z' H' Z2 H2 Z0 H0 : Hp}
theorem Step.refl (s : Same Z H) : Step Z H Z H := ⟨Same.refl _, Same.refl _, s, fun _ _ _ => rfl⟩
theorem Step.trans (a : Step Z H Z' H') (b : Step Z' H' Z2 H2) : Step Z H Z2 H2 :=
  ⟨a.hh.trans b.hh, a.zz.trans b.zz, b.zh, fun x o e => (b.fr x o (a.hh x o e)).trans (a.fr x o e)⟩
/-- a new object, told -/
theorem Step.new {p : Addr} {o : HO} (s : Same Z H) (hp : H p = none) : Step Z H (upd Z p o) (upd H p o) := by
  have hz : Z p = none := s.free hp
  refine ⟨fun b u e => ?_, fun b u e => ?_, fun b u e => ?_, fun b u e => ?_⟩
  · rw [upd_ne (ne_of_none e hp)]; exact e
  · rw [upd_ne (ne_of_none e hz)]; exact e
  · by_cases q : b = p
    · subst q; rw [upd_same] at e ⊢; exact e
    · rw [upd_ne q] at e ⊢; exact s b u e
  · rw [upd_ne (ne_of_none e hp)]
/-- a new object, kept for oneself -/
theorem Step.own {p : Addr} {o : HO} (s : Same Z H) (hp : H p = none) : Step Z H Z (upd H p o) := by
  refine ⟨fun b u e => ?_, Same.refl _, fun b u e => ?_, fun _ _ _ => rfl⟩
  · rw [upd_ne (ne_of_none e hp)]; exact e
  · have q := s b u e
    rw [upd_ne (ne_of_none q hp)]; exact q
/-- one's own object, told from now on -/
theorem Step.tell {p : Addr} {o : HO} (c : Step Z0 H0 Z H) (hp : H p = some o) (hz : Z p = none) (h0 : H0 p = none) : Step Z0 H0 (upd Z p o) H ∧ Same Z (upd Z p o) := by
  have s2 : Same Z (upd Z p o) := fun b u e => by rw [upd_ne (ne_of_none e hz)]; exact e
  refine ⟨⟨c.hh, c.zz.trans s2, fun b u e => ?_, fun b u e => ?_⟩, s2⟩
  · by_cases q : b = p
    · subst q; rw [upd_same] at e; rw [hp]; exact e
    · rw [upd_ne q] at e; exact c.zh b u e
  · rw [upd_ne (ne_of_none e h0)]; exact c.fr b u e
/-- one's own object is changed -/
theorem Step.mut {p : Addr} {o : HO} (c : Step Z0 H0 Z H) (hz : Z p = none) (h0 : H0 p = none) : Step Z0 H0 Z (upd H p o) := by
  refine ⟨fun b u e => ?_, c.zz, fun b u e => ?_, c.fr⟩
  · rw [upd_ne (ne_of_none e h0)]; exact c.hh b u e
  · rw [upd_ne (ne_of_none e hz)]; exact c.zh b u e
/-- a list of one's own: it stands in the heap, the ghost knows nothing of it -/
structure Own {α : Type} [Py α] (K : Fr) (H0 Z H : Hp) (l : Addr) (m : List α) : Prop where
  ex : ∃ xs, H l = some (.lst xs) ∧ Paired (Py.R K Z) xs m
  nz : Z l = none
  n0 : H0 l = none
theorem Own.step {α : Type} [Py α] {l : Addr} {m : List α} (o : Own K H0 Z H l m) (st : Step Z H Z' H') : Own K H0 Z' H' l m := by
  obtain ⟨⟨xs, h, p⟩, nz, n0⟩ := o
  exact ⟨⟨xs, st.hh _ _ h, Paired.pImp (fun _ _ r => Py.mono st.zz r) p⟩, (st.fr _ _ h).trans nz, n0⟩
theorem Own.far {α : Type} [Py α] {l q : Addr} {u : HO} {m : List α} (o : Own K H0 Z H l m) (ne : l ≠ q) : Own K H0 Z (upd H q u) l m := by
  obtain ⟨⟨xs, h, p⟩, nz, n0⟩ := o
  exact ⟨⟨xs, by rw [upd_ne ne]; exact h, p⟩, nz, n0⟩
theorem Own.tell {α : Type} [Py α] {l : Addr} {m : List α} (o : Own K H0 Z H l m) (c : Step Z0 H0 Z H) : ∃ Z', Step Z0 H0 Z' H ∧ Same Z Z' ∧ Py.R K Z' (.ref l) m ∧ ∀ q, q ≠ l → Z' q = Z q := by
  obtain ⟨⟨xs, h, p⟩, nz, n0⟩ := o
  obtain ⟨c', s⟩ := c.tell h nz n0
  exact ⟨_, c', s, ⟨l, xs, rfl, upd_same, Paired.pImp (fun _ _ r => Py.mono s r) p⟩, fun q hq => upd_ne hq⟩
theorem Own.zfar {α : Type} [Py α] {l : Addr} {m : List α} (o : Own K H0 Z H l m) (s : Same Z Z') (hz : Z' l = Z l) : Own K H0 Z' H l m := by
  obtain ⟨⟨xs, h, p⟩, nz, n0⟩ := o
  exact ⟨⟨xs, h, Paired.pImp (fun _ _ r => Py.mono s r) p⟩, hz.trans nz, n0⟩
theorem Own.at {α : Type} [Py α] {l : Addr} {m : List α} (o : Own K H0 Z H l m) : ∃ u, H l = some u := let ⟨⟨_, h, _⟩, _, _⟩ := o; ⟨_, h⟩
theorem Own.ne_new {α : Type} [Py α] {l p : Addr} {m : List α} (o : Own K H0 Z H l m) (h : H p = none) : l ≠ p := let ⟨_, h1⟩ := o.at; ne_of_none h1 h
/-- a new list comes: told at once, or kept -/
def New {α : Type} [Py α] (K : Fr) (Z H : Hp) (Q : VK) (m : List α) : Prop :=
  ∀ p xs Z' H', Step Z H Z' H' → H p = none → H' p = some (.lst xs) → Z' p = none → Paired (Py.R K Z') xs m → Q (.ref p) H'
/-- something comes -/
def Tel {α : Type} [Py α] (K : Fr) (Z H : Hp) (Q : VK) (m : α) : Prop :=
  ∀ v Z' H', Step Z H Z' H' → Py.R K Z' v m → Q v H'
theorem New.tel {α : Type} [Py α] {Q : VK} {m : List α} (k : Tel K Z H Q m) : New K Z H Q m := fun p xs Z' H' st hp hl hz pr => by
  obtain ⟨c', s⟩ := st.tell hl hz hp
  exact k _ _ _ c' ⟨p, xs, rfl, upd_same, Paired.pImp (fun _ _ r => Py.mono s r) pr⟩
theorem New.own {α : Type} [Py α] {Q : VK} {m : List α} (c : Step Z0 H0 Z H) (k : ∀ p Z' H', Step Z H Z' H' → H p = none → Own K H0 Z' H' p m → Q (.ref p) H') : New K Z H Q m := fun p xs Z' H' st hp hl hz pr =>
  k p Z' H' st hp ⟨⟨xs, hl, pr⟩, hz, c.hh.free hp⟩
/-- a list laid anew -/
theorem New.lay {α : Type} [Py α] {Q : VK} {m : List α} {xs : List V} (s : Same Z H) (pr : Paired (Py.R K Z) xs m) (k : New K Z H Q m) : ∀ p, H p = none → Q (.ref p) (upd H p (.lst xs)) := fun p hp =>
  k p xs Z _ (Step.own s hp) hp upd_same (s.free hp) pr
end
/-! ### lists of plain values -/
theorem paired_emb {α : Type} [Sc α] {K : Fr} {Z : Hp} : ∀ {xs : List V} {m : List α}, Paired (Py.R K Z) xs m → xs = m.map Sc.emb
  | _, _, .nil => rfl
  | _, _, .cons r t => by
    rw [List.map_cons, ← paired_emb t, show _ = Sc.emb _ from r]
theorem paired_of {α : Type} [Sc α] {K : Fr} {Z : Hp} : ∀ (m : List α), Paired (Py.R K Z) (m.map Sc.emb) m
  | [] => .nil
  | _ :: r => .cons rfl (paired_of r)
end Cd

set_option Elab.async false
set_option linter.all false
set_option maxRecDepth 100000
set_option maxHeartbeats 4000000
namespace Cd
open PySem L2
/-! ### items and pieces -/
def inR (n : Nat) (i : Int) : Prop := -(n : Int) ≤ i ∧ i < n
theorem ixN_some {n : Nat} {i : Int} (h : inR n i) : ∃ j, ixN n i = some j ∧ j < n := by
  obtain ⟨h1, h2⟩ := h
  unfold ixN
  by_cases h0 : 0 ≤ i
  · rw [if_pos h0, if_pos h2]
    exact ⟨_, rfl, by omega⟩
  · rw [if_neg h0, if_pos h1]
    exact ⟨_, rfl, by omega⟩
def getI {α : Type} [Inhabited α] (l : List α) (i : Int) : α := (atI l i).getD default
theorem atI_get {α : Type} [Inhabited α] {l : List α} {i : Int} (h : inR l.length i) : atI l i = some (getI l i) := by
  obtain ⟨j, hj, hl⟩ := ixN_some h
  have e : atI l i = some l[j] := by
    unfold atI
    rw [hj]
    exact List.getElem?_eq_getElem hl
  unfold getI
  rw [e]
  rfl
/-- the sign at a place -/
def chS (z : Str) (i : Int) : Str := ⟨#[(atI z.cps.toList i).getD 0]⟩
def cutL {α : Type} (xs : List α) (lo hi : Option Int) : List α := (xs.drop (HT.sIx xs.length 0 lo)).take (HT.sIx xs.length xs.length hi - HT.sIx xs.length 0 lo)
end Cd
namespace PySem
open L2 Cd
theorem Paired.pCut {α : Type} {F : V → α → Prop} {xs : List V} {m : List α} (p : Paired F xs m) (lo hi : Option Int) : Paired F (cutV xs lo hi) (cutL m lo hi) := by
  unfold cutV cutL
  rw [p.pLen]
  exact (p.pDrop _).pTake _
end PySem
namespace Cd
open PySem L2
theorem atI_paired {α : Type} {F : V → α → Prop} {xs : List V} {m : List α} {i : Int} {a : α} (p : Paired F xs m) (h : atI m i = some a) : ∃ x, atI xs i = some x ∧ F x a := by
  unfold atI at h ⊢
  rw [p.pLen]
  cases e : ixN m.length i with
  | none => rw [e] at h; cases h
  | some j =>
    rw [e] at h
    exact p.pAt h
section
variable {K : Fr} {Z H Z0 H0 : Hp} {Q : VK}
theorem pyL {α : Type} [Py α] {v : V} {l : List α} (h : Py.R K Z v l) : ∃ a xs, v = .ref a ∧ Z a = some (.lst xs) ∧ Paired (Py.R K Z) xs l := h
/-! ### what the operations ask, over data -/
theorem k_eqI {i j : Int} (k : Q (.bl (decide (i = j))) H) : rEq (.int i) (.int j) H Q := by
  refine ⟨rfl, ?_⟩
  have e : decide ((V.int i) = V.int j) = decide (i = j) := decide_eq_decide.mpr ⟨V.int.inj, fun h => by rw [h]⟩
  rw [e]; exact k
theorem k_neI {i j : Int} (k : Q (.bl (!decide (i = j))) H) : rNe (.int i) (.int j) H Q := by
  refine ⟨rfl, ?_⟩
  have e : decide ((V.int i) = V.int j) = decide (i = j) := decide_eq_decide.mpr ⟨V.int.inj, fun h => by rw [h]⟩
  rw [e]; exact k
theorem k_eqS {i j : Str} (k : Q (.bl (decide (i = j))) H) : rEq (.str i) (.str j) H Q := by
  refine ⟨rfl, ?_⟩
  have e : decide ((V.str i) = V.str j) = decide (i = j) := decide_eq_decide.mpr ⟨V.str.inj, fun h => by rw [h]⟩
  rw [e]; exact k
theorem k_neS {i j : Str} (k : Q (.bl (!decide (i = j))) H) : rNe (.str i) (.str j) H Q := by
  refine ⟨rfl, ?_⟩
  have e : decide ((V.str i) = V.str j) = decide (i = j) := decide_eq_decide.mpr ⟨V.str.inj, fun h => by rw [h]⟩
  rw [e]; exact k
theorem k_eqB {i j : Bool} (k : Q (.bl (decide (i = j))) H) : rEq (.bl i) (.bl j) H Q := by
  refine ⟨rfl, ?_⟩
  have e : decide ((V.bl i) = V.bl j) = decide (i = j) := decide_eq_decide.mpr ⟨V.bl.inj, fun h => by rw [h]⟩
  rw [e]; exact k
theorem k_neB {i j : Bool} (k : Q (.bl (!decide (i = j))) H) : rNe (.bl i) (.bl j) H Q := by
  refine ⟨rfl, ?_⟩
  have e : decide ((V.bl i) = V.bl j) = decide (i = j) := decide_eq_decide.mpr ⟨V.bl.inj, fun h => by rw [h]⟩
  rw [e]; exact k
theorem k_ixS {z : Str} {i : Int} (hs : z.length ≤ sizeLine) (hi : inR z.length i) (k : Q (.str (chS z i)) H) : rIxS (.str z) (.int i) H Q := by
  have e : z.length = z.cps.toList.length := by unfold Str.length; simp
  have h : atI z.cps.toList i = some (getI z.cps.toList i) := atI_get (by rw [← e]; exact hi)
  refine ⟨z, i, getI z.cps.toList i, rfl, rfl, hs, h, ?_⟩
  have e2 : chS z i = ⟨#[getI z.cps.toList i]⟩ := by unfold chS; rw [h]; rfl
  rw [← e2]; exact k
theorem k_ixL {α : Type} [Py α] [Inhabited α] {v : V} {l : List α} {i : Int} (zh : Same Z H) (h : Py.R K Z v l) (hi : inR l.length i) (k : ∀ y, Py.R K Z y (getI l i) → Q y H) : rIxL K v (.int i) H Q := by
  obtain ⟨a, xs, rfl, hz, p⟩ := h
  obtain ⟨x, hx, hf⟩ := atI_paired p (atI_get hi)
  exact ⟨a, xs, i, x, rfl, rfl, SqL.of (zh _ _ hz), hx, k x hf⟩
theorem k_ixLs {α : Type} [Sc α] [Inhabited α] {v : V} {l : List α} {i : Int} (zh : Same Z H) (h : Py.R K Z v l) (hi : inR l.length i) (k : Q (Sc.emb (getI l i)) H) : rIxL K v (.int i) H Q :=
  k_ixL zh h hi fun y hy => by
    obtain rfl := (show y = Sc.emb (getI l i) from hy)
    exact k
theorem k_ixO {α : Type} [Py α] [Inhabited α] {p : Addr} {l : List α} {i : Int} (o : Own K H0 Z H p l) (hi : inR l.length i) (k : ∀ y, Py.R K Z y (getI l i) → Q y H) : rIxL K (.ref p) (.int i) H Q := by
  obtain ⟨⟨xs, hz, pr⟩, _, _⟩ := o
  obtain ⟨x, hx, hf⟩ := atI_paired pr (atI_get hi)
  exact ⟨p, xs, i, x, rfl, rfl, SqL.of hz, hx, k x hf⟩
theorem k_ixOs {α : Type} [Sc α] [Inhabited α] {p : Addr} {l : List α} {i : Int} (o : Own K H0 Z H p l) (hi : inR l.length i) (k : Q (Sc.emb (getI l i)) H) : rIxL K (.ref p) (.int i) H Q :=
  k_ixO o hi fun y hy => by
    obtain rfl := (show y = Sc.emb (getI l i) from hy)
    exact k
/-- an item of the script -/
theorem k_ixR {v : V} {l : Scr} {i : Int} (zh : Same Z H) (h : Py.R K Z v l) (hi : inR l.ns.length i) (k : Q (.int (getI l.ns i)) H) : rIxL K v (.int i) H Q := by
  obtain ⟨a, rfl, hz⟩ := h
  refine ⟨a, l.ns.map V.int, i, .int (getI l.ns i), rfl, rfl, zh.seq hz, ?_, k⟩
  have h1 := atI_get hi
  unfold atI at h1 ⊢
  rw [List.length_map]
  cases e : ixN l.ns.length i with
  | none => rw [e] at h1; cases h1
  | some j =>
    rw [e] at h1
    show (l.ns.map V.int)[j]? = _
    have h2 : l.ns[j]? = some (getI l.ns i) := h1
    rw [List.getElem?_map, h2]
    rfl
/-- the first and the second of a pair -/
theorem k_fst {α β : Type} [Py α] [Py β] {v : V} {p : α × β} (zh : Same Z H) (h : Py.R K Z v p) (k : ∀ y, Py.R K Z y p.1 → Q y H) : rIxT K v (.int 0) H Q := by
  obtain ⟨a, x, y, rfl, hz, hx, hy⟩ := h
  exact ⟨a, [x, y], 0, x, rfl, rfl, SqT.of (zh _ _ hz), rfl, k x hx⟩
theorem k_snd {α β : Type} [Py α] [Py β] {v : V} {p : α × β} (zh : Same Z H) (h : Py.R K Z v p) (k : ∀ y, Py.R K Z y p.2 → Q y H) : rIxT K v (.int 1) H Q := by
  obtain ⟨a, x, y, rfl, hz, hx, hy⟩ := h
  exact ⟨a, [x, y], 1, y, rfl, rfl, SqT.of (zh _ _ hz), rfl, k y hy⟩
theorem k_fstS {α β : Type} [Sc α] [Py β] {v : V} {p : α × β} (zh : Same Z H) (h : Py.R K Z v p) (k : Q (Sc.emb p.1) H) : rIxT K v (.int 0) H Q :=
  k_fst zh h fun y hy => by obtain rfl := (show y = Sc.emb p.1 from hy); exact k
theorem k_sndS {α β : Type} [Py α] [Sc β] {v : V} {p : α × β} (zh : Same Z H) (h : Py.R K Z v p) (k : Q (Sc.emb p.2) H) : rIxT K v (.int 1) H Q :=
  k_snd zh h fun y hy => by obtain rfl := (show y = Sc.emb p.2 from hy); exact k
theorem k_len {α : Type} [Py α] {v : V} {l : List α} (zh : Same Z H) (h : Py.R K Z v l) (k : Q (.int (l.length : Int)) H) : ∃ p ys, [v] = [V.ref p] ∧ (SqL K H p ys ∨ SqT K H p ys) ∧ Q (.int ys.length) H := by
  obtain ⟨a, xs, rfl, hz, p⟩ := h
  exact ⟨a, xs, rfl, .inl (SqL.of (zh _ _ hz)), by rw [p.pLen]; exact k⟩
theorem k_lenO {α : Type} [Py α] {p : Addr} {l : List α} (o : Own K H0 Z H p l) (k : Q (.int (l.length : Int)) H) : ∃ q ys, [V.ref p] = [V.ref q] ∧ (SqL K H q ys ∨ SqT K H q ys) ∧ Q (.int ys.length) H := by
  obtain ⟨⟨xs, hz, pr⟩, _, _⟩ := o
  exact ⟨p, xs, rfl, .inl (SqL.of hz), by rw [pr.pLen]; exact k⟩
theorem k_lenR {v : V} {l : Scr} (zh : Same Z H) (h : Py.R K Z v l) (k : Q (.int (l.ns.length : Int)) H) : ∃ p ys, [v] = [V.ref p] ∧ (SqL K H p ys ∨ SqT K H p ys) ∧ Q (.int ys.length) H := by
  obtain ⟨a, rfl, hz⟩ := h
  exact ⟨a, _, rfl, .inl (zh.seq hz), by rw [List.length_map]; exact k⟩
/-- a new pair -/
theorem k_pair {α β : Type} [Py α] [Py β] {x y : V} {a : α} {b : β} (zh : Same Z H) (hx : Py.R K Z x a) (hy : Py.R K Z y b) (k : Tel K Z H Q (a, b)) : ([x, y] : List V).length ≤ sizeLine ∧ ∀ p, H p = none → Q (.ref p) (upd H p (.tup [x, y])) := by
  refine ⟨by show 2 ≤ sizeLine; decide, fun p hp => ?_⟩
  have st := Step.new (o := .tup [x, y]) zh hp
  exact k _ _ _ st ⟨p, x, y, rfl, upd_same, Py.mono st.zz hx, Py.mono st.zz hy⟩
/-- a new list of written items -/
theorem k_list {α : Type} [Py α] {xs : List V} {m : List α} (zh : Same Z H) (pr : Paired (Py.R K Z) xs m) (hs : xs.length ≤ sizeLine) (k : New K Z H Q m) : xs.length ≤ sizeLine ∧ ∀ p, H p = none → Q (.ref p) (upd H p (.lst xs)) :=
  ⟨hs, New.lay zh pr k⟩
theorem k_slL {α : Type} [Py α] {v : V} {l : List α} {lo hi : Option Int} (zh : Same Z H) (h : Py.R K Z v l) (k : New K Z H Q (cutL l lo hi)) : rSlL K v lo hi H Q := by
  obtain ⟨a, xs, rfl, hz, p⟩ := h
  exact ⟨a, xs, rfl, SqL.of (zh _ _ hz), New.lay zh (p.pCut lo hi) k⟩
theorem k_slO {α : Type} [Py α] {q : Addr} {l : List α} {lo hi : Option Int} (zh : Same Z H) (o : Own K H0 Z H q l) (k : New K Z H Q (cutL l lo hi)) : rSlL K (.ref q) lo hi H Q := by
  obtain ⟨⟨xs, hz, pr⟩, _, _⟩ := o
  exact ⟨q, xs, rfl, SqL.of hz, New.lay zh (pr.pCut lo hi) k⟩
theorem cutV_map (f : Int → V) (ns : List Int) (lo hi : Option Int) : cutV (ns.map f) lo hi = (cutL ns lo hi).map f := by
  unfold cutV cutL
  rw [List.length_map, List.map_take, List.map_drop]
theorem k_slR {v : V} {l : Scr} {lo hi : Option Int} (zh : Same Z H) (h : Py.R K Z v l) (k : New K Z H Q (cutL l.ns lo hi)) : rSlL K v lo hi H Q := by
  obtain ⟨a, rfl, hz⟩ := h
  refine ⟨a, _, rfl, zh.seq hz, ?_⟩
  rw [cutV_map]
  exact New.lay zh (paired_of (α := Int) _) k
theorem k_cat {α : Type} [Py α] {x y : V} {l m : List α} (zh : Same Z H) (hx : Py.R K Z x l) (hy : Py.R K Z y m) (hs : l.length + m.length ≤ sizeLine) (k : New K Z H Q (l ++ m)) : rCat x y H Q := by
  obtain ⟨a, xs, rfl, hz, p⟩ := hx
  obtain ⟨b, ys, rfl, hz2, p2⟩ := hy
  exact ⟨a, b, xs, ys, rfl, rfl, zh _ _ hz, zh _ _ hz2, by rw [p.pLen, p2.pLen]; exact hs, New.lay zh (p.pApp p2) k⟩
/-- list(..) -/
theorem k_listL {α : Type} [Py α] {v : V} {l : List α} (zh : Same Z H) (h : Py.R K Z v l) (k : New K Z H Q l) : ∃ p ys, [v] = [V.ref p] ∧ (SqL K H p ys ∨ SqT K H p ys) ∧ ∀ q, H q = none → Q (.ref q) (upd H q (.lst ys)) := by
  obtain ⟨a, xs, rfl, hz, p⟩ := h
  exact ⟨a, xs, rfl, .inl (SqL.of (zh _ _ hz)), New.lay zh p k⟩
/-- l.append(x) -/
theorem k_append {α : Type} [Py α] {q : Addr} {v : V} {l : List α} {a : α} (o : Own K H0 Z H q l) (h : Py.R K Z v a) (hs : l.length < sizeLine) (k : ∀ u, Own K H0 Z (upd H q u) q (l ++ [a]) → Q .non (upd H q u)) : rAppend (.ref q) [v] H Q := by
  obtain ⟨⟨xs, hz, pr⟩, nz, n0⟩ := o
  exact ⟨q, xs, v, rfl, rfl, hz, by rw [pr.pLen]; exact hs, k _ ⟨⟨_, upd_same, pr.pApp (.cons h .nil)⟩, nz, n0⟩⟩
theorem k_extend {α : Type} [Py α] {q : Addr} {v : V} {l m : List α} (zh : Same Z H) (o : Own K H0 Z H q l) (h : Py.R K Z v m) (hs : l.length + m.length ≤ sizeLine) (k : ∀ u, Own K H0 Z (upd H q u) q (l ++ m) → Q .non (upd H q u)) : rExtend (.ref q) [v] H Q := by
  obtain ⟨⟨xs, hz, pr⟩, nz, n0⟩ := o
  obtain ⟨b, ys, rfl, hb, p2⟩ := h
  exact ⟨q, b, xs, ys, rfl, rfl, hz, zh _ _ hb, by rw [pr.pLen, p2.pLen]; exact hs, k _ ⟨⟨_, upd_same, pr.pApp p2⟩, nz, n0⟩⟩
theorem k_clear {α : Type} [Py α] {q : Addr} {l : List α} (o : Own K H0 Z H q l) (k : ∀ u, Own K H0 Z (upd H q u) q ([] : List α) → Q .non (upd H q u)) : rClear (.ref q) [] H Q := by
  obtain ⟨⟨xs, hz, pr⟩, nz, n0⟩ := o
  exact ⟨q, xs, rfl, rfl, hz, k _ ⟨⟨_, upd_same, .nil⟩, nz, n0⟩⟩
/-- l[i] = x -/
def setI {α : Type} (l : List α) (i : Int) (a : α) : List α := match ixN l.length i with | some j => l.set j a | none => l
theorem k_setL {α : Type} [Py α] {q : Addr} {v : V} {l : List α} {i : Int} {a : α} {R : Hp → Prop} (o : Own K H0 Z H q l) (h : Py.R K Z v a) (hi : inR l.length i) (k : ∀ u, Own K H0 Z (upd H q u) q (setI l i a) → R (upd H q u)) : rSetL (.ref q) (.int i) v H R := by
  obtain ⟨⟨xs, hz, pr⟩, nz, n0⟩ := o
  obtain ⟨j, hj, hl⟩ := ixN_some hi
  refine ⟨q, xs, i, j, rfl, rfl, hz, by rw [pr.pLen]; exact hj, k _ ⟨⟨_, upd_same, ?_⟩, nz, n0⟩⟩
  unfold setI
  rw [hj]
  exact pr.pSet h j
theorem tyO {α : Type} [Py α] {q : Addr} {l : List α} (o : Own K H0 Z H q l) : tyV K "list" (.ref q) H := let ⟨⟨xs, hz, _⟩, _, _⟩ := o; .inl ⟨rfl, xs, SqL.of hz⟩
theorem tyL {α : Type} [Py α] {v : V} {l : List α} (zh : Same Z H) (h : Py.R K Z v l) : tyV K "list" v H := by
  obtain ⟨a, xs, rfl, hz, p⟩ := h
  exact .inl ⟨rfl, xs, SqL.of (zh _ _ hz)⟩
end
/-! ### tests and values with an open wish -/
theorem ansAnd {t u : TT} {σ : St} {H : Hp} {b1 b2 : Bool} {Q : Bool → Hp → Prop} (h1 : ∀ Q' : Bool → Hp → Prop, Q' b1 H → t σ H Q') (h2 : b1 = true → ∀ Q' : Bool → Hp → Prop, Q' b2 H → u σ H Q') (k : Q (b1 && b2) H) : tAnd t u σ H Q := by
  refine h1 _ ?_
  cases b1 with
  | true => exact iteT (h2 rfl _ k)
  | false => exact iteF k
theorem ansOr {t u : TT} {σ : St} {H : Hp} {b1 b2 : Bool} {Q : Bool → Hp → Prop} (h1 : ∀ Q' : Bool → Hp → Prop, Q' b1 H → t σ H Q') (h2 : b1 = false → ∀ Q' : Bool → Hp → Prop, Q' b2 H → u σ H Q') (k : Q (b1 || b2) H) : tOr t u σ H Q := by
  refine h1 _ ?_
  cases b1 with
  | true => exact iteT k
  | false => exact iteF (h2 rfl _ k)
theorem valAnd {ta tb : TE} {σ : St} {H : Hp} {b1 b2 : Bool} {Q : VK} (h1 : ∀ Q' : VK, Q' (.bl b1) H → ta σ H Q') (h2 : b1 = true → ∀ Q' : VK, Q' (.bl b2) H → tb σ H Q') (k : Q (.bl (b1 && b2)) H) : tAndV ta tb σ H Q := by
  refine h1 _ ⟨b1, rfl, ?_⟩
  cases b1 with
  | true => exact iteT (h2 rfl _ k)
  | false => exact iteF k
theorem valOr {ta tb : TE} {σ : St} {H : Hp} {b1 b2 : Bool} {Q : VK} (h1 : ∀ Q' : VK, Q' (.bl b1) H → ta σ H Q') (h2 : b1 = false → ∀ Q' : VK, Q' (.bl b2) H → tb σ H Q') (k : Q (.bl (b1 || b2)) H) : tOrV ta tb σ H Q := by
  refine h1 _ ⟨b1, rfl, ?_⟩
  cases b1 with
  | true => exact iteT k
  | false => exact iteF (h2 rfl _ k)
/-- a test that lays things: its truth b, then the branches -/
theorem testK {tt : TT} {σ : St} {Z H : Hp} {Q : Bool → Hp → Prop} (b : Bool) (ev : ∀ Q' : Bool → Hp → Prop, (∀ z Z' H', z = b → Step Z H Z' H' → Q' z H') → tt σ H Q') (k : ∀ Z' H', Step Z H Z' H' → Q b H') : tt σ H Q :=
  ev Q fun z Z' H' e st => by rw [e]; exact k Z' H' st
theorem valK {te : TE} {σ : St} {Z H : Hp} {Q : VK} (b : Bool) (ev : ∀ Q' : VK, (∀ z Z' H', z = b → Step Z H Z' H' → Q' (.bl z) H') → te σ H Q') (k : ∀ Z' H', Step Z H Z' H' → Q (.bl b) H') : te σ H Q :=
  ev Q fun z Z' H' e st => by rw [e]; exact k Z' H' st
/-! ### names -/
theorem storeI {i : Nat} {a : Int} {σ : St} {H : Hp} {Q : St → Hp → Prop} (k : ∀ x, x = a → Q (σ.set i (some (.int x))) H) : gName i (.int a) σ H Q := k a rfl
theorem storeS {i : Nat} {a : Str} {σ : St} {H : Hp} {Q : St → Hp → Prop} (k : ∀ x, x = a → Q (σ.set i (some (.str x))) H) : gName i (.str a) σ H Q := k a rfl
theorem storeB {i : Nat} {a : Bool} {σ : St} {H : Hp} {Q : St → Hp → Prop} (k : ∀ x, x = a → Q (σ.set i (some (.bl x))) H) : gName i (.bl a) σ H Q := k a rfl
end Cd

set_option Elab.async false
set_option linter.all false
set_option maxRecDepth 100000
set_option maxHeartbeats 4000000
namespace Cd
open PySem L2
/-! ### loops: what is walked, as a list -/
/-- J walks L while the ghost's Z stands; Y tells what a turn hands out -/
structure Src {γ : Type} (J : It) (Z : Hp) (L : List γ) (Y : γ → V → Hp → Hp → Prop) : Prop where
  go : ∀ i a H, L[i]? = some a → Same Z H → J.go i H
  yld : ∀ i a H x H', L[i]? = some a → Same Z H → J.yld i H x H' → Y a x H H'
  stop : ∀ H, Same Z H → J.stop L.length H
def forRest (J : It) (g : TG) (tb : TS) (D : Ends) (σ : St) (H : Hp) : Prop := ∃ W : Nat → Nat → St → Hp → Prop, (∃ m, W 0 m σ H) ∧ ∀ i m σ H, W i m σ H →
  (J.stop i H ∧ D.nx σ H) ∨ (J.go i H ∧ ∃ N : St → Hp → Prop, (∀ σ' H', N σ' H' → ∃ m', m' < m ∧ W (i + 1) m' σ' H') ∧ ∀ x H', J.yld i H x H' → g x σ H' fun σ2 H2 => tb { D with nx := N, ct := N, bk := D.nx } σ2 H2)
section
variable {γ : Type} {J : It} {g : TG} {tb : TS} {D : Ends} {σ : St} {H Z : Hp} {L : List γ} {Y : γ → V → Hp → Hp → Prop}
theorem forK (src : Src J Z L Y) (Pv : List γ → St → Hp → Hp → Prop) (keep : ∀ r σ H' Z', Pv r σ H' Z' → Same Z Z' ∧ Same Z' H') (h0 : ∃ Z', Pv L σ H Z')
    (turn : ∀ a r x σ H' H2 Z', a ∈ L → (∃ d, L = d ++ a :: r) → Pv (a :: r) σ H' Z' → Y a x H' H2 → g x σ H2 fun σ2 H3 => tb { D with nx := fun σ' H' => ∃ Z2, Pv r σ' H' Z2, ct := fun σ' H' => ∃ Z2, Pv r σ' H' Z2, bk := D.nx } σ2 H3)
    (done : ∀ σ H' Z', Pv [] σ H' Z' → D.nx σ H') : forRest J g tb D σ H := by
  refine ⟨fun i m σ H' => i ≤ L.length ∧ m = L.length - i ∧ ∃ Z', Pv (L.drop i) σ H' Z', ⟨L.length, Nat.zero_le _, by omega, h0⟩, ?_⟩
  rintro i m σ H' ⟨hi, rfl, Z', hp⟩
  obtain ⟨k1, k2⟩ := keep _ _ _ _ hp
  have zs : Same Z H' := k1.trans k2
  by_cases hlt : i < L.length
  · have e : L.drop i = L[i] :: L.drop (i + 1) := List.drop_eq_getElem_cons hlt
    have ea : L[i]? = some L[i] := List.getElem?_eq_getElem hlt
    rw [e] at hp
    refine .inr ⟨src.go i _ H' ea zs, fun σ' H' => ∃ Z2, Pv (L.drop (i + 1)) σ' H' Z2, fun σ' H2 q => ⟨L.length - (i + 1), by omega, hlt, rfl, q⟩, fun x H2 y => ?_⟩
    exact turn _ _ x σ H' H2 Z' (List.getElem_mem hlt) ⟨L.take i, by rw [← e, List.take_append_drop]⟩ hp (src.yld i _ H' x H2 ea zs y)
  · have e : i = L.length := by omega
    subst e
    rw [List.drop_length] at hp
    exact .inl ⟨src.stop H' zs, done σ H' Z' hp⟩
end
section
variable {K : Fr} {Z H : Hp}
/-- a list's items -/
theorem src_list {α : Type} [Py α] {a : Addr} {xs : List V} {l : List α} (hz : Z a = some (.lst xs)) (p : Paired (Py.R K Z) xs l) : Src (Itl K a) Z l (fun b x H H' => H' = H ∧ Py.R K Z x b) := by
  refine ⟨fun i b H' e s => ?_, fun i b H' x H2 e s y => ?_, fun H' s => ?_⟩
  · obtain ⟨x, h1, h2⟩ := p.pAt e
    exact ⟨xs, x, SqL.of (s _ _ hz), h1⟩
  · obtain ⟨rfl, y⟩ := y
    obtain ⟨x', h1, h2⟩ := p.pAt e
    have h3 := y xs (SqL.of (s _ _ hz))
    rw [h1] at h3
    cases h3
    exact ⟨rfl, h2⟩
  · exact ⟨xs, SqL.of (s _ _ hz), by rw [p.pLen]; exact Nat.le_refl _⟩
theorem src_scr {a : Addr} {ns : List Int} (hz : SqL K Z a (ns.map V.int)) : Src (Itl K a) Z ns (fun b x H H' => H' = H ∧ x = V.int b) := by
  refine ⟨fun i b H' e s => ?_, fun i b H' x H2 e s y => ?_, fun H' s => ?_⟩
  · exact ⟨_, .int b, s.seq hz, by rw [List.getElem?_map, e]; rfl⟩
  · obtain ⟨rfl, y⟩ := y
    have h3 := y _ (s.seq hz)
    rw [List.getElem?_map, e] at h3
    cases h3
    exact ⟨rfl, rfl⟩
  · exact ⟨_, s.seq hz, by rw [List.length_map]; exact Nat.le_refl _⟩
/-- lo, lo + 1, .. -/
def rangeL (lo : Int) (n : Nat) : List Int := (List.range n).map fun (i : Nat) => lo + (i : Int)
theorem rangeL_len (lo : Int) (n : Nat) : (rangeL lo n).length = n := by unfold rangeL; rw [List.length_map, List.length_range]
theorem rangeL_at {lo : Int} {n i : Nat} {a : Int} (h : (rangeL lo n)[i]? = some a) : i < n ∧ a = lo + (i : Int) := by
  unfold rangeL at h
  rw [List.getElem?_map] at h
  by_cases hi : i < n
  · rw [List.getElem?_range hi] at h
    cases h
    exact ⟨hi, rfl⟩
  · rw [List.getElem?_eq_none (by rw [List.length_range]; omega)] at h
    cases h
theorem mem_rangeL {lo : Int} {n : Nat} {a : Int} : a ∈ rangeL lo n ↔ lo ≤ a ∧ a < lo + (n : Int) := by
  unfold rangeL
  rw [List.mem_map]
  constructor
  · rintro ⟨i, h, rfl⟩
    rw [List.mem_range] at h
    omega
  · intro h
    exact ⟨(a - lo).toNat, by rw [List.mem_range]; omega, by omega⟩
theorem src_range (lo : Int) (n : Nat) : Src (Itr lo n) Z (rangeL lo n) (fun b x H H' => H' = H ∧ x = V.int b) := by
  refine ⟨fun i b H' e s => (rangeL_at e).1, fun i b H' x H2 e s y => ?_, fun H' s => ?_⟩
  · obtain ⟨rfl, rfl⟩ := y
    rw [(rangeL_at e).2]
    exact ⟨rfl, rfl⟩
  · rw [rangeL_len]
    exact Nat.le_refl n
/-- range with a step -/
def rangeC (lo c : Int) (n : Nat) : List Int := (List.range n).map fun (i : Nat) => lo + (i : Int) * c
theorem src_rangeC (lo c : Int) (n : Nat) : Src (Itc lo c n) Z (rangeC lo c n) (fun b x H H' => H' = H ∧ x = V.int b) := by
  have hl : (rangeC lo c n).length = n := by unfold rangeC; rw [List.length_map, List.length_range]
  have hat : ∀ i a, (rangeC lo c n)[i]? = some a → i < n ∧ a = lo + (i : Int) * c := fun i a h => by
    unfold rangeC at h
    rw [List.getElem?_map] at h
    by_cases hi : i < n
    · rw [List.getElem?_range hi] at h
      cases h
      exact ⟨hi, rfl⟩
    · rw [List.getElem?_eq_none (by rw [List.length_range]; omega)] at h
      cases h
  refine ⟨fun i b H' e s => (hat _ _ e).1, fun i b H' x H2 e s y => ?_, fun H' s => ?_⟩
  · obtain ⟨rfl, rfl⟩ := y
    rw [(hat _ _ e).2]
    exact ⟨rfl, rfl⟩
  · rw [hl]
    exact Nat.le_refl n
/-- a text's signs -/
def chars (z : Str) : List Str := z.cps.toList.map fun c => ⟨#[c]⟩
theorem chars_len (z : Str) : (chars z).length = z.cps.size := by unfold chars; rw [List.length_map]; simp
theorem src_str (z : Str) : Src (Its z) Z (chars z) (fun b x H H' => H' = H ∧ x = V.str b) := by
  refine ⟨fun i b H' e s => ?_, fun i b H' x H2 e s y => ?_, fun H' s => ?_⟩
  · have h := (List.getElem?_eq_some_iff.mp e).1
    rw [chars_len] at h
    exact h
  · obtain ⟨rfl, c, hc, rfl⟩ := y
    unfold chars at e
    rw [List.getElem?_map] at e
    have h2 : z.cps.toList[i]? = some c := by rw [← hc]; simp
    rw [h2] at e
    cases e
    exact ⟨rfl, rfl⟩
  · rw [chars_len]
    exact Nat.le_refl _
/-- pairs: a turn lays a new tuple -/
def YP {α β : Type} (RA : V → α → Prop) (RB : V → β → Prop) : (α × β) → V → Hp → Hp → Prop := fun p x H H' => ∃ T u v, x = V.ref T ∧ H T = none ∧ H' = upd H T (.tup [u, v]) ∧ RA u p.1 ∧ RB v p.2
def enumL {α : Type} (k : Int) (l : List α) : List (Int × α) := (rangeL k l.length).zip l
theorem src_enum {α : Type} [Py α] {a : Addr} {xs : List V} {l : List α} (hz : Z a = some (.lst xs)) (p : Paired (Py.R K Z) xs l) : Src (Ite K a) Z (enumL 0 l) (YP (fun u (i : Int) => u = V.int i) (Py.R K Z)) := by
  have hl : (enumL 0 l).length = l.length := by unfold enumL; rw [List.length_zip, rangeL_len]; omega
  have hat : ∀ (i : Nat) (q : Int × α), (enumL 0 l)[i]? = some q → q.1 = (i : Int) ∧ l[i]? = some q.2 := fun i q h => by
    unfold enumL at h
    rw [List.getElem?_zip_eq_some] at h
    obtain ⟨h1, h2⟩ := h
    have h3 := (rangeL_at h1).2
    exact ⟨by rw [h3]; omega, h2⟩
  refine ⟨fun i b H' e s => ?_, fun i b H' x H2 e s y => ?_, fun H' s => ?_⟩
  · obtain ⟨x, h1, h2⟩ := p.pAt (hat _ _ e).2
    exact ⟨xs, x, SqL.of (s _ _ hz), h1⟩
  · obtain ⟨T, u, rfl, hT, rfl, hu⟩ := y
    obtain ⟨e1, e2⟩ := hat _ _ e
    obtain ⟨x', h1, h2⟩ := p.pAt e2
    have h3 := hu xs (SqL.of (s _ _ hz))
    rw [h1] at h3
    cases h3
    exact ⟨T, _, _, rfl, hT, rfl, by rw [e1], h2⟩
  · exact ⟨xs, SqL.of (s _ _ hz), by rw [hl, p.pLen]; exact Nat.le_refl _⟩
theorem src_zip {α β : Type} [Py α] [Py β] {a b : Addr} {xs ys : List V} {l : List α} {m : List β} (hz : Z a = some (.lst xs)) (p : Paired (Py.R K Z) xs l) (hz2 : Z b = some (.lst ys)) (p2 : Paired (Py.R K Z) ys m) :
    Src (Itz K a b) Z (l.zip m) (YP (Py.R K Z) (Py.R K Z)) := by
  have hat : ∀ (i : Nat) (q : α × β), (l.zip m)[i]? = some q → l[i]? = some q.1 ∧ m[i]? = some q.2 := fun i q h => List.getElem?_zip_eq_some.mp h
  refine ⟨fun i q H' e s => ?_, fun i q H' x H2 e s y => ?_, fun H' s => ?_⟩
  · obtain ⟨x, h1, h2⟩ := p.pAt (hat _ _ e).1
    obtain ⟨y, h3, h4⟩ := p2.pAt (hat _ _ e).2
    exact ⟨xs, ys, x, y, SqL.of (s _ _ hz), SqL.of (s _ _ hz2), h1, h3⟩
  · obtain ⟨T, u, v, rfl, hT, rfl, hu, hv⟩ := y
    obtain ⟨x', h1, h2⟩ := p.pAt (hat _ _ e).1
    obtain ⟨y', h3, h4⟩ := p2.pAt (hat _ _ e).2
    have h5 := hu xs (SqL.of (s _ _ hz))
    have h6 := hv ys (SqL.of (s _ _ hz2))
    rw [h1] at h5
    rw [h3] at h6
    cases h5
    cases h6
    exact ⟨T, _, _, rfl, hT, rfl, h2, h4⟩
  · refine ⟨xs, ys, SqL.of (s _ _ hz), SqL.of (s _ _ hz2), ?_⟩
    rw [List.length_zip, p.pLen, p2.pLen]
    omega
/-! ### one turn's target -/
theorem tgt1 {i : Nat} {x : V} {σ : St} {H : Hp} {Q : St → Hp → Prop} (k : Q (σ.set i (some x)) H) : gName i x σ H Q := k
theorem tgt2 {α β : Type} {RA : V → α → Prop} {RB : V → β → Prop} {p : α × β} {i j : Nat} {x : V} {σ : St} {H H' Z : Hp} {Q : St → Hp → Prop} (zh : Same Z H) (y : YP RA RB p x H H') (k : ∀ u v, RA u p.1 → RB v p.2 → Step Z H Z H' → Q ((σ.set i (some u)).set j (some v)) H') :
    gTup K 2 (gCons (gName i) (gCons (gName j) gNil)) x σ H' Q := by
  obtain ⟨T, u, v, rfl, hT, rfl, h1, h2⟩ := y
  exact ⟨T, [u, v], rfl, SqT.of upd_same, rfl, u, [v], rfl, v, [], rfl, rfl, k u v h1 h2 (Step.own zh hT)⟩
end
/-! ### the mirrors' loops -/
inductive LR (S R : Type) where
  | nxt (s : S) | brk (s : S) | ret (r : R)
def LR.bind {S R : Type} (x : LR S R) (k : S → R) : R := match x with
  | .nxt s => k s
  | .brk s => k s
  | .ret r => r
def loopR {α S R : Type} (f : S → α → LR S R) : S → List α → LR S R
  | s, [] => .nxt s
  | s, x :: r => match f s x with
    | .nxt s' => loopR f s' r
    | .brk s' => .brk s'
    | .ret v => .ret v
def loopS {α S : Type} (f : S → α → S) : S → List α → S
  | s, [] => s
  | s, x :: r => loopS f (f s x) r
theorem loopS_foldl {α S : Type} (f : S → α → S) : ∀ (l : List α) (s : S), loopS f s l = l.foldl f s
  | [], _ => rfl
  | x :: r, s => loopS_foldl f r (f s x)
theorem loopR_nxt {α S R : Type} {f : S → α → LR S R} {s s' : S} {x : α} {r : List α} {t : LR S R} (h : loopR f s (x :: r) = t) (e : f s x = .nxt s') : loopR f s' r = t := by
  rw [← h]; show _ = (match f s x with | .nxt s' => loopR f s' r | .brk s' => .brk s' | .ret v => .ret v); rw [e]
theorem loopR_brk {α S R : Type} {f : S → α → LR S R} {s s' : S} {x : α} {r : List α} {t : LR S R} (h : loopR f s (x :: r) = t) (e : f s x = .brk s') : t = .brk s' := by
  rw [← h]; show (match f s x with | .nxt s' => loopR f s' r | .brk s' => .brk s' | .ret v => .ret v) = _; rw [e]
theorem loopR_ret {α S R : Type} {f : S → α → LR S R} {s : S} {v : R} {x : α} {r : List α} {t : LR S R} (h : loopR f s (x :: r) = t) (e : f s x = .ret v) : t = .ret v := by
  rw [← h]; show (match f s x with | .nxt s' => loopR f s' r | .brk s' => .brk s' | .ret v => .ret v) = _; rw [e]
theorem bind_nxt {S R : Type} {x : LR S R} {s : S} {k : S → R} (h : x = .nxt s) : x.bind k = k s := by rw [h]; rfl
theorem bind_brk {S R : Type} {x : LR S R} {s : S} {k : S → R} (h : x = .brk s) : x.bind k = k s := by rw [h]; rfl
theorem bind_ret {S R : Type} {x : LR S R} {r : R} {k : S → R} (h : x = .ret r) : x.bind k = r := by rw [h]; rfl
/-! ### comprehensions -/
section
variable {γ β : Type} [Py β] {K : Fr} {J : It} {g : TG} {tt : TT} {te : TE} {σ : St} {H Z : Hp} {L : List γ} {Y : γ → V → Hp → Hp → Prop} {vs : List Nat} {Q : VK}
theorem lcK (src : Src J Z L Y) (zh : Same Z H) (f : γ → β) (p : γ → Bool) (hs : L.length < sizeLine)
    (el : ∀ a x Z' H' H2 (C : VK) (N : Hp → Prop), a ∈ L → Step Z H Z' H' → Y a x H' H2 →
      (∀ y Z2 H3, Step Z' H' Z2 H3 → p a = true → Py.R K Z2 y (f a) → C y H3) → (∀ Z2 H3, Step Z' H' Z2 H3 → p a = false → N H3) →
      g x (wipe σ vs) H2 fun σ2 H3 => wipe σ2 vs = wipe σ vs ∧ tt σ2 H3 fun b H4 => if b = true then te σ2 H4 C else N H4)
    (k : New K Z H Q ((L.filter p).map f)) :
    ∀ D, H D = none → ∃ W : Nat → Nat → Hp → Prop, (∃ m, W 0 m (upd H D (.lst []))) ∧ ∀ i m H, W i m H →
      (J.stop i H ∧ Q (.ref D)  H) ∨ (J.go i H ∧ ∃ Nx : Hp → Prop, (∀ H', Nx H' → ∃ m', m' < m ∧ W (i + 1) m' H') ∧ ∀ x H', J.yld i H x H' → g x (wipe σ vs) H' fun σ2 H2 => wipe σ2 vs = wipe σ vs ∧ tt σ2 H2 fun b H3 =>
        if b = true then te σ2 H3 fun y H4 => ∃ acc, H4 D = some (.lst acc) ∧ acc.length < sizeLine ∧ Nx (upd H4 D (.lst (acc ++ [y]))) else Nx H3) := by
  intro D hD
  let Pv : Nat → Hp → Prop := fun i H' => i ≤ L.length ∧ ∃ Z', Step Z H Z' H' ∧ Own K H Z' H' D (((L.take i).filter p).map f)
  have s0 : Step Z H Z (upd H D (.lst [])) := Step.own zh hD
  refine ⟨fun i m H' => m = L.length - i ∧ Pv i H', ⟨L.length, by omega, Nat.zero_le _, Z, s0, ⟨[], upd_same, .nil⟩, zh.free hD, hD⟩, ?_⟩
  rintro i m H' ⟨rfl, hi, Z', st, ow⟩
  have zs : Same Z H' := st.zz.trans st.zh
  by_cases hlt : i < L.length
  · have ea : L[i]? = some L[i] := List.getElem?_eq_getElem hlt
    refine .inr ⟨src.go i _ H' ea zs, Pv (i + 1), fun H2 q => ⟨L.length - (i + 1), by omega, rfl, q⟩, fun x H2 y => ?_⟩
    have et : L.take (i + 1) = L.take i ++ [L[i]] := by rw [List.take_add_one, ea]; rfl
    refine el L[i] x Z' H' H2 _ _ (List.getElem_mem hlt) st (src.yld i _ H' x H2 ea zs y) (fun y Z2 H3 st2 hp hr => ?_) (fun Z2 H3 st2 hp => ?_)
    · have ow2 := ow.step st2
      obtain ⟨⟨acc, h1, p1⟩, nz, n0⟩ := ow2
      refine ⟨acc, h1, ?_, hlt, Z2, (st.trans st2).mut nz n0, ⟨acc ++ [y], upd_same, ?_⟩, nz, n0⟩
      · rw [p1.pLen, List.length_map]
        have := List.length_filter_le p (L.take i)
        rw [List.length_take] at this
        omega
      · rw [et, List.filter_append, List.map_append, List.filter_cons_of_pos hp]
        exact p1.pApp (.cons hr .nil)
    · refine ⟨hlt, Z2, st.trans st2, ?_⟩
      have e : ((L.take (i + 1)).filter p).map f = ((L.take i).filter p).map f := by
        rw [et, List.filter_append, List.filter_cons_of_neg (by rw [hp]; exact Bool.false_ne_true)]
        simp
      rw [e]
      exact ow.step st2
  · have e : i = L.length := by omega
    subst e
    rw [List.take_length] at ow
    refine .inl ⟨src.stop H' zs, ?_⟩
    obtain ⟨⟨acc, h1, p1⟩, nz, n0⟩ := ow
    exact k D acc Z' H' st hD h1 nz p1
end
/-! ### a def of the text, as it is called -/
structure Cal (P : Program) (w : World) (K : Fr) (mg : Str → Option Value) (base : Heap) (CX : CXT) (x : Str) (k : Nat) (ps : List Str) (sp : Sp) : Prop where
  ex : ∃ f fd, FnOk P w K mg base CX k f fd ps sp ∧ mg x = some (.ref f) ∧ PySem.W.keepIn K (.ref f) = true ∧ Binds K fd ps []
section
variable {X : Cx} {CX : CXT} {x : Str} {k : Nat} {ps : List Str} {sp : Sp} {E : XK} {t : TA} {e : Expr} {es : List Expr} {p pos : Pos}
theorem pe_cal (c : Cal X.prog X.w X.K X.mg X.base CX x k ps sp) (hr : Room k X.A) (hx : Passes CX X E) (ha : PA X (e :: es) t) (hg : Gl X x := by rfl) (hdb : (x == ("__debug__" : Str)) = false := by decide)
    (he : starEach (e :: es) X.env = (false, eval e X.env) :: starEach es X.env := by rfl) (hpl : (backTo pos (starEach es X.env)).any (·.1) = false := by rfl) : PE X (.Call (.Name x p) (e :: es) [] pos) (tCall sp [] E t) := by
  obtain ⟨f, fd, F, hm, hk, hb⟩ := c.ex
  exact pe_call F hr hg hm hk hb .nil hx ha hdb he hpl
theorem pe_cal0 (c : Cal X.prog X.w X.K X.mg X.base CX x k ps sp) (hr : Room k X.A) (hx : Passes CX X E) (hg : Gl X x := by rfl) (hdb : (x == ("__debug__" : Str)) = false := by decide) :
    PE X (.Call (.Name x p) [] [] pos) (tCall sp [] E tNil) := by
  obtain ⟨f, fd, F, hm, hk, hb⟩ := c.ex
  exact pe_call0 F hr hg hm hk hb .nil hx hdb
end
end Cd

set_option Elab.async false
set_option linter.all false
set_option maxRecDepth 100000
set_option maxHeartbeats 4000000
namespace Cd
open PySem L2
section
variable {K : Fr} {Z H Z0 H0 Z' H' : Hp} {Q : VK}
/-! ### wishes handed on -/
theorem Tel.sc {α : Type} [Sc α] {m : α} (k : ∀ Z' H', Step Z H Z' H' → Q (Sc.emb m) H') : Tel K Z H Q m := fun v Z' H' st h => by
  obtain rfl := (show v = Sc.emb m from h)
  exact k Z' H' st
theorem Tel.gen {α : Type} [Py α] {m : α} (k : ∀ n, n = m → Tel K Z H Q n) : Tel K Z H Q m := k m rfl
theorem Tel.genS {α : Type} [Sc α] {m : α} (k : ∀ n, n = m → ∀ Z' H', Step Z H Z' H' → Q (Sc.emb n) H') : Tel K Z H Q m := Tel.sc (k m rfl)
theorem New.gen {α : Type} [Py α] {m : List α} (k : ∀ n, n = m → New K Z H Q n) : New K Z H Q m := k m rfl
theorem New.after {α : Type} [Py α] {m : List α} (c : Step Z0 H0 Z H) (k : New K Z0 H0 Q m) : New K Z H Q m := fun p xs Z' H' st hp hl hz pr => k p xs Z' H' (c.trans st) (c.hh.free hp) hl hz pr
theorem Own.ret {α : Type} [Py α] {p : Addr} {m : List α} (o : Own K H0 Z H p m) (c : Step Z0 H0 Z H) (k : New K Z0 H0 Q m) : Q (.ref p) H := by
  obtain ⟨⟨xs, hl, pr⟩, nz, n0⟩ := o
  exact k p xs Z H c n0 hl nz pr
theorem augI {i : Nat} {a : Int} {σ : St} {H : Hp} {Q : St → Hp → Prop} (k : ∀ x, x = a → Q (σ.set i (some (.int x))) H) : Q (σ.set i (some (.int a))) H := k a rfl
theorem tgtP {α β : Type} [Py α] [Py β] {v : V} {p : α × β} {i j : Nat} {σ : St} {R : St → Hp → Prop} (zh : Same Z H) (h : Py.R K Z v p) (k : ∀ a, a = p.1 → ∀ b, b = p.2 → ∀ x y, Py.R K Z x a → Py.R K Z y b → R ((σ.set i (some x)).set j (some y)) H) :
    gTup K 2 (gCons (gName i) (gCons (gName j) gNil)) v σ H R := by
  obtain ⟨a, x, y, rfl, hz, hx, hy⟩ := h
  exact ⟨a, [x, y], rfl, SqT.of (zh _ _ hz), rfl, x, [y], rfl, y, [], rfl, rfl, k _ rfl _ rfl x y hx hy⟩
/-- readings that begin with a pair, so that what follows is seen at once -/
def tK (v : V) : TE := fun _ H Q => True ∧ Q v H
theorem pcK {X : Cx} {e : Expr} {v : V} (h : PE X e (tC v)) : PE X e (tK v) := ⟨fun pins s σ H Q I q => h.run pins s σ H Q I q.2⟩
def tNilK : TA := fun _ H Q => True ∧ Q [] H
theorem pnK {X : Cx} : PA X [] tNilK := ⟨fun p pins s σ H Q I q => pa_nil.run p pins s σ H Q I q.2⟩
def tU (t : TE) : TE := fun σ H Q => True ∧ t σ H Q
theorem puK {X : Cx} {e : Expr} {t : TE} (h : PE X e t) : PE X e (tU t) := ⟨fun pins s σ H Q I q => h.run pins s σ H Q I q.2⟩
def tUT (t : TT) : TT := fun σ H Q => True ∧ t σ H Q
theorem ptK {X : Cx} {e : Expr} {t : TT} (h : PT X e t) : PT X e (tUT t) := ⟨fun pins s σ H Q I q => h.run pins s σ H Q I q.2⟩
/-! ### None -/
def optB {α R : Type} (o : Option α) (n : R) (s : α → R) : R := match o with
  | none => n
  | some a => s a
theorem optB_none {α R : Type} {o : Option α} {n : R} {s : α → R} (h : o = none) : optB o n s = n := by rw [h]; rfl
theorem optB_some {α R : Type} {o : Option α} {n : R} {s : α → R} {a : α} (h : o = some a) : optB o n s = s a := by rw [h]; rfl
/-- a value that is not None -/
class Nn (α : Type) [Py α] where
  nn : ∀ {K : Fr} {Z : Hp} {v : V} {a : α}, Py.R K Z v a → v ≠ .non
instance : Nn Int := ⟨fun h e => by cases (show _ = V.int _ from h); cases e⟩
instance : Nn Bool := ⟨fun h e => by cases (show _ = V.bl _ from h); cases e⟩
instance : Nn Str := ⟨fun h e => by cases (show _ = V.str _ from h); cases e⟩
instance {α : Type} [Py α] : Nn (List α) := ⟨fun h e => by obtain ⟨a, xs, e2, _⟩ := h; rw [e2] at e; cases e⟩
instance {α β : Type} [Py α] [Py β] : Nn (α × β) := ⟨fun h e => by obtain ⟨a, xs, y, e2, _⟩ := h; rw [e2] at e; cases e⟩
theorem k_isN {α : Type} [Py α] [Nn α] {v : V} {o : Option α} (h : Py.R K Z v o) (k : Q (.bl o.isNone) H) : Q (.bl (decide (v = .non))) H := by
  have e : decide (v = .non) = o.isNone := by
    cases o with
    | none => cases (show v = .non from h); rfl
    | some a => exact decide_eq_false (Nn.nn (a := a) h)
  rw [e]; exact k
theorem k_notN {α : Type} [Py α] [Nn α] {v : V} {o : Option α} (h : Py.R K Z v o) (k : Q (.bl (!o.isNone)) H) : Q (.bl (!decide (v = .non))) H := by
  have e : decide (v = .non) = o.isNone := by
    cases o with
    | none => cases (show v = .non from h); rfl
    | some a => exact decide_eq_false (Nn.nn (a := a) h)
  rw [e]; exact k
/-! ### comparisons -/
theorem chain2 {b1 b2 : Bool} {A : VK → Prop} (h : b1 = true → ∀ Q' : VK, Q' (.bl b2) H → A Q') (k : Q (.bl (b1 && b2)) H) : if b1 = true then A Q else Q (.bl false) H := by
  cases b1 with
  | true => exact iteT (h rfl Q k)
  | false => exact iteF k
def inS (a b : Str) : Bool := !(Builtin.Str.occurrences b a 0 b.length 1).isEmpty
/-- a list read: told, or one's own -/
def RO {α : Type} [Py α] (K : Fr) (Z H : Hp) (v : V) (l : List α) : Prop := ∃ a xs, v = .ref a ∧ H a = some (.lst xs) ∧ Paired (Py.R K Z) xs l
theorem RO.own {α : Type} [Py α] {p : Addr} {l : List α} (o : Own K H0 Z H p l) : RO K Z H (.ref p) l := let ⟨⟨xs, h, pr⟩, _, _⟩ := o; ⟨p, xs, rfl, h, pr⟩
theorem RO.tell {α : Type} [Py α] {v : V} {l : List α} (zh : Same Z H) (h : Py.R K Z v l) : RO K Z H v l := let ⟨a, xs, e, hz, pr⟩ := h; ⟨a, xs, e, zh _ _ hz, pr⟩
theorem inV_int {ns : List Int} {i : Int} : inV (.int i) (ns.map V.int) = decide (i ∈ ns) := by
  unfold inV
  induction ns with
  | nil => simp
  | cons n r ih =>
    rw [List.map_cons, List.any_cons, ih]
    show ((n == i) || decide (i ∈ r)) = decide (i ∈ n :: r)
    by_cases e : n = i
    · subst e; simp
    · have e2 : ¬ i = n := fun z => e z.symm
      simp [e, e2]
theorem inV_str {ns : List Str} {i : Str} : inV (.str i) (ns.map V.str) = decide (i ∈ ns) := by
  unfold inV
  induction ns with
  | nil => simp
  | cons n r ih =>
    rw [List.map_cons, List.any_cons, ih]
    show ((n == i) || decide (i ∈ r)) = decide (i ∈ n :: r)
    by_cases e : n = i
    · subst e; simp
    · have e2 : ¬ i = n := fun z => e z.symm
      simp [e, e2]
/-- values that stand in lists and are compared plainly -/
class Fl (α : Type) [Sc α] [DecidableEq α] where
  flat : ∀ a : α, flatV (Sc.emb a) = true
  isIn : ∀ (l : List α) (a : α), inV (Sc.emb a) (l.map Sc.emb) = decide (a ∈ l)
instance : Fl Int := ⟨fun _ => rfl, fun l a => inV_int⟩
instance : Fl Str := ⟨fun _ => rfl, fun l a => inV_str⟩
theorem allFlat {α : Type} [Sc α] [DecidableEq α] [Fl α] : ∀ l : List α, (l.map Sc.emb).all flatV = true
  | [] => rfl
  | a :: r => by rw [List.map_cons, List.all_cons, Fl.flat, allFlat r]; rfl
theorem k_inL {α : Type} [Sc α] [DecidableEq α] [Fl α] {v : V} {a : α} {l : List α} (h : RO K Z H v l) (k : Q (.bl (decide (a ∈ l))) H) : rIn K false (Sc.emb a) v H Q := by
  obtain ⟨p, xs, rfl, hl, pr⟩ := h
  obtain rfl := paired_emb pr
  refine ⟨p, _, rfl, .inl (SqL.of hl), Fl.flat a, allFlat l, ?_⟩
  rw [Fl.isIn]
  exact k
theorem k_ninL {α : Type} [Sc α] [DecidableEq α] [Fl α] {v : V} {a : α} {l : List α} (h : RO K Z H v l) (k : Q (.bl (!decide (a ∈ l))) H) : rIn K true (Sc.emb a) v H Q := by
  obtain ⟨p, xs, rfl, hl, pr⟩ := h
  obtain rfl := paired_emb pr
  refine ⟨p, _, rfl, .inl (SqL.of hl), Fl.flat a, allFlat l, ?_⟩
  rw [Fl.isIn]
  exact k
/-! ### == of data -/
class PyD (α : Type) [Py α] [DecidableEq α] where
  d : α → PyData
  dp : ∀ {K : Fr} {Z H : Hp} {v : V} {a : α}, Same Z H → Py.R K Z v a → Dp K H v (d a)
  eqv : ∀ a b : α, PyData.eqv (d a) (d b) = decide (a = b)
  dep : Nat
  depth : ∀ a : α, (d a).depth ≤ dep
instance : PyD Int := ⟨.int, fun _ h => by cases (show _ = V.int _ from h); exact .int _, fun a b => by simp [PyData.eqv]; rfl, 0, fun _ => by simp [PyData.depth]⟩
instance : PyD Bool := ⟨.bool, fun _ h => by cases (show _ = V.bl _ from h); exact .bl _, fun a b => by cases a <;> cases b <;> simp [PyData.eqv], 0, fun _ => by simp [PyData.depth]⟩
instance : PyD Str := ⟨.str, fun _ h => by cases (show _ = V.str _ from h); exact .str _, fun a b => by
  show (a == b) = decide (a = b)
  by_cases e : a = b
  · subst e; simp
  · simp [e], 0, fun _ => by simp [PyData.depth]⟩
theorem dpAll {α : Type} [Py α] [DecidableEq α] [PyD α] (zh : Same Z H) : ∀ {xs : List V} {l : List α}, Paired (Py.R K Z) xs l → DpAll K H xs (l.map PyD.d)
  | _, _, .nil => .nil
  | _, _, .cons r t => .cons (PyD.dp zh r) (dpAll zh t)
theorem eqvAll_map {α : Type} [Py α] [DecidableEq α] [PyD α] : ∀ l m : List α, PyData.eqvAll (l.map PyD.d) (m.map PyD.d) = decide (l = m)
  | [], [] => by simp [PyData.eqvAll]
  | [], _ :: _ => by simp [PyData.eqvAll]
  | _ :: _, [] => by simp [PyData.eqvAll]
  | a :: r, b :: s => by
    rw [List.map_cons, List.map_cons]
    show (PyData.eqv (PyD.d a) (PyD.d b) && PyData.eqvAll (r.map PyD.d) (s.map PyD.d)) = _
    rw [PyD.eqv, eqvAll_map r s]
    by_cases e : a = b
    · subst e; by_cases e2 : r = s
      · subst e2; simp
      · simp [e2]
    · simp [e]
theorem depthAll_map {α : Type} [Py α] [DecidableEq α] [PyD α] : ∀ l : List α, PyData.depthAll (l.map PyD.d) ≤ PyD.dep α
  | [] => Nat.zero_le _
  | a :: r => by
    rw [List.map_cons]
    show max (PyD.d a).depth (PyData.depthAll (r.map PyD.d)) ≤ _
    exact Nat.max_le.mpr ⟨PyD.depth a, depthAll_map r⟩
instance {α : Type} [Py α] [DecidableEq α] [PyD α] : PyD (List α) where
  d l := .list (l.map PyD.d)
  dp := fun zh h => by
    obtain ⟨a, xs, rfl, hz, p⟩ := h
    exact .lst (SqL.of (zh _ _ hz)) (dpAll zh p)
  eqv := fun l m => eqvAll_map l m
  dep := PyD.dep α + 1
  depth := fun l => Nat.succ_le_succ (depthAll_map l)
instance {α β : Type} [Py α] [DecidableEq α] [PyD α] [Py β] [DecidableEq β] [PyD β] : PyD (α × β) where
  d p := .tuple [PyD.d p.1, PyD.d p.2]
  dp := fun zh h => by
    obtain ⟨a, x, y, rfl, hz, hx, hy⟩ := h
    exact .tup (SqT.of (zh _ _ hz)) (.cons (PyD.dp zh hx) (.cons (PyD.dp zh hy) .nil))
  eqv := fun p q => by
    show (PyData.eqv (PyD.d p.1) (PyD.d q.1) && (PyData.eqv (PyD.d p.2) (PyD.d q.2) && PyData.eqvAll [] [])) = _
    rw [PyD.eqv, PyD.eqv]
    obtain ⟨a, b⟩ := p
    obtain ⟨a', b'⟩ := q
    by_cases e : a = a'
    · subst e; by_cases e2 : b = b'
      · subst e2; simp [PyData.eqvAll]
      · simp [e2]
    · simp [e]
  dep := max (PyD.dep α) (PyD.dep β) + 1
  depth := fun p => by
    show max (PyD.d p.1).depth (max (PyD.d p.2).depth 0) + 1 ≤ _
    have h1 := PyD.depth p.1
    have h2 := PyD.depth p.2
    omega
/-- a value that may be None, beside data that is never None -/
class PyN (α : Type) [Py α] [DecidableEq α] [PyD α] where
  n1 : ∀ a : α, PyData.eqv .none (PyD.d a) = false
  n2 : ∀ a : α, PyData.eqv (PyD.d a) .none = false
instance : PyN Int := ⟨fun _ => by simp [PyD.d, PyData.eqv], fun _ => by simp [PyD.d, PyData.eqv]⟩
instance : PyN Bool := ⟨fun _ => by simp [PyD.d, PyData.eqv], fun _ => by simp [PyD.d, PyData.eqv]⟩
instance : PyN Str := ⟨fun _ => by simp [PyD.d, PyData.eqv], fun _ => by simp [PyD.d, PyData.eqv]⟩
instance {α : Type} [Py α] [DecidableEq α] [PyD α] : PyN (List α) := ⟨fun _ => by simp [PyD.d, PyData.eqv], fun _ => by simp [PyD.d, PyData.eqv]⟩
instance {α β : Type} [Py α] [DecidableEq α] [PyD α] [Py β] [DecidableEq β] [PyD β] : PyN (α × β) := ⟨fun _ => by simp [PyD.d, PyData.eqv], fun _ => by simp [PyD.d, PyData.eqv]⟩
instance {α : Type} [Py α] [DecidableEq α] [PyD α] [PyN α] : PyD (Option α) where
  d o := match o with
    | none => .none
    | some a => PyD.d a
  dp := fun {K Z H v a} zh h => by
    cases a with
    | none => cases (show v = V.non from h); exact .non
    | some a => exact PyD.dp zh (show Py.R K Z v a from h)
  eqv := fun a b => by
    cases a with
    | none => cases b with
      | none => simp [PyData.eqv]
      | some b => simp [PyN.n1]
    | some a => cases b with
      | none => simp [PyN.n2]
      | some b => show PyData.eqv (PyD.d a) (PyD.d b) = _; rw [PyD.eqv]; simp
  dep := PyD.dep α
  depth := fun a => by
    cases a with
    | none => simp [PyData.depth]
    | some a => exact PyD.depth a
/-- x tells the data a -/
def Pd {α : Type} [Py α] [DecidableEq α] [PyD α] (K : Fr) (H : Hp) (x : V) (a : α) : Prop := Dp K H x (PyD.d a)
theorem Pd.ref {α : Type} [Py α] [DecidableEq α] [PyD α] {v : V} {a : α} (zh : Same Z H) (h : Py.R K Z v a) : Pd K H v a := PyD.dp zh h
theorem Pd.int (i : Int) : Pd K H (.int i) i := Dp.int i
theorem Pd.str (i : Str) : Pd K H (.str i) i := Dp.str i
theorem Pd.bl (i : Bool) : Pd K H (.bl i) i := Dp.bl i
theorem Pd.none {α : Type} [Py α] [DecidableEq α] [PyD α] [PyN α] : Pd K H .non (none : Option α) := .non
theorem Pd.some {α : Type} [Py α] [DecidableEq α] [PyD α] [PyN α] {v : V} {a : α} (h : Pd K H v a) : Pd K H v (some a) := h
theorem Pd.own {α : Type} [Py α] [DecidableEq α] [PyD α] {p : Addr} {l : List α} (c : Step Z0 H0 Z H) (o : Own K H0 Z H p l) : Pd K H (.ref p) l := by
  obtain ⟨⟨xs, h, pr⟩, _, _⟩ := o
  exact .lst (SqL.of h) (dpAll c.zh pr)
def okD {α : Type} [Py α] [DecidableEq α] [PyD α] (a : α) : Bool := (PyD.d a).canLay0
theorem shaped_of {α : Type} [Py α] [DecidableEq α] [PyD α] {a : α} (h : okD a = true) (hd : PyD.dep α ≤ 64) : SeqAt.shaped (PyD.d a) = true := by
  unfold SeqAt.shaped
  rw [show (PyD.d a).canLay0 = true from h]
  simp
  exact Nat.le_trans (PyD.depth a) hd
theorem k_eqD {α : Type} [Py α] [DecidableEq α] [PyD α] {x y : V} {a b : α} (hx : Pd K H x a) (hy : Pd K H y b) (oa : okD a = true) (ob : okD b = true) (hd : PyD.dep α ≤ 64) (k : Q (.bl (decide (a = b))) H) : rEqD K x y H Q :=
  ⟨_, _, hx, hy, shaped_of oa hd, shaped_of ob hd, by rw [PyD.eqv]; exact k⟩
theorem k_neD {α : Type} [Py α] [DecidableEq α] [PyD α] {x y : V} {a b : α} (hx : Pd K H x a) (hy : Pd K H y b) (oa : okD a = true) (ob : okD b = true) (hd : PyD.dep α ≤ 64) (k : Q (.bl (!decide (a = b))) H) : rNeD K x y H Q :=
  ⟨_, _, hx, hy, shaped_of oa hd, shaped_of ob hd, by rw [PyD.eqv]; exact k⟩
@[simp] theorem okD_int (i : Int) : okD i = true := by simp [okD, PyD.d, PyData.canLay0]
@[simp] theorem okD_bool (i : Bool) : okD i = true := by simp [okD, PyD.d, PyData.canLay0]
theorem okD_str (i : Str) : okD i = i.cps.all (· < 0x110000) := by simp [okD, PyD.d, PyData.canLay0, PyData.strOk]
theorem okD_list {α : Type} [Py α] [DecidableEq α] [PyD α] : ∀ l : List α, okD l = l.all okD
  | [] => by simp [okD, PyD.d, PyData.canLay0, PyData.canLayAll0]
  | a :: r => by
    have ih := okD_list r
    unfold okD at ih ⊢
    show PyData.canLayAll0 (PyD.d a :: r.map PyD.d) = _
    show ((PyD.d a).canLay0 && PyData.canLayAll0 (r.map PyD.d)) = _
    rw [List.all_cons, ← ih]
    rfl
theorem okD_pair {α β : Type} [Py α] [DecidableEq α] [PyD α] [Py β] [DecidableEq β] [PyD β] (p : α × β) : okD p = (okD p.1 && okD p.2) := by
  unfold okD
  show ((PyD.d p.1).canLay0 && ((PyD.d p.2).canLay0 && true)) = _
  rw [Bool.and_true]
@[simp] theorem okD_none {α : Type} [Py α] [DecidableEq α] [PyD α] [PyN α] : okD (none : Option α) = true := by simp [okD, PyD.d, PyData.canLay0]
@[simp] theorem okD_some {α : Type} [Py α] [DecidableEq α] [PyD α] [PyN α] (a : α) : okD (some a) = okD a := rfl
/-! ### isinstance of a built-in class -/
inductive Pt (K : Fr) (H : Hp) : V → String → Prop where
  | of {v : V} {t : String} (h : TyX K H v (.type t)) : Pt K H v t
theorem Pt.int (i : Int) : Pt K H (.int i) "int" := .of (.base (.int i))
theorem Pt.bl (i : Bool) : Pt K H (.bl i) "bool" := .of (.base (.bl i))
theorem Pt.str (i : Str) : Pt K H (.str i) "str" := .of (.base (.str i))
theorem Pt.non (i : Unit) : Pt K H .non "NoneType" := .of (.base .non)
theorem Pt.own {α : Type} [Py α] {p : Addr} {l : List α} (o : Own K H0 Z H p l) : Pt K H (.ref p) "list" := let ⟨⟨_, h, _⟩, _, _⟩ := o; .of (.base (.lst h))
theorem Pt.list {α : Type} [Py α] {v : V} {l : List α} (zh : Same Z H) (h : Py.R K Z v l) : Pt K H v "list" := by
  obtain ⟨a, xs, rfl, hz, p⟩ := h
  exact .of (.base (.lst (zh _ _ hz)))
theorem Pt.tuple {α β : Type} [Py α] [Py β] {v : V} {l : α × β} (zh : Same Z H) (h : Py.R K Z v l) : Pt K H v "tuple" := by
  obtain ⟨a, x, y, rfl, hz, p⟩ := h
  exact .of (.base (.tup (zh _ _ hz)))
theorem k_isi {v : V} {t c : String} {b : Bool} (h : Pt K H v t) (hk : kitB t c = some b) (k : Q (.bl b) H) : rIsi K [v, .ty c] H Q := by
  obtain ⟨h⟩ := h
  exact ⟨v, .ty c, .type t, .type c, b, rfl, .ty c, h, kit_ty hk, k⟩
/-! ### relations by name -/
def rLenQ (K : Fr) : List V → Hp → VK → Prop := fun xs H Q => ∃ p ys, xs = [V.ref p] ∧ (SqL K H p ys ∨ SqT K H p ys) ∧ Q (.int ys.length) H
def rListQ (K : Fr) : List V → Hp → VK → Prop := fun xs H Q => ∃ p ys, xs = [V.ref p] ∧ (SqL K H p ys ∨ SqT K H p ys) ∧ ∀ l, H l = none → Q (.ref l) (upd H l (.lst ys))
def rIntQ : List V → Hp → VK → Prop := fun xs H Q => ∃ a n, xs = [V.str a] ∧ PySem.intText? a = some n ∧ a.length ≤ 640 ∧ Q (.int n) H
def rJoinQ (K : Fr) : V → List V → Hp → VK → Prop := fun x xs H Q => ∃ a p, ∃ ys : List Str, x = .str a ∧ xs = [.ref p] ∧ (SqL K H p (ys.map V.str) ∨ SqT K H p (ys.map V.str)) ∧ (ys.map (·.length)).sum + ys.length * a.length ≤ 16777216 ∧ Q (.str (Txt.join a ys)) H
def rLstQ : List V → Hp → VK → Prop := fun xs H Q => xs.length ≤ sizeLine ∧ ∀ p, H p = none → Q (.ref p) (upd H p (.lst xs))
def rTupQ : List V → Hp → VK → Prop := fun xs H Q => xs.length ≤ sizeLine ∧ ∀ p, H p = none → Q (.ref p) (upd H p (.tup xs))
def tLstQ (t : TA) : TE := fun σ H Q => t σ H fun xs H1 => rLstQ xs H1 Q
def tTupQ (t : TA) : TE := fun σ H Q => t σ H fun xs H1 => rTupQ xs H1 Q
section
variable {X : Cx} {es : List Expr} {t : TA} {pos : Pos}
theorem call_lenQ : CallR X (.builtin "len") (rLenQ X.K) := call_len_seq
theorem call_listQ : CallR X (.type "list") (rListQ X.K) := call_list_of
theorem call_intQ : CallR X (.type "int") rIntQ := call_int_str
theorem mt_joinQ : MtR X "str.join" (rJoinQ X.K) := mt_join
theorem pe_lstQ (h : PA X es t) : PE X (.List es pos) (tLstQ t) := pe_lst h
theorem pe_tupQ {x1} (h : PA X es t) : PE X (.Tuple es x1 pos) (tTupQ t) := pe_tup h
end
theorem k_lenQ {α : Type} [Py α] {v : V} {l : List α} (zh : Same Z H) (h : Py.R K Z v l) (k : Q (.int (l.length : Int)) H) : rLenQ K [v] H Q := k_len zh h k
theorem k_lenOQ {α : Type} [Py α] {p : Addr} {l : List α} (o : Own K H0 Z H p l) (k : Q (.int (l.length : Int)) H) : rLenQ K [.ref p] H Q := k_lenO o k
theorem k_lenRQ {v : V} {l : Scr} (zh : Same Z H) (h : Py.R K Z v l) (k : Q (.int (l.ns.length : Int)) H) : rLenQ K [v] H Q := k_lenR zh h k
theorem k_listQ {α : Type} [Py α] {v : V} {l : List α} (zh : Same Z H) (h : Py.R K Z v l) (k : New K Z H Q l) : rListQ K [v] H Q := k_listL zh h k
theorem k_lst {α : Type} [Py α] {xs : List V} {m : List α} (zh : Same Z H) (pr : Paired (Py.R K Z) xs m) (hs : xs.length ≤ sizeLine) (k : New K Z H Q m) : rLstQ xs H Q := k_list zh pr hs k
theorem k_tup {α β : Type} [Py α] [Py β] {x y : V} {a : α} {b : β} (zh : Same Z H) (hx : Py.R K Z x a) (hy : Py.R K Z y b) (k : Tel K Z H Q (a, b)) : rTupQ [x, y] H Q := k_pair zh hx hy k
/-! ### more operations -/
def min2 (i j : Int) : Int := if j < i then j else i
def max2 (i j : Int) : Int := if j > i then j else i
def intS (s : Str) : Int := (PySem.intText? s).getD 0
theorem k_intS {s : Str} (h : (PySem.intText? s).isSome = true) (hl : s.length ≤ 640) (k : Q (.int (intS s)) H) : rIntQ [V.str s] H Q := by
  obtain ⟨n, hn⟩ := Option.isSome_iff_exists.mp h
  refine ⟨s, n, rfl, hn, hl, ?_⟩
  have e : intS s = n := by unfold intS; rw [hn]; rfl
  rw [← e]; exact k
def toStr (i : Int) : Str := (toString i : String)
theorem k_join {v : V} {a : Str} {l : List Str} (zh : Same Z H) (h : Py.R K Z v l) (hs : (l.map (·.length)).sum + l.length * a.length ≤ 16777216) (k : Q (.str (Txt.join a l)) H) : rJoinQ K (.str a) [v] H Q := by
  obtain ⟨p, xs, rfl, hz, pr⟩ := h
  obtain rfl := paired_emb pr
  exact ⟨a, p, l, rfl, rfl, .inl (SqL.of (zh _ _ hz)), hs, k⟩
theorem k_joinO {p : Addr} {a : Str} {l : List Str} (o : Own K H0 Z H p l) (hs : (l.map (·.length)).sum + l.length * a.length ≤ 16777216) (k : Q (.str (Txt.join a l)) H) : rJoinQ K (.str a) [.ref p] H Q := by
  obtain ⟨⟨xs, hz, pr⟩, _, _⟩ := o
  obtain rfl := paired_emb pr
  exact ⟨a, p, l, rfl, rfl, .inl (SqL.of hz), hs, k⟩
theorem k_listO {α : Type} [Py α] {q : Addr} {l : List α} (zh : Same Z H) (o : Own K H0 Z H q l) (k : New K Z H Q l) : rListQ K [.ref q] H Q := by
  obtain ⟨⟨xs, hz, pr⟩, _, _⟩ := o
  exact ⟨q, xs, rfl, .inl (SqL.of hz), New.lay zh pr k⟩
def insI {α : Type} (l : List α) (i : Int) (a : α) : List α := l.take i.toNat ++ [a] ++ l.drop i.toNat
end
/-! ### loops by their kinds -/
section
variable {K : Fr} {J : It} {tb : TS} {D : Ends} {σ : St} {H Z : Hp}
theorem loop1S {γ : Type} [Sc γ] {L : List γ} {i : Nat} (src : Src J Z L (fun b x H H' => H' = H ∧ x = Sc.emb b)) (Pv : List γ → St → Hp → Hp → Prop) (keep : ∀ r σ H' Z', Pv r σ H' Z' → Same Z Z' ∧ Same Z' H') (h0 : ∃ Z', Pv L σ H Z')
    (turn : ∀ a r σ H' Z', a ∈ L → (∃ d, L = d ++ a :: r) → Pv (a :: r) σ H' Z' → tb { D with nx := fun σ' H' => ∃ Z2, Pv r σ' H' Z2, ct := fun σ' H' => ∃ Z2, Pv r σ' H' Z2, bk := D.nx } (σ.set i (some (Sc.emb a))) H')
    (done : ∀ σ H' Z', Pv [] σ H' Z' → D.nx σ H') : forRest J (gName i) tb D σ H :=
  forK src Pv keep h0 (fun a r x σ H' H2 Z' hm hd hp y => by obtain ⟨rfl, rfl⟩ := y; exact turn a r σ _ Z' hm hd hp) done
theorem loop1 {γ : Type} [Py γ] {L : List γ} {i : Nat} (src : Src J Z L (fun b x H H' => H' = H ∧ Py.R K Z x b)) (Pv : List γ → St → Hp → Hp → Prop) (keep : ∀ r σ H' Z', Pv r σ H' Z' → Same Z Z' ∧ Same Z' H') (h0 : ∃ Z', Pv L σ H Z')
    (turn : ∀ a r y σ H' Z', a ∈ L → (∃ d, L = d ++ a :: r) → Pv (a :: r) σ H' Z' → Py.R K Z y a → tb { D with nx := fun σ' H' => ∃ Z2, Pv r σ' H' Z2, ct := fun σ' H' => ∃ Z2, Pv r σ' H' Z2, bk := D.nx } (σ.set i (some y)) H')
    (done : ∀ σ H' Z', Pv [] σ H' Z' → D.nx σ H') : forRest J (gName i) tb D σ H :=
  forK src Pv keep h0 (fun a r x σ H' H2 Z' hm hd hp y => by obtain ⟨rfl, hy⟩ := y; exact turn a r x σ _ Z' hm hd hp hy) done
theorem loop2 {α β : Type} {RA : V → α → Prop} {RB : V → β → Prop} {L : List (α × β)} {i j : Nat} (src : Src J Z L (YP RA RB)) (Pv : List (α × β) → St → Hp → Hp → Prop) (keep : ∀ r σ H' Z', Pv r σ H' Z' → Same Z Z' ∧ Same Z' H') (h0 : ∃ Z', Pv L σ H Z')
    (turn : ∀ q r u v σ H' H2 Z', q ∈ L → (∃ d, L = d ++ q :: r) → Pv (q :: r) σ H' Z' → RA u q.1 → RB v q.2 → Step Z' H' Z' H2 → tb { D with nx := fun σ' H' => ∃ Z2, Pv r σ' H' Z2, ct := fun σ' H' => ∃ Z2, Pv r σ' H' Z2, bk := D.nx } ((σ.set i (some u)).set j (some v)) H2)
    (done : ∀ σ H' Z', Pv [] σ H' Z' → D.nx σ H') : forRest J (gTup K 2 (gCons (gName i) (gCons (gName j) gNil))) tb D σ H :=
  forK src Pv keep h0 (fun a r x σ H' H2 Z' hm hd hp y => tgt2 (keep _ _ _ _ hp).2 y fun u v hu hv st => turn a r u v σ H' H2 Z' hm hd hp hu hv st) done
end
theorem loopS_nxt {α S : Type} {f : S → α → S} {s s' t : S} {x : α} {r : List α} (h : loopS f s (x :: r) = t) (e : f s x = s') : loopS f s' r = t := by
  rw [← h, ← e]; rfl
end Cd

set_option Elab.async false
set_option linter.all false
set_option maxRecDepth 100000
set_option maxHeartbeats 4000000
/-! ## Plain facts of texts, lists and loops -/
namespace Cd
open PySem L2
def codes (s : Str) : List Nat := s.cps.toList
def sg (c : Nat) : Str := ⟨#[c]⟩
def mk (l : List Nat) : Str := ⟨l.toArray⟩
theorem codes_mk (l : List Nat) : codes (mk l) = l := by simp [codes, mk]
theorem mk_codes (s : Str) : mk (codes s) = s := by simp [codes, mk]
theorem codes_inj {a b : Str} (h : codes a = codes b) : a = b := by rw [← mk_codes a, h, mk_codes]
theorem codes_iff {a b : Str} : a = b ↔ codes a = codes b := ⟨fun h => by rw [h], codes_inj⟩
theorem len_codes (s : Str) : s.length = (codes s).length := by simp [codes, Str.length]
theorem codes_app (a b : Str) : codes (a ++ b) = codes a ++ codes b := by
  show ((a.cps ++ b.cps).toList) = _
  simp [codes]
theorem codes_sg (c : Nat) : codes (sg c) = [c] := rfl
theorem len_app (a b : Str) : (a ++ b).length = a.length + b.length := Str.length_append a b
theorem len_sg (c : Nat) : (sg c).length = 1 := rfl
theorem len_chS (z : Str) (i : Int) : (chS z i).length = 1 := rfl
theorem sg_inj {a b : Nat} (h : sg a = sg b) : a = b := by
  have := congrArg codes h
  simpa [codes_sg] using this
theorem inR_mod {n : Nat} {x : Int} (h : 0 < (n : Int)) : inR n (x % (n : Int)) := ⟨by have := Int.emod_nonneg x (show (n : Int) ≠ 0 by omega); omega, Int.emod_lt_of_pos x h⟩
/-! ### places -/
theorem atI_nat {α : Type} {l : List α} {i : Int} (h0 : 0 ≤ i) (h1 : i < l.length) : atI l i = l[i.toNat]? := by
  unfold atI ixN
  rw [if_pos h0, if_pos h1]
  rfl
theorem getI_nat {α : Type} [Inhabited α] {l : List α} {i : Int} (h0 : 0 ≤ i) (h1 : i < l.length) : getI l i = l[i.toNat]'(by omega) := by
  unfold getI
  rw [atI_nat h0 h1, List.getElem?_eq_getElem (by omega)]
  rfl
theorem getI_eq {α : Type} [Inhabited α] {l : List α} {i : Int} {a : α} (h0 : 0 ≤ i) (h : l[i.toNat]? = some a) : getI l i = a := by
  have h1 := (List.getElem?_eq_some_iff.mp h).1
  rw [getI_nat h0 (by omega)]
  exact (List.getElem?_eq_some_iff.mp h).2
theorem getI_mem {α : Type} [Inhabited α] {l : List α} {i : Int} (h : inR l.length i) : getI l i ∈ l := by
  have e := atI_get h
  unfold atI at e
  obtain ⟨j, hj, hl⟩ := ixN_some h
  rw [hj] at e
  exact List.mem_of_getElem? e
theorem chS_nat {z : Str} {i : Int} (h0 : 0 ≤ i) (h1 : i < (z.length : Int)) : chS z i = sg ((codes z)[i.toNat]'(by rw [← len_codes]; omega)) := by
  have h2 : i < ((codes z).length : Int) := by rw [← len_codes]; exact h1
  unfold chS sg
  rw [show z.cps.toList = codes z from rfl, atI_nat h0 h2, List.getElem?_eq_getElem (by omega)]
  rfl
theorem chS_sg (z : Str) (i : Int) : ∃ c, chS z i = sg c := ⟨_, rfl⟩
theorem chS_mem {z : Str} {i : Int} (h0 : 0 ≤ i) (h1 : i < (z.length : Int)) : ∃ c ∈ codes z, chS z i = sg c := ⟨_, List.getElem_mem _, chS_nat h0 h1⟩
theorem chars_codes (z : Str) : chars z = (codes z).map sg := rfl
theorem mem_chars {z x : Str} (h : x ∈ chars z) : ∃ c ∈ codes z, x = sg c := by
  rw [chars_codes, List.mem_map] at h
  obtain ⟨c, hc, e⟩ := h
  exact ⟨c, hc, e.symm⟩
theorem chars_len1 {z x : Str} (h : x ∈ chars z) : x.length = 1 := by
  obtain ⟨c, _, rfl⟩ := mem_chars h
  rfl
theorem mem_rangeC1 {lo : Int} {n : Nat} {a : Int} (h : a ∈ rangeC lo (-(1 : Int)) n) : a ≤ lo ∧ lo - (n : Int) < a := by
  unfold rangeC at h
  rw [List.mem_map] at h
  obtain ⟨i, h, rfl⟩ := h
  rw [List.mem_range] at h
  omega
theorem len_chars (z : Str) : (chars z).length = z.length := by rw [chars_len]; rfl
theorem min2_eq (i j : Int) : min2 i j = min i j := by unfold min2; omega
theorem max2_eq (i j : Int) : max2 i j = max i j := by unfold max2; omega
/-! ### pieces -/
theorem sIx_some {n d : Nat} {i : Int} (h : 0 ≤ i) : HT.sIx n d (some i) = min i.toNat n := by
  obtain ⟨k, rfl⟩ := Int.eq_ofNat_of_zero_le h
  rw [HT.sIx_nat]
  rfl
theorem codes_cut (z : Str) (lo hi : Option Int) : codes (cutS z lo hi) = cutL (codes z) lo hi := by
  unfold cutS cutL codes
  simp [Str.length]
theorem cutL_some {α : Type} {l : List α} {i j : Int} (hi : 0 ≤ i) (hj : 0 ≤ j) : cutL l (some i) (some j) = (l.take j.toNat).drop i.toNat := by
  unfold cutL
  rw [sIx_some hi, sIx_some hj]
  apply List.ext_getElem?
  intro k
  simp only [List.getElem?_take, List.getElem?_drop]
  by_cases h1 : i.toNat ≤ l.length
  · rw [Nat.min_eq_left h1]
    by_cases h2 : j.toNat ≤ l.length
    · rw [Nat.min_eq_left h2]
      by_cases h3 : k < j.toNat - i.toNat
      · rw [if_pos h3, if_pos (by omega)]
      · rw [if_neg h3, if_neg (by omega)]
    · rw [Nat.min_eq_right (by omega)]
      by_cases h3 : k < l.length - i.toNat
      · rw [if_pos h3, if_pos (by omega)]
      · rw [if_neg h3, List.getElem?_eq_none (show l.length ≤ i.toNat + k by omega)]
        simp
  · rw [Nat.min_eq_right (show l.length ≤ i.toNat by omega)]
    rw [List.getElem?_eq_none (show l.length ≤ l.length + k by omega), List.getElem?_eq_none (show l.length ≤ i.toNat + k by omega)]
    simp
theorem cutL_from {α : Type} {l : List α} {i : Int} (hi : 0 ≤ i) : cutL l (some i) none = l.drop i.toNat := by
  unfold cutL
  rw [sIx_some hi, HT.sIx_none]
  by_cases h1 : i.toNat ≤ l.length
  · rw [Nat.min_eq_left h1, List.take_of_length_le (by rw [List.length_drop]; exact Nat.le_refl _)]
  · rw [Nat.min_eq_right (by omega), List.drop_length, List.drop_eq_nil_of_le (by omega)]
    simp
theorem cutL_to {α : Type} {l : List α} {j : Int} (hj : 0 ≤ j) : cutL l none (some j) = l.take j.toNat := by
  unfold cutL
  rw [sIx_some hj, HT.sIx_none]
  show (l.drop 0).take (min j.toNat l.length - 0) = _
  rw [List.drop_zero, Nat.sub_zero]
  by_cases h1 : j.toNat ≤ l.length
  · rw [Nat.min_eq_left h1]
  · rw [Nat.min_eq_right (by omega), List.take_length, List.take_of_length_le (by omega)]
theorem cutL_len_le {α : Type} (l : List α) (lo hi : Option Int) : (cutL l lo hi).length ≤ l.length := by
  unfold cutL
  rw [List.length_take, List.length_drop]
  omega
theorem cutL_len_all {α : Type} (l : List α) : (cutL l none none).length = l.length := by
  unfold cutL
  rw [HT.sIx_none, HT.sIx_none, List.drop_zero, Nat.sub_zero, List.take_length]
theorem cutL_mem {α : Type} {l : List α} {lo hi : Option Int} {x : α} (h : x ∈ cutL l lo hi) : x ∈ l := List.mem_of_mem_drop (List.mem_of_mem_take h)
theorem len_cut_le (z : Str) (lo hi : Option Int) : (cutS z lo hi).length ≤ z.length := by
  rw [len_codes, codes_cut, len_codes]
  exact cutL_len_le _ _ _
theorem cutL_nil {α : Type} (lo hi : Option Int) : cutL ([] : List α) lo hi = [] := List.eq_nil_of_length_eq_zero (Nat.le_zero.mp (cutL_len_le _ lo hi))
/-! ### one sign in a text -/
theorem inS_sg (c : Nat) (z : Str) : inS (sg c) z = decide (c ∈ codes z) := PySem.StrLaws.found_one z c
theorem idxOf_first {c : Nat} : ∀ {l : List Nat} {i : Nat}, l[i]? = some c → (∀ k, k < i → ¬ l[k]? = some c) → l.idxOf c = i
  | [], _, h, _ => by simp at h
  | a :: r, 0, h, _ => by
    have e : a = c := by simpa using h
    subst e
    exact List.idxOf_cons_self
  | a :: r, i + 1, h, hn => by
    have h0 : ¬ a = c := fun e => hn 0 (Nat.succ_pos i) (by simp [e])
    rw [List.idxOf_cons, show (a == c) = false by simpa using h0]
    show r.idxOf c + 1 = i + 1
    rw [idxOf_first (l := r) (i := i) (by simpa using h) fun k hk => by simpa using hn (k + 1) (Nat.succ_lt_succ hk)]
theorem find_sg (z : Str) (c : Nat) : Txt.find z (sg c) = if c ∈ codes z then (((codes z).idxOf c : Nat) : Int) else -1 := by
  have key : ∀ i, PySem.StrLaws.At z (sg c) z.length i ↔ (codes z)[i]? = some c := fun i => PySem.StrLaws.subAt_one z c i
  unfold Txt.find
  rcases PySem.StrLaws.occ_head z (sg c) 1 (Nat.le_refl 1) with ⟨h0, hn⟩ | ⟨i, r, h0, hi, hn⟩
  · rw [h0, if_neg]
    intro hm
    obtain ⟨k, hk⟩ := List.getElem?_of_mem hm
    exact hn k ((key k).mpr hk)
  · rw [h0]
    have hi2 := (key i).mp hi
    rw [if_pos (List.mem_of_getElem? hi2)]
    have hlt := (List.getElem?_eq_some_iff.mp hi2).1
    rw [idxOf_first hi2 fun k hk z => hn k hk ((key k).mpr z)]
theorem cutL_to_len {α : Type} (l : List α) {j : Int} (h : 0 ≤ j) : (cutL l none (some j)).length ≤ j.toNat := by
  rw [cutL_to h, List.length_take]
  omega
theorem cutL_lit_len {α : Type} (l : List α) {i j : Int} (hi : 0 ≤ i) (h : 0 ≤ j) : (cutL l (some i) (some j)).length ≤ j.toNat - i.toNat := by
  rw [cutL_some hi h, List.length_drop, List.length_take]
  omega
/-! ### loops -/
theorem rangeL_zero (lo : Int) : rangeL lo 0 = [] := rfl
theorem rangeL_succ (lo : Int) (n : Nat) : rangeL lo (n + 1) = lo :: rangeL (lo + 1) n := by
  unfold rangeL
  rw [List.range_succ_eq_map, List.map_cons, List.map_map]
  congr 1
  · omega
  · apply List.map_congr_left
    intro i _
    show lo + ((i + 1 : Nat) : Int) = lo + 1 + (i : Int)
    omega
theorem enumL_cons {α : Type} (k : Int) (a : α) (r : List α) : enumL k (a :: r) = (k, a) :: enumL (k + 1) r := by
  unfold enumL
  rw [List.length_cons, rangeL_succ]
  rfl
theorem enumL_nil {α : Type} (k : Int) : enumL k ([] : List α) = [] := rfl
theorem enumL_len {α : Type} (k : Int) (l : List α) : (enumL k l).length = l.length := by
  unfold enumL
  rw [List.length_zip, rangeL_len]
  omega
theorem mem_enumL {α : Type} {k : Int} {l : List α} {q : Int × α} (h : q ∈ enumL k l) : k ≤ q.1 ∧ q.1 < k + l.length ∧ q.2 ∈ l := by
  unfold enumL at h
  obtain ⟨a, b⟩ := q
  have h1 := mem_rangeL.mp (List.of_mem_zip h).1
  exact ⟨h1.1, h1.2, (List.of_mem_zip h).2⟩
theorem loopS_inv {α S : Type} {f : S → α → S} {l : List α} {s : S} (I : Nat → S → Prop) (h0 : I 0 s) (hs : ∀ i s x, x ∈ l → I i s → I (i + 1) (f s x)) : I l.length (loopS f s l) := by
  have key : ∀ (r : List α) (i : Nat) (s : S), (∀ x ∈ r, x ∈ l) → I i s → I (i + r.length) (loopS f s r) := by
    intro r
    induction r with
    | nil => intro i s _ h; exact h
    | cons x r ih =>
      intro i s hm h
      have h1 := ih (i + 1) (f s x) (fun y hy => hm y (List.mem_cons_of_mem _ hy)) (hs i s x (hm x List.mem_cons_self) h)
      rw [List.length_cons, show i + (r.length + 1) = i + 1 + r.length by omega]
      exact h1
  have h := key l 0 s (fun _ h => h) h0
  rw [Nat.zero_add] at h
  exact h
theorem loopS_congr {α S : Type} {f g : S → α → S} : ∀ {l : List α} {s : S}, (∀ x ∈ l, ∀ s, f s x = g s x) → loopS f s l = loopS g s l
  | [], _, _ => rfl
  | x :: r, s, h => by
    show loopS f (f s x) r = loopS g (g s x) r
    rw [h x List.mem_cons_self s]
    exact loopS_congr fun y hy => h y (List.mem_cons_of_mem _ hy)
theorem loopS_app {α S : Type} {f : S → α → S} : ∀ {l m : List α} {s : S}, loopS f s (l ++ m) = loopS f (loopS f s l) m
  | [], _, _ => rfl
  | x :: r, m, s => loopS_app (l := r) (m := m) (s := f s x)
/-- every turn goes on -/
theorem loopR_go {α S R : Type} {f : S → α → LR S R} (I : S → Prop) : ∀ {l : List α} {s : S}, (∀ s x, x ∈ l → I s → ∃ s', f s x = .nxt s' ∧ I s') → I s → ∃ s', loopR f s l = .nxt s' ∧ I s'
  | [], s, _, h => ⟨s, rfl, h⟩
  | x :: r, s, hs, h => by
    obtain ⟨s1, e, h1⟩ := hs s x List.mem_cons_self h
    obtain ⟨s2, e2, h2⟩ := loopR_go I (l := r) (fun s y hy => hs s y (List.mem_cons_of_mem _ hy)) h1
    refine ⟨s2, ?_, h2⟩
    show (match f s x with | .nxt s' => loopR f s' r | .brk s' => .brk s' | .ret v => .ret v) = _
    rw [e]
    exact e2
theorem loopR_unit {α R : Type} {f : Unit → α → LR Unit R} {l : List α} {s : Unit} (h : ∀ x ∈ l, f () x = .nxt ()) : loopR f s l = .nxt () := by
  obtain ⟨s', e, _⟩ := loopR_go (f := f) (fun _ => True) (l := l) (s := s) (fun s x hx _ => ⟨(), h x hx, trivial⟩) trivial
  exact e
/-- a text grown by the signs at rising places is a piece -/
theorem grow_cut (z : Str) : ∀ (n : Nat) (a : Int) (d : Str), 1 ≤ a → a - 1 + (n : Int) ≤ (z.length : Int) → codes (loopS (fun d c => d ++ chS z (c - 1)) d (rangeL a n)) = codes d ++ ((codes z).drop (a - 1).toNat).take n
  | 0, a, d, _, _ => by
    rw [rangeL_zero, List.take_zero, List.append_nil]
    rfl
  | n + 1, a, d, h0, h1 => by
    rw [rangeL_succ]
    show codes (loopS _ (d ++ chS z (a - 1)) (rangeL (a + 1) n)) = _
    rw [grow_cut z n (a + 1) _ (by omega) (by omega), codes_app, chS_nat (by omega) (by omega), codes_sg]
    have hlt : (a - 1).toNat < (codes z).length := by rw [← len_codes]; omega
    rw [List.drop_eq_getElem_cons hlt, List.take_succ_cons, show (a + 1 - 1).toNat = (a - 1).toNat + 1 by omega, List.append_assoc]
    rfl
/-- one sign among the figures -/
theorem fig_int {c : Nat} (h : 48 ≤ c ∧ c ≤ 57) : PySem.intText? (sg c) = some ((c - 48 : Nat) : Int) := by
  have : c = 48 ∨ c = 49 ∨ c = 50 ∨ c = 51 ∨ c = 52 ∨ c = 53 ∨ c = 54 ∨ c = 55 ∨ c = 56 ∨ c = 57 := by omega
  rcases this with rfl | rfl | rfl | rfl | rfl | rfl | rfl | rfl | rfl | rfl <;> decide +kernel
theorem fig_mem {c : Nat} : c ∈ [48, 49, 50, 51, 52, 53, 54, 55, 56, 57] ↔ 48 ≤ c ∧ c ≤ 57 := by
  simp only [List.mem_cons, List.not_mem_nil, or_false]
  omega
theorem fig_idx {c : Nat} (h : 48 ≤ c ∧ c ≤ 57) : [48, 49, 50, 51, 52, 53, 54, 55, 56, 57].idxOf c = c - 48 := by
  have : c = 48 ∨ c = 49 ∨ c = 50 ∨ c = 51 ∨ c = 52 ∨ c = 53 ∨ c = 54 ∨ c = 55 ∨ c = 56 ∨ c = 57 := by omega
  rcases this with rfl | rfl | rfl | rfl | rfl | rfl | rfl | rfl | rfl | rfl <;> decide
theorem fig_some {x z : Str} (h : x ∈ chars z) (hs : inS x "0123456789" = true) : (PySem.intText? x).isSome = true := by
  obtain ⟨c, _, rfl⟩ := mem_chars h
  rw [inS_sg, show codes "0123456789" = [48, 49, 50, 51, 52, 53, 54, 55, 56, 57] by decide +kernel] at hs
  rw [fig_int (fig_mem.mp (of_decide_eq_true hs))]
  rfl
theorem intS_fig {c : Nat} (h : 48 ≤ c ∧ c ≤ 57) : intS (sg c) = ((c - 48 : Nat) : Int) := by
  unfold intS
  rw [fig_int h]
  rfl
end Cd

set_option Elab.async false
set_option linter.all false
set_option maxRecDepth 100000
set_option maxHeartbeats 4000000
/-! ## Comprehensions by their kinds, more operations -/
namespace Cd
open PySem L2 PyProof.Rows
def lcRest (J : It) (g : TG) (tt : TT) (te : TE) (vs : List Nat) (Q : VK) (σ : L2.St) (H1 : Hp) : Prop := ∀ D, H1 D = none → ∃ W : Nat → Nat → Hp → Prop, (∃ m, W 0 m (upd H1 D (.lst []))) ∧ ∀ i m H, W i m H →
  (J.stop i H ∧ Q (.ref D) H) ∨ (J.go i H ∧ ∃ Nx : Hp → Prop, (∀ H', Nx H' → ∃ m', m' < m ∧ W (i + 1) m' H') ∧ ∀ x H', J.yld i H x H' → g x (wipe σ vs) H' fun σ2 H2 => wipe σ2 vs = wipe σ vs ∧ tt σ2 H2 fun b H3 =>
    if b = true then te σ2 H3 fun y H4 => ∃ acc, H4 D = some (.lst acc) ∧ acc.length < sizeLine ∧ Nx (upd H4 D (.lst (acc ++ [y]))) else Nx H3)
def tLcQ (wi : TI) (g : TG) (tt : TT) (te : TE) (vs : List Nat) : TE := fun σ H Q => wi σ H fun J H1 => lcRest J g tt te vs Q σ H1
section
variable {X : Cx}
theorem pe_lcQ {elt tg iter : Expr} {ifs : List Expr} {scope : Scope} {own : List (Str × Nat)} {pos : Pos} {wi : TI} {g : TG} {tt : TT} {te : TE} (hc : X.calm = true) (hN : X.N.Nodup) (hi : PI X tg iter wi) (ok : BlkOk X.N X.env.scope scope own)
    (hg : ∀ (s : Shared) (H : Hp) (C : Addr) (cl : List (Str × Addr)) (fp : List Addr), PG (X.blk s H scope (compEnvC scope cl C X.env) fp) tg g) (ht : ∀ (s : Shared) (H : Hp) (C : Addr) (cl : List (Str × Addr)) (fp : List Addr), PTs (X.blk s H scope (compEnvC scope cl C X.env) fp) ifs tt)
    (he : ∀ (s : Shared) (H : Hp) (C : Addr) (cl : List (Str × Addr)) (fp : List Addr), PE (X.blk s H scope (compEnvC scope cl C X.env) fp) elt te) (hs : ∀ x, foldedSetIterable iter X.env x = pure x := by intro _; rfl) :
    PE X (.ListComp elt [⟨tg, iter, ifs, 0⟩] scope pos) (tLcQ wi g tt te (own.map (·.2))) := pe_lc hc hN hi ok hg ht he hs
theorem ps_setLcQ {i : Nat} {y : Str} {py : Pos} {elt tg iter : Expr} {ifs : List Expr} {scope : Scope} {own : List (Str × Nat)} {pos spos : Pos} {wi : TI} {g : TG} {tt : TT} {te : TE} (hc : X.calm = true) (hN : X.N.Nodup) (hy : X.N[i]? = some y) (hyl : X.env.scope.names.lookup y = some .local)
    (hsw : swapsWith (.ListComp elt [⟨tg, iter, ifs, 0⟩] scope pos) (some (.Name y py)) spos.line X.env = pure true) (hi : PI X tg iter wi) (ok : BlkOk X.N X.env.scope scope own)
    (hg : ∀ (s : Shared) (H : Hp) (C : Addr) (cl : List (Str × Addr)) (fp : List Addr), PG (X.blk s H scope (compEnvC scope cl C X.env) fp) tg g) (ht : ∀ (s : Shared) (H : Hp) (C : Addr) (cl : List (Str × Addr)) (fp : List Addr), PTs (X.blk s H scope (compEnvC scope cl C X.env) fp) ifs tt)
    (he : ∀ (s : Shared) (H : Hp) (C : Addr) (cl : List (Str × Addr)) (fp : List Addr), PE (X.blk s H scope (compEnvC scope cl C X.env) fp) elt te) (hs : ∀ x, foldedSetIterable iter X.env x = pure x := by intro _; rfl) :
    PS X (.Assign [.Name y py] (.ListComp elt [⟨tg, iter, ifs, 0⟩] scope pos) spos) (tAsg (tLcQ wi g tt te (own.map (·.2))) (gName i)) := ps_setLc hc hN hy hyl hsw hi ok hg ht he hs
end
section
variable {K : Fr} {J : It} {tt : TT} {te : TE} {σ : L2.St} {H Z : Hp} {vs : List Nat} {Q : VK}
theorem New.all {γ β : Type} [Py β] {L : List γ} {f : γ → β} (k : New K Z H Q (L.map f)) : New K Z H Q ((L.filter fun _ => true).map f) := by
  rw [show (L.filter fun _ => true) = L from List.filter_eq_self.mpr fun _ _ => rfl]
  exact k
theorem lc1S {γ β : Type} [Sc γ] [Py β] {L : List γ} {i : Nat} (src : Src J Z L (fun b x H H' => H' = H ∧ x = Sc.emb b)) (zh : Same Z H) (f : γ → β) (p : γ → Bool) (hs : L.length < sizeLine)
    (el : ∀ a Z' H' (C : VK) (N : Hp → Prop), a ∈ L → Step Z H Z' H' → (∀ y Z2 H3, Step Z' H' Z2 H3 → p a = true → Py.R K Z2 y (f a) → C y H3) → (∀ Z2 H3, Step Z' H' Z2 H3 → p a = false → N H3) →
      wipe ((wipe σ vs).set i (some (Sc.emb a))) vs = wipe σ vs ∧ tt ((wipe σ vs).set i (some (Sc.emb a))) H' fun b H4 => if b = true then te ((wipe σ vs).set i (some (Sc.emb a))) H4 C else N H4)
    (k : New K Z H Q ((L.filter p).map f)) : lcRest J (gName i) tt te vs Q σ H :=
  lcK src zh f p hs (fun a x Z' H' H2 C N hm st y kC kN => by obtain ⟨rfl, rfl⟩ := y; exact el a Z' _ C N hm st kC kN) k
theorem lc1 {γ β : Type} [Py γ] [Py β] {L : List γ} {i : Nat} (src : Src J Z L (fun b x H H' => H' = H ∧ Py.R K Z x b)) (zh : Same Z H) (f : γ → β) (p : γ → Bool) (hs : L.length < sizeLine)
    (el : ∀ a x Z' H' (C : VK) (N : Hp → Prop), a ∈ L → Step Z H Z' H' → Py.R K Z x a → (∀ y Z2 H3, Step Z' H' Z2 H3 → p a = true → Py.R K Z2 y (f a) → C y H3) → (∀ Z2 H3, Step Z' H' Z2 H3 → p a = false → N H3) →
      wipe ((wipe σ vs).set i (some x)) vs = wipe σ vs ∧ tt ((wipe σ vs).set i (some x)) H' fun b H4 => if b = true then te ((wipe σ vs).set i (some x)) H4 C else N H4)
    (k : New K Z H Q ((L.filter p).map f)) : lcRest J (gName i) tt te vs Q σ H :=
  lcK src zh f p hs (fun a x Z' H' H2 C N hm st y kC kN => by obtain ⟨rfl, hy⟩ := y; exact el a x Z' _ C N hm st hy kC kN) k
theorem lc2 {α β δ : Type} [Py δ] {RA : V → α → Prop} {RB : V → β → Prop} {L : List (α × β)} {i j : Nat} (src : Src J Z L (YP RA RB)) (zh : Same Z H) (f : α × β → δ) (p : α × β → Bool) (hs : L.length < sizeLine)
    (el : ∀ q u v Z' H' (C : VK) (N : Hp → Prop), q ∈ L → Step Z H Z' H' → RA u q.1 → RB v q.2 → (∀ y Z2 H3, Step Z' H' Z2 H3 → p q = true → Py.R K Z2 y (f q) → C y H3) → (∀ Z2 H3, Step Z' H' Z2 H3 → p q = false → N H3) →
      wipe (((wipe σ vs).set i (some u)).set j (some v)) vs = wipe σ vs ∧ tt (((wipe σ vs).set i (some u)).set j (some v)) H' fun b H4 => if b = true then te (((wipe σ vs).set i (some u)).set j (some v)) H4 C else N H4)
    (k : New K Z H Q ((L.filter p).map f)) : lcRest J (gTup K 2 (gCons (gName i) (gCons (gName j) gNil))) tt te vs Q σ H :=
  lcK src zh f p hs (fun a x Z' H' H2 C N hm st y kC kN => tgt2 st.zh y fun u v hu hv s2 =>
    el a u v Z' H2 C N hm (st.trans s2) hu hv (fun y Z2 H3 s3 => kC y Z2 H3 (s2.trans s3)) (fun Z2 H3 s3 => kN Z2 H3 (s2.trans s3))) k
end
section
variable {K : Fr} {Z H Z0 H0 : Hp} {Q : VK}
theorem andT {a b z : Bool} (h : a = true) (p : z = b) : z = (a && b) := by rw [h, p]; rfl
theorem andF {a b : Bool} (h : ¬ a = true) : false = (a && b) := by rw [show a = false by cases a with | true => exact absurd rfl h | false => rfl]; rfl
theorem orT {a b : Bool} (h : a = true) : true = (a || b) := by rw [h]; rfl
theorem orF {a b z : Bool} (h : ¬ a = true) (p : z = b) : z = (a || b) := by rw [show a = false by cases a with | true => exact absurd rfl h | false => rfl, p]; rfl
theorem log_small {i : Int} (h0 : 0 ≤ i) (h1 : i < 2 ^ 64) : i.natAbs.log2 < 1920 := Nat.lt_trans (PySem.Flt.log2_lt_of (by decide) (show i.natAbs < 2 ^ 64 by omega)) (by decide)
theorem join_ok {l : List Str} {a : Str} {n : Nat} (h : ∀ x ∈ l, x.length ≤ n) (h2 : l.length * n + l.length * a.length ≤ 16777216) : (l.map (·.length)).sum + l.length * a.length ≤ 16777216 := by
  have := PySem.StrLaws.sumLen_le l h
  omega
theorem eqF {b : Bool} (h : ¬ b = true) : b = false := by cases b with | true => exact absurd rfl h | false => rfl
theorem yesK {te : TE} {σ : L2.St} {H : Hp} {C : VK} {N : Hp → Prop} (h : te σ H C) : tYes σ H fun b H4 => if b = true then te σ H4 C else N H4 := by
  show (if true = true then te σ H C else N H)
  rw [if_pos rfl]
  exact h
theorem setI_len {α : Type} (l : List α) (i : Int) (a : α) : (setI l i a).length = l.length := by
  unfold setI
  split
  · rw [List.length_set]
  · rfl
theorem setI_nat {α : Type} {l : List α} {i : Int} {a : α} (h0 : 0 ≤ i) (h1 : i < l.length) : setI l i a = l.set i.toNat a := by
  unfold setI ixN
  rw [if_pos h0, if_pos h1]
theorem all_setI {α : Type} {P : α → Prop} {l m : List α} {i : Int} {a : α} (e : m = setI l i a) (h : ∀ x ∈ l, P x) (ha : P a) : ∀ x ∈ m, P x := by
  intro x hx
  rw [e] at hx
  unfold setI at hx
  split at hx
  · rcases List.mem_or_eq_of_mem_set hx with h1 | rfl
    · exact h x h1
    · exact ha
  · exact h x hx
theorem all_chars {z : Str} {m : List Str} (e : m = (chars z).map fun s => s) : ∀ x ∈ m, x.length ≤ 1 := fun x hx => by
  rw [e, List.map_id'] at hx
  exact Nat.le_of_eq (chars_len1 hx)
theorem rangeC_succ (lo : Int) (n : Nat) : rangeC lo (-1) (n + 1) = lo :: rangeC (lo - 1) (-1) n := by
  unfold rangeC
  rw [List.range_succ_eq_map, List.map_cons, List.map_map]
  congr 1
  · omega
  · apply List.map_congr_left
    intro i _
    show lo + ((i + 1 : Nat) : Int) * -1 = lo - 1 + (i : Int) * -1
    omega
/-! ### join -/
theorem join_nil : ∀ l : List Str, codes (Txt.join "" l) = (l.map codes).flatten := by
  have e : codes "" = [] := by decide +kernel
  have key : ∀ l : List Str, codes (Str.join "" l) = (l.map codes).flatten := by
    intro l
    induction l with
    | nil => rfl
    | cons x r ih =>
      cases r with
      | nil => simp [Str.join]
      | cons y r =>
        show codes (x ++ "" ++ Str.join "" (y :: r)) = _
        rw [codes_app, codes_app, ih, e, List.append_nil]
        simp
  intro l
  rw [show Txt.join "" l = Str.join "" l from PySem.StrLaws.glued_eq_join "" l]
  exact key l
theorem join_sg (l : List Nat) : Txt.join "" (l.map sg) = mk l := by
  apply codes_inj
  rw [join_nil, codes_mk, List.map_map]
  induction l with
  | nil => rfl
  | cons c r ih => rw [List.map_cons, List.flatten_cons, ih]; rfl
/-! ### xs[::-1] -/
def rRevQ (K : Fr) : V → Hp → VK → Prop := fun x H Q => ∃ a xs, x = .ref a ∧ SqL K H a xs ∧ ∀ p, H p = none → Q (.ref p) (upd H p (.lst xs.reverse))
def tRevQ (K : Fr) (te : TE) : TE := fun σ H Q => te σ H fun x H1 => rRevQ K x H1 Q
theorem pe_revQ {X : Cx} {e : Expr} {te : TE} {k : Nat} {p1 p2 p3 pos : Pos} (he : PE X e te) : PE X (.Subscript e (.Slice none none (some (.UnaryOp .USub (.Constant (.int 1) k p1) p2)) p3) pos) (tRevQ X.K te) := pe_revL he
theorem k_rev {α : Type} [Py α] {v : V} {l : List α} (zh : Same Z H) (h : RO K Z H v l) (k : New K Z H Q l.reverse) : rRevQ K v H Q := by
  obtain ⟨a, xs, rfl, hl, pr⟩ := h
  exact ⟨a, xs, rfl, SqL.of hl, New.lay zh pr.pRev k⟩
theorem src_rev {α : Type} [Py α] {a : Addr} {xs : List V} {l : List α} (hz : Z a = some (.lst xs)) (p : Paired (Py.R K Z) xs l) : Src (Itv K a xs.length) Z l.reverse (fun b x H H' => H' = H ∧ Py.R K Z x b) := by
  have hl := p.pLen
  have hat : ∀ (i : Nat) (b : α), l.reverse[i]? = some b → i < l.length ∧ l[l.length - 1 - i]? = some b := fun i b h => by
    have h1 := (List.getElem?_eq_some_iff.mp h).1
    rw [List.length_reverse] at h1
    rw [List.getElem?_reverse h1] at h
    exact ⟨h1, h⟩
  refine ⟨fun i b H' e s => ?_, fun i b H' x H2 e s y => ?_, fun H' s => ?_⟩
  · obtain ⟨h0, h1⟩ := hat i b e
    obtain ⟨x, h2, h3⟩ := p.pAt h1
    exact ⟨by omega, xs, x, SqL.of (s _ _ hz), by rw [hl]; exact h2⟩
  · obtain ⟨rfl, y⟩ := y
    obtain ⟨h0, h1⟩ := hat i b e
    obtain ⟨x', h2, h3⟩ := p.pAt h1
    have h4 := y xs (SqL.of (s _ _ hz))
    rw [hl, h2] at h4
    cases h4
    exact ⟨rfl, h3⟩
  · show xs.length ≤ l.reverse.length
    rw [List.length_reverse, hl]
    exact Nat.le_refl _
/-! ### divmod -/
def rDmQ : List V → Hp → VK → Prop := fun xs H Q => ∃ i j, xs = [.int i, .int j] ∧ CDiv i j ∧ ∀ p, H p = none → Q (.ref p) (upd H p (.tup [.int (i / j), .int (i % j)]))
theorem call_dmQ {X : Cx} : CallR X (.builtin "divmod") rDmQ := call_divmod
theorem k_dm {i j : Int} (zh : Same Z H) (h0 : 0 < j) (h1 : j < 1073741824) (k : Tel K Z H Q (i / j, i % j)) : rDmQ [.int i, .int j] H Q := by
  refine ⟨i, j, rfl, ⟨h0, h1⟩, fun p hp => ?_⟩
  have st := Step.new (o := .tup [.int (i / j), .int (i % j)]) zh hp
  exact k _ _ _ st ⟨p, _, _, rfl, upd_same, rfl, rfl⟩
/-! ### str(n) -/
def rStrQ : List V → Hp → VK → Prop := fun xs H Q => ∃ i, xs = [V.int i] ∧ i.natAbs.log2 < 1920 ∧ Q (.str (toStr i)) H
theorem call_strQ {X : Cx} : CallR X (.type "str") rStrQ := call_str_int
theorem toStr_codes (m : Nat) : codes (toStr (m : Int)) = (Nat.toDigits 10 m).map Char.toNat := PySem.W.KIN.signs_num m
theorem toStr_small {i : Int} (h0 : 0 ≤ i) (h1 : i < 10) : codes (toStr i) = [48 + i.toNat] := by
  have : i = 0 ∨ i = 1 ∨ i = 2 ∨ i = 3 ∨ i = 4 ∨ i = 5 ∨ i = 6 ∨ i = 7 ∨ i = 8 ∨ i = 9 := by omega
  rcases this with rfl | rfl | rfl | rfl | rfl | rfl | rfl | rfl | rfl | rfl <;> decide +kernel
theorem toDigits_len : ∀ (k m : Nat), m < 10 ^ (k + 1) → (Nat.toDigits 10 m).length ≤ k + 1 := fun k m h => by
  rw [Nat.length_toDigits_le_iff (by decide) (Nat.succ_pos k)]
  exact h
theorem toStr_len {i : Int} (k : Nat) (h0 : 0 ≤ i) (h1 : i < 10 ^ (k + 1)) : (toStr i).length ≤ k + 1 := by
  obtain ⟨m, rfl⟩ := Int.eq_ofNat_of_zero_le h0
  rw [len_codes, toStr_codes, List.length_map]
  exact toDigits_len k m (by
    have : ((10 ^ (k + 1) : Nat) : Int) = (10 : Int) ^ (k + 1) := by simp
    omega)
theorem toStr_lenp (i : Int) : 0 ≤ i → ((i < 10 → (toStr i).length = 1) ∧ (i < 10000 → (toStr i).length ≤ 4) ∧ (i < 10 ^ 20 → (toStr i).length ≤ 20)) := fun h0 => by
  refine ⟨fun h => ?_, fun h => ?_, fun h => ?_⟩
  · rw [len_codes, toStr_small h0 h]; rfl
  · exact toStr_len 3 h0 (by omega)
  · exact toStr_len 19 h0 (by omega)
/-! ### great numbers -/
theorem op_mulB {X : Cx} : OpR X (binaryOp .Mult) (rI (fun i j => Builtin.Int.intBits i ≤ 2 ^ 20 ∧ Builtin.Int.intBits j ≤ 2 ^ 20) fun i j => .int (i * j)) := opI fun _ _ _ _ _ _ _ hc q => mul_int q (IntMulOk.of_bits hc.1 hc.2)
/-! ### [x] * n -/
def repL {α : Type} (l : List α) (n : Int) : List α := (List.replicate n.toNat l).flatten
theorem Paired.rep {α β : Type} {F : α → β → Prop} {l : List α} {m : List β} (p : Paired F l m) : ∀ n : Nat, Paired F (List.replicate n l).flatten (List.replicate n m).flatten
  | 0 => .nil
  | n + 1 => by
    rw [List.replicate_succ, List.replicate_succ, List.flatten_cons, List.flatten_cons]
    exact p.pApp (Paired.rep p n)
theorem k_rep {α : Type} [Py α] {v : V} {l : List α} {n : Int} (zh : Same Z H) (h : RO K Z H v l) (h0 : -(2 ^ 63) ≤ n) (h1 : n < 2 ^ 63) (hs : l.length * n.toNat ≤ sizeLine) (k : New K Z H Q (repL l n)) : rRep v (.int n) H Q := by
  obtain ⟨a, xs, rfl, hl, pr⟩ := h
  exact ⟨a, n, xs, rfl, rfl, hl, h0, h1, by rw [pr.pLen]; exact hs, New.lay zh (Paired.rep pr _) k⟩
theorem repL_one {α : Type} (a : α) (n : Int) : repL [a] n = List.replicate n.toNat a := by
  unfold repL
  induction n.toNat with
  | zero => rfl
  | succ m ih => rw [List.replicate_succ, List.flatten_cons, ih, List.replicate_succ]; rfl
/-! ### insert, pop, l[i] += x -/
theorem k_insert {α : Type} [Py α] {q : Addr} {v : V} {l : List α} {i : Int} {a : α} (o : Own K H0 Z H q l) (h : Py.R K Z v a) (hs : l.length < sizeLine) (hi : 0 ≤ i ∧ i < 2 ^ 63) (k : ∀ u, Own K H0 Z (upd H q u) q (insI l i a) → Q .non (upd H q u)) :
    (fun (x : V) vs H (Q : VK) => ∃ (l : Addr) (xs : List V) (i : Int) (y : V), x = .ref l ∧ vs = [.int i, y] ∧ H l = some (.lst xs) ∧ xs.length < sizeLine ∧ 0 ≤ i ∧ i < 2 ^ 63 ∧ Q .non (upd H l (.lst (xs.take i.toNat ++ [y] ++ xs.drop i.toNat)))) (.ref q) [.int i, v] H Q := by
  obtain ⟨⟨xs, hz, pr⟩, nz, n0⟩ := o
  exact ⟨q, xs, i, v, rfl, rfl, hz, by rw [pr.pLen]; exact hs, hi.1, hi.2, k _ ⟨⟨_, upd_same, ((pr.pTake _).pApp (.cons h .nil)).pApp (pr.pDrop _)⟩, nz, n0⟩⟩
end
/-! ### while -/
/-- the mirror's while: n bounds the turns -/
def whileS {S : Type} (c : S → Bool) (f : S → S) : Nat → S → S
  | 0, s => s
  | n + 1, s => if c s = true then whileS c f n (f s) else s
def whRest (c : TT) (tb : TS) (D : Ends) (σ : L2.St) (H : Hp) : Prop := ∃ W : Nat → L2.St → Hp → Prop, (∃ m, W m σ H) ∧ ∀ m σ H, W m σ H →
  c σ H fun b H1 => if b = true then ∃ N : L2.St → Hp → Prop, (∀ σ' H', N σ' H' → ∃ m', m' < m ∧ W m' σ' H') ∧ tb { D with nx := N, ct := N, bk := D.nx } σ H1 else D.nx σ H1
end Cd

set_option Elab.async false
set_option linter.all false
set_option maxRecDepth 100000
set_option maxHeartbeats 4000000
namespace Cd
open PySem L2
def topS (i : Nat) : Stmt := PySem.Challenge.pw_cardshop_k05_punched.main.body.getD i (.Pass ⟨0, 0, 0, 0⟩)

/-! ### mirrors -/
def m_part_of (a_card : Str) (a_field : (Int × Int)) : Str :=
  (cutS a_card (some ((a_field).1 - (1 : Int))) (some (a_field).2))
def m_number_of_b0 (ls7 : Int) (sign_10 : Str) : (Int) :=
  let total_3 := ls7
  let total_22 : Int := ((10 : Int) * total_3)
  if (inS sign_10 ("0123456789" : Str)) = true then (
  let total_26 : Int := (total_22 + (intS sign_10))
  total_26)
  else (
  total_22)
def m_number_of (a_card : Str) (a_field : (Int × Int)) : Int :=
  let total_1 : Int := (0 : Int)
  let total_3 : Int := loopS m_number_of_b0 total_1 (chars (m_part_of a_card a_field))
  total_3
def m_punch_in_b0 (ls17 : Int × Str) (k_20 : Int) : (Int × Str) :=
  let value_11 := ls17.1
  let signs_12 := ls17.2
  let value_41 := ((value_11 / (10 : Int), value_11 % (10 : Int))).1
  let figure_42 := ((value_11 / (10 : Int), value_11 % (10 : Int))).2
  let signs_46 : Str := ((toStr figure_42) ++ signs_12)
  (value_41, signs_46)
def m_punch_in (a_card : Str) (a_field : (Int × Int)) (a_value : Int) : Str :=
  let first_5 := (a_field).1
  let last_6 := (a_field).2
  let signs_9 : Str := ("" : Str)
  let js63 : Int × Str := loopS m_punch_in_b0 (a_value, signs_9) (rangeL 0 (((last_6 - first_5) + (1 : Int))).toNat)
  let value_11 : Int := js63.1
  let signs_12 : Str := js63.2
  (((cutS a_card none (some (first_5 - (1 : Int)))) ++ signs_12) ++ (cutS a_card (some last_6) none))
def m_law_whole (a_law_found : Int) : Bool :=
  (true && (!false))
def m_law_mixed (a_law_cell : Int) (a_law_k : Int) : Int :=
  ((((((a_law_cell % (2147483647 : Int)) + (((7 : Int) * a_law_k) * a_law_k)) + ((11 : Int) * a_law_k)) + (1 : Int)) * (48271 : Int)) % (2147483647 : Int))
def m_law_card_b0 (a_law_script : Scr) (ls7 : Str) (k_10 : Int) : (Str) :=
  let card_here_3 := ls7
  let cell_22 : Int := (0 : Int)
  let cell_24 : Int := (if (decide ((0 : Int) < ((a_law_script).ns.length : Int))) = true then (
  let cell_30 : Int := (getI a_law_script.ns (k_10 % ((a_law_script).ns.length : Int)))
  cell_30)
  else (
  cell_22))
  let card_here_36 : Str := (card_here_3 ++ (chS (" 0123456789ABCDEFGHIJKLMNOPQRSTUVWXYZ" : Str) (((m_law_mixed cell_24 k_10) / (5 : Int)) % (37 : Int))))
  card_here_36
def m_law_card (a_law_script : Scr) : Str :=
  let card_here_1 : Str := ("" : Str)
  let card_here_3 : Str := loopS (m_law_card_b0 a_law_script) card_here_1 (rangeL 0 ((40 : Int)).toNat)
  card_here_3
def m_law_field (a_law_cell : Int) (a_law_k : Int) : (Int × Int) :=
  let number_1 : Int := (m_law_mixed a_law_cell ((40 : Int) + a_law_k))
  let first_4 : Int := ((1 : Int) + ((number_1 / (8 : Int)) % (36 : Int)))
  if (decide ((number_1 % (8 : Int)) = (0 : Int))) = true then (
  (first_4, first_4))
  else (
  let last_13 : Int := (min2 (36 : Int) (first_4 + ((number_1 / (288 : Int)) % (9 : Int))))
  let last_15 : Int := (if (decide ((number_1 % (8 : Int)) = (1 : Int))) = true then (
  let last_21 : Int := (36 : Int)
  last_21)
  else (
  last_13))
  (first_4, last_15))
def m_law_power_b0 (ls7 : Int) (k_10 : Int) : (Int) :=
  let found_3 := ls7
  let found_22 : Int := ((10 : Int) * found_3)
  found_22
def m_law_power (a_law_many : Int) : Int :=
  let found_1 : Int := (1 : Int)
  let found_3 : Int := loopS m_law_power_b0 found_1 (rangeL 0 (a_law_many).toNat)
  found_3
def m_law_value (a_law_cell : Int) (a_law_number : Int) (a_law_width : Int) : Int :=
  let kind_1 : Int := (a_law_number % (5 : Int))
  if (decide (kind_1 = (0 : Int))) = true then (
  ((a_law_cell % (((2 : Int) * ((10 : Int) ^ ((60 : Int)).toNat)) - (1 : Int))) - (((10 : Int) ^ ((60 : Int)).toNat) - (1 : Int))))
  else (
  if (decide (kind_1 = (1 : Int))) = true then (
  (((((a_law_number / (5 : Int)) % (2 : Int)) * (2 : Int)) - (1 : Int)) * (((a_law_cell % ((10 : Int) ^ ((18 : Int)).toNat)) * (7919 : Int)) + a_law_number)))
  else (
  if (decide (kind_1 = (2 : Int))) = true then (
  (((a_law_number / (5 : Int)) % (25 : Int)) - (12 : Int)))
  else (
  let value_here_13 : Int := (((m_law_power (a_law_width + ((a_law_number / (5 : Int)) % (2 : Int)))) + ((a_law_number / (10 : Int)) % (3 : Int))) - (1 : Int))
  if (decide (kind_1 = (3 : Int))) = true then (
  value_here_13)
  else (
  ((0 : Int) - value_here_13)))))
def m_law_due_b0 (ls27 : Int × (List Str)) (column_30 : Int) : (Int × (List Str)) :=
  let rest_21 := ls27.1
  let signs_22 := ls27.2
  let signs_43 : (List Str) := (setI signs_22 (column_30 - (1 : Int)) (chS ("0123456789" : Str) (rest_21 % (10 : Int))))
  let rest_46 : Int := (rest_21 / (10 : Int))
  (rest_46, signs_43)
def m_law_due (a_law_card_here : Str) (a_law_field_here : (Int × Int)) (a_law_value_here : Int) : Str :=
  let signs_2 : (List Str) := ((chars a_law_card_here).map (fun (sign_1 : Str) => sign_1))
  let rest_19 : Int := (a_law_value_here % (m_law_power (((a_law_field_here).2 - (a_law_field_here).1) + (1 : Int))))
  let js63 : Int × (List Str) := loopS m_law_due_b0 (rest_19, signs_2) (rangeC (a_law_field_here).2 (-(1 : Int)) ((a_law_field_here).2 - ((a_law_field_here).1 - (1 : Int))).toNat)
  let rest_21 : Int := js63.1
  let signs_22 : (List Str) := js63.2
  (Txt.join ("" : Str) signs_22)
def m_law_b0 (ls26 : Str) (q38 : (Int × Int)) : (LR (Str) Bool) :=
  let card_here_22 := ls26
  let k_46 := q38.1
  let cell_48 := q38.2
  let field_here_50 : (Int × Int) := (m_law_field cell_48 k_46)
  let width_57 : Int := (((field_here_50).2 - (field_here_50).1) + (1 : Int))
  let value_here_60 : Int := (m_law_value cell_48 (m_law_mixed cell_48 ((140 : Int) + ((2 : Int) * k_46))) width_57)
  let due_here_62 : Str := (m_law_due card_here_22 field_here_50 value_here_60)
  let found_68 : Str := (m_punch_in card_here_22 field_here_50 value_here_60)
  if ((!true) || (!decide (found_68 = due_here_62))) = true then (
  (.ret false))
  else (
  let number_79 : Int := (m_number_of found_68 field_here_50)
  if ((!(m_law_whole number_79)) || ((!decide (number_79 = (value_here_60 % (m_law_power width_57)))) || (!decide ((m_punch_in found_68 field_here_50 value_here_60) = due_here_62)))) = true then (
  (.ret false))
  else (
  let card_here_100 : Str := due_here_62
  (.nxt card_here_100)))
def m_law (a_law_script : Scr) : Bool :=
  let card_here_1 : Str := (m_law_card a_law_script)
  LR.bind (loopR m_law_b0 card_here_1 (enumL 0 ([(0 : Int)] ++ (cutL a_law_script.ns none (some (84 : Int)))))) (fun ls115 : Str => (
  let card_here_22 := ls115
  true))
/-! ### the plain law -/
theorem len_lit2 : (("0123456789" : Str)).length = 10 := by decide +kernel
theorem cd_lit2 : codes (("0123456789" : Str)) = [48, 49, 50, 51, 52, 53, 54, 55, 56, 57] := by decide +kernel
theorem len_lit1 : ((" 0123456789ABCDEFGHIJKLMNOPQRSTUVWXYZ" : Str)).length = 37 := by decide +kernel
theorem cd_lit1 : codes ((" 0123456789ABCDEFGHIJKLMNOPQRSTUVWXYZ" : Str)) = [32, 48, 49, 50, 51, 52, 53, 54, 55, 56, 57, 65, 66, 67, 68, 69, 70, 71, 72, 73, 74, 75, 76, 77, 78, 79, 80, 81, 82, 83, 84, 85, 86, 87, 88, 89, 90] := by decide +kernel
theorem len_lit0 : (("" : Str)).length = 0 := by decide +kernel
theorem cd_lit0 : codes (("" : Str)) = [] := by decide +kernel

theorem mixed_rng (c k : Int) : 0 ≤ m_law_mixed c k ∧ m_law_mixed c k < 2147483647 := by
  unfold m_law_mixed
  omega
theorem field_rng (c k : Int) : 1 ≤ (m_law_field c k).1 ∧ (m_law_field c k).1 ≤ (m_law_field c k).2 ∧ (m_law_field c k).2 ≤ 36 := by
  unfold m_law_field
  dsimp only
  have h := mixed_rng c (40 + k)
  generalize m_law_mixed c (40 + k) = n at h
  split
  · dsimp only; omega
  · dsimp only
    rw [min2_eq]
    split <;> omega
theorem card_len (s : Scr) : (m_law_card s).length = 40 := by
  unfold m_law_card
  have h := loopS_inv (f := m_law_card_b0 s) (l := rangeL 0 (40 : Int).toNat) (s := ("" : Str)) (fun i z => z.length = i) (by decide +kernel) (fun i z x _ e => by
    unfold m_law_card_b0
    dsimp only
    rw [len_app, len_chS, e])
  rw [rangeL_len] at h
  exact h
theorem power_eq (n : Int) : m_law_power n = 10 ^ n.toNat := by
  unfold m_law_power
  have h := loopS_inv (f := m_law_power_b0) (l := rangeL 0 n.toNat) (s := (1 : Int)) (fun i z => z = 10 ^ i) rfl (fun i z x _ e => by
    show (10 : Int) * z = 10 ^ (i + 1)
    rw [e, Int.pow_succ, Int.mul_comm])
  rw [rangeL_len] at h
  exact h
theorem power_pos (n : Int) : 0 < m_law_power n := by
  rw [power_eq]
  exact Int.pow_pos (by decide)
/-- the last w figures of v -/
def digL : Nat → Int → List Nat
  | 0, _ => []
  | w + 1, v => digL w (v / 10) ++ [48 + (v % 10).toNat]
theorem digL_len : ∀ (w : Nat) (v : Int), (digL w v).length = w
  | 0, _ => rfl
  | w + 1, v => by
    show (digL w (v / 10) ++ _).length = _
    rw [List.length_append, digL_len w]
    rfl
theorem mod_shift (v : Int) {m : Int} (hm : 0 < m) : (v % (10 * m)) % 10 = v % 10 ∧ (v % (10 * m)) / 10 = (v / 10) % m := by
  have h1 : v = 10 * (v / 10) + v % 10 := (Int.mul_ediv_add_emod v 10).symm
  have h2 : v / 10 = m * (v / 10 / m) + v / 10 % m := (Int.mul_ediv_add_emod (v / 10) m).symm
  have b0 : 0 ≤ v % 10 := Int.emod_nonneg _ (by decide)
  have b1 : v % 10 < 10 := Int.emod_lt_of_pos _ (by decide)
  have b2 : 0 ≤ v / 10 % m := Int.emod_nonneg _ (by omega)
  have b3 : v / 10 % m < m := Int.emod_lt_of_pos _ hm
  generalize hr : v % 10 = r at *
  generalize hb : v / 10 % m = b at *
  generalize ha : v / 10 / m = a at *
  generalize hq : v / 10 = q at *
  have e : v = (10 * b + r) + (10 * m) * a := by
    rw [h1, h2, Int.mul_add, Int.mul_assoc 10 m a]
    omega
  have e2 : v % (10 * m) = 10 * b + r := by
    rw [e, Int.add_mul_emod_self_left]
    exact Int.emod_eq_of_lt (by omega) (by omega)
  rw [e2]
  constructor <;> omega
theorem pow_succ10 (w : Nat) : (10 : Int) ^ (w + 1) = 10 * 10 ^ w := by rw [Int.pow_succ, Int.mul_comm]
theorem pow_pos10 (w : Nat) : 0 < (10 : Int) ^ w := Int.pow_pos (by decide)
theorem digL_mod : ∀ (w : Nat) (v : Int), digL w (v % 10 ^ w) = digL w v
  | 0, _ => rfl
  | w + 1, v => by
    obtain ⟨h1, h2⟩ := mod_shift v (pow_pos10 w)
    show digL w (v % 10 ^ (w + 1) / 10) ++ [48 + (v % 10 ^ (w + 1) % 10).toNat] = digL w (v / 10) ++ [48 + (v % 10).toNat]
    rw [pow_succ10, h1, h2, digL_mod w]
theorem digL_mem : ∀ (w : Nat) (v : Int), ∀ c ∈ digL w v, 48 ≤ c ∧ c ≤ 57
  | 0, _, c, h => nomatch h
  | w + 1, v, c, h => by
    rcases List.mem_append.mp h with h | h
    · exact digL_mem w _ c h
    · have e := List.mem_singleton.mp h
      have b0 : 0 ≤ v % 10 := Int.emod_nonneg _ (by decide)
      have b1 : v % 10 < 10 := Int.emod_lt_of_pos _ (by decide)
      omega
/-! the punching -/
theorem punch_loop : ∀ (n : Nat) (a v : Int) (z : Str), codes (loopS m_punch_in_b0 (v, z) (rangeL a n)).2 = digL n v ++ codes z
  | 0, _, _, _ => rfl
  | n + 1, a, v, z => by
    rw [rangeL_succ]
    show codes (loopS m_punch_in_b0 (v / 10, toStr (v % 10) ++ z) (rangeL (a + 1) n)).2 = _
    rw [punch_loop n, codes_app, toStr_small (Int.emod_nonneg _ (by decide)) (Int.emod_lt_of_pos _ (by decide))]
    show _ = (digL n (v / 10) ++ [48 + (v % 10).toNat]) ++ codes z
    rw [List.append_assoc]
theorem punch_codes (z : Str) (f : Int × Int) (v : Int) (h1 : 1 ≤ f.1) (h2 : f.1 ≤ f.2) : codes (m_punch_in z f v) = (codes z).take (f.1 - 1).toNat ++ digL (f.2 + 1 - f.1).toNat v ++ (codes z).drop f.2.toNat := by
  unfold m_punch_in
  dsimp only
  rw [codes_app, codes_app, codes_cut, codes_cut, cutL_to (by omega), cutL_from (by omega), punch_loop, show codes "" = [] from cd_lit0, List.append_nil, show (f.2 - f.1 + 1).toNat = (f.2 + 1 - f.1).toNat by omega]
theorem punch_len (z : Str) (f : Int × Int) (v : Int) : 1 ≤ f.1 ∧ f.1 ≤ f.2 ∧ f.2 ≤ z.length → (m_punch_in z f v).length = z.length := fun ⟨h1, h2, h3⟩ => by
  rw [len_codes, punch_codes z f v h1 h2, len_codes z]
  rw [len_codes z] at h3
  simp only [List.length_append, List.length_take, List.length_drop, digL_len]
  omega
/-! what is due -/
theorem chS_fig {i : Int} (h0 : 0 ≤ i) (h1 : i < 10) : chS "0123456789" i = sg (48 + i.toNat) := by
  have : i = 0 ∨ i = 1 ∨ i = 2 ∨ i = 3 ∨ i = 4 ∨ i = 5 ∨ i = 6 ∨ i = 7 ∨ i = 8 ∨ i = 9 := by omega
  rcases this with rfl | rfl | rfl | rfl | rfl | rfl | rfl | rfl | rfl | rfl <;> decide +kernel
theorem due_loop : ∀ (n : Nat) (b v : Int) (l : List Nat), (n : Int) ≤ b → b ≤ l.length →
    (loopS m_law_due_b0 (v, l.map sg) (rangeC b (-1) n)).2 = (l.take (b.toNat - n) ++ digL n v ++ l.drop b.toNat).map sg
  | 0, b, v, l, h1, h2 => by
    show l.map sg = _
    rw [show digL 0 v = [] from rfl, List.append_nil, Nat.sub_zero, List.take_append_drop]
  | n + 1, b, v, l, h1, h2 => by
    rw [rangeC_succ]
    show (loopS m_law_due_b0 (v / 10, setI (l.map sg) (b - 1) (chS "0123456789" (v % 10))) (rangeC (b - 1) (-1) n)).2 = _
    rw [chS_fig (Int.emod_nonneg _ (by decide)) (Int.emod_lt_of_pos _ (by decide)), setI_nat (by omega) (by rw [List.length_map]; omega), ← List.map_set,
      due_loop n (b - 1) (v / 10) _ (by omega) (by rw [List.length_set]; omega)]
    congr 1
    have hb : (b - 1).toNat < l.length := by omega
    rw [List.take_set_of_le (by omega), List.drop_set, if_neg (by omega), show (b - 1).toNat - (b - 1).toNat = 0 by omega, List.drop_eq_getElem_cons hb, List.set_cons_zero,
      show (b - 1).toNat + 1 = b.toNat by omega, show (b - 1).toNat - n = b.toNat - (n + 1) by omega]
    show _ = l.take (b.toNat - (n + 1)) ++ (digL n (v / 10) ++ [48 + (v % 10).toNat]) ++ l.drop b.toNat
    simp only [List.append_assoc, List.singleton_append]
theorem due_codes (z : Str) (f : Int × Int) (v : Int) (h1 : 1 ≤ f.1) (h2 : f.1 ≤ f.2) (h3 : f.2 ≤ z.length) : codes (m_law_due z f v) = (codes z).take (f.1 - 1).toNat ++ digL (f.2 + 1 - f.1).toNat v ++ (codes z).drop f.2.toNat := by
  unfold m_law_due
  dsimp only
  rw [len_codes z] at h3
  rw [show (chars z).map (fun s => s) = (codes z).map sg by rw [List.map_id']; rfl, show f.2 - (f.1 - 1) = f.2 + 1 - f.1 by omega, due_loop _ _ _ _ (by omega) h3, join_sg, codes_mk, power_eq, show (f.2 - f.1 + 1).toNat = (f.2 + 1 - f.1).toNat by omega, digL_mod,
    show f.2.toNat - (f.2 + 1 - f.1).toNat = (f.1 - 1).toNat by omega]
theorem due_eq (z : Str) (f : Int × Int) (v : Int) (h1 : 1 ≤ f.1) (h2 : f.1 ≤ f.2) (h3 : f.2 ≤ z.length) : m_punch_in z f v = m_law_due z f v := codes_inj (by rw [punch_codes z f v h1 h2, due_codes z f v h1 h2 h3])
theorem due_len (z : Str) (f : Int × Int) (v : Int) : 1 ≤ f.1 ∧ f.1 ≤ f.2 ∧ f.2 ≤ z.length → (m_law_due z f v).length = z.length := fun h => by
  rw [← due_eq z f v h.1 h.2.1 h.2.2]
  exact punch_len z f v h
/-! the number of the part -/
theorem num_digL : ∀ (w : Nat) (v t : Int), loopS m_number_of_b0 t ((digL w v).map sg) = t * 10 ^ w + v % 10 ^ w
  | 0, v, t => by
    show t = t * 10 ^ 0 + v % 10 ^ 0
    rw [Int.pow_zero, Int.emod_one]
    omega
  | w + 1, v, t => by
    show loopS m_number_of_b0 t ((digL w (v / 10) ++ [48 + (v % 10).toNat]).map sg) = _
    rw [List.map_append, loopS_app, num_digL w]
    have b0 : 0 ≤ v % 10 := Int.emod_nonneg _ (by decide)
    have b1 : v % 10 < 10 := Int.emod_lt_of_pos _ (by decide)
    obtain ⟨h1, h2⟩ := mod_shift v (pow_pos10 w)
    have h3 : v % (10 * 10 ^ w) = 10 * ((v / 10) % 10 ^ w) + v % 10 := by omega
    rw [pow_succ10, h3]
    show m_number_of_b0 (t * 10 ^ w + v / 10 % 10 ^ w) (sg (48 + (v % 10).toNat)) = _
    unfold m_number_of_b0
    dsimp only
    rw [inS_sg, show codes "0123456789" = [48, 49, 50, 51, 52, 53, 54, 55, 56, 57] by decide +kernel, if_pos (decide_eq_true (fig_mem.mpr (by omega))), intS_fig (by omega)]
    rw [show t * (10 * 10 ^ w) = 10 * (t * 10 ^ w) by rw [← Int.mul_assoc, Int.mul_comm t 10, Int.mul_assoc]]
    generalize t * 10 ^ w = A
    generalize v / 10 % 10 ^ w = B
    omega
theorem mid_part {α : Type} {a b c : List α} : ((a ++ b ++ c).take (a.length + b.length)).drop a.length = b := by
  rw [List.take_append_of_le_length (by rw [List.length_append]; omega), List.take_of_length_le (by rw [List.length_append]; omega), List.drop_left]
theorem turn_ok (z : Str) (q : Int × Int) (hz : z.length = 40) : ∃ z', m_law_b0 z q = .nxt z' ∧ z'.length = 40 := by
  unfold m_law_b0
  dsimp only
  have hf := field_rng q.2 q.1
  generalize m_law_field q.2 q.1 = f at hf
  generalize m_law_value q.2 (m_law_mixed q.2 (140 + 2 * q.1)) (f.2 - f.1 + 1) = v
  have hd := due_eq z f v hf.1 hf.2.1 (by omega)
  have hl := due_len z f v ⟨hf.1, hf.2.1, by omega⟩
  have hc := punch_codes z f v hf.1 hf.2.1
  have hn : m_number_of (m_punch_in z f v) f = v % m_law_power (f.2 - f.1 + 1) := by
    unfold m_number_of
    dsimp only
    rw [chars_codes]
    have e1 : codes (m_part_of (m_punch_in z f v) f) = digL (f.2 + 1 - f.1).toNat v := by
      unfold m_part_of
      rw [codes_cut, cutL_some (by omega) (by omega), hc]
      have l1 : ((codes z).take (f.1 - 1).toNat).length = (f.1 - 1).toNat := by
        rw [List.length_take]
        rw [len_codes] at hz
        omega
      have l2 := digL_len (f.2 + 1 - f.1).toNat v
      have m := mid_part (a := (codes z).take (f.1 - 1).toNat) (b := digL (f.2 + 1 - f.1).toNat v) (c := (codes z).drop f.2.toNat)
      rw [l1, l2, show (f.1 - 1).toNat + (f.2 + 1 - f.1).toNat = f.2.toNat by omega] at m
      exact m
    rw [e1, num_digL, power_eq, show (f.2 - f.1 + 1).toNat = (f.2 + 1 - f.1).toNat by omega, Int.zero_mul, Int.zero_add]
  have ha : m_punch_in (m_punch_in z f v) f v = m_punch_in z f v := by
    apply codes_inj
    rw [punch_codes _ f v hf.1 hf.2.1, hc]
    have l1 : ((codes z).take (f.1 - 1).toNat).length = (f.1 - 1).toNat := by
      rw [List.length_take]
      rw [len_codes] at hz
      omega
    have l2 := digL_len (f.2 + 1 - f.1).toNat v
    congr 1
    · congr 1
      rw [List.append_assoc, List.take_append_of_le_length (by omega), List.take_of_length_le (by omega)]
    · have e3 : f.2.toNat = ((codes z).take (f.1 - 1).toNat ++ digL (f.2 + 1 - f.1).toNat v).length := by
        rw [List.length_append, l1, l2]
        omega
      rw [e3, List.drop_left, ← e3]
  rw [if_neg (by rw [hd]; simp), if_neg]
  · exact ⟨_, rfl, by rw [hl, hz]⟩
  · rw [hn, ha, hd]
    simp [m_law_whole]
theorem law_true (s : Scr) (h : s.ns.length ≤ 63) : m_law s = true := by
  unfold m_law
  dsimp only
  obtain ⟨z, e, _⟩ := loopR_go (f := m_law_b0) (fun z => z.length = 40) (fun z q _ hz => turn_ok z q hz) (card_len s)
  exact bind_nxt e

/-! ### promises -/
def sp_part_of (K : Fr) : Sp := fun vs H Q _ => ∃ (Z : Hp) (a_card : Str) (a_field : (Int × Int)) (v_field : V), vs = [(.str a_card), v_field] ∧ Same Z H ∧ Py.R K Z v_field a_field ∧ a_card.length ≤ 1000 ∧ Q (.str (m_part_of a_card a_field)) H
def sp_number_of (K : Fr) : Sp := fun vs H Q _ => ∃ (Z : Hp) (a_card : Str) (a_field : (Int × Int)) (v_field : V), vs = [(.str a_card), v_field] ∧ Same Z H ∧ Py.R K Z v_field a_field ∧ a_card.length ≤ 1000 ∧ Q (.int (m_number_of a_card a_field)) H
def sp_punch_in (K : Fr) : Sp := fun vs H Q _ => ∃ (Z : Hp) (a_card : Str) (a_field : (Int × Int)) (v_field : V) (a_value : Int), vs = [(.str a_card), v_field, (.int a_value)] ∧ Same Z H ∧ Py.R K Z v_field a_field ∧ a_card.length ≤ 1000 ∧ 1 ≤ a_field.1 ∧ a_field.1 ≤ a_field.2 ∧ a_field.2 ≤ 36 ∧ Tel K Z H Q (m_punch_in a_card a_field a_value)
def sp_law_whole (K : Fr) : Sp := fun vs H Q _ => ∃ (Z : Hp) (a_law_found : Int), vs = [(.int a_law_found)] ∧ Same Z H ∧ Q (.bl (m_law_whole a_law_found)) H
def sp_law_mixed (K : Fr) : Sp := fun vs H Q _ => ∃ (Z : Hp) (a_law_cell : Int) (a_law_k : Int), vs = [(.int a_law_cell), (.int a_law_k)] ∧ Same Z H ∧ 0 ≤ a_law_k ∧ a_law_k ≤ 1000 ∧ Q (.int (m_law_mixed a_law_cell a_law_k)) H
def sp_law_card (K : Fr) : Sp := fun vs H Q _ => ∃ (Z : Hp) (a_law_script : Scr) (v_law_script : V), vs = [v_law_script] ∧ Same Z H ∧ Py.R K Z v_law_script a_law_script ∧ Q (.str (m_law_card a_law_script)) H
def sp_law_field (K : Fr) : Sp := fun vs H Q _ => ∃ (Z : Hp) (a_law_cell : Int) (a_law_k : Int), vs = [(.int a_law_cell), (.int a_law_k)] ∧ Same Z H ∧ 0 ≤ a_law_k ∧ a_law_k ≤ 100 ∧ Tel K Z H Q (m_law_field a_law_cell a_law_k)
def sp_law_power (K : Fr) : Sp := fun vs H Q _ => ∃ (Z : Hp) (a_law_many : Int), vs = [(.int a_law_many)] ∧ Same Z H ∧ 0 ≤ a_law_many ∧ a_law_many ≤ 100 ∧ Q (.int (m_law_power a_law_many)) H
def sp_law_value (K : Fr) : Sp := fun vs H Q _ => ∃ (Z : Hp) (a_law_cell : Int) (a_law_number : Int) (a_law_width : Int), vs = [(.int a_law_cell), (.int a_law_number), (.int a_law_width)] ∧ Same Z H ∧ 1 ≤ a_law_width ∧ a_law_width ≤ 36 ∧ Q (.int (m_law_value a_law_cell a_law_number a_law_width)) H
def sp_law_due (K : Fr) : Sp := fun vs H Q _ => ∃ (Z : Hp) (a_law_card_here : Str) (a_law_field_here : (Int × Int)) (v_law_field_here : V) (a_law_value_here : Int), vs = [(.str a_law_card_here), v_law_field_here, (.int a_law_value_here)] ∧ Same Z H ∧ Py.R K Z v_law_field_here a_law_field_here ∧ a_law_card_here.length = 40 ∧ 1 ≤ a_law_field_here.1 ∧ a_law_field_here.1 ≤ a_law_field_here.2 ∧ a_law_field_here.2 ≤ 36 ∧ Tel K Z H Q (m_law_due a_law_card_here a_law_field_here a_law_value_here)
def sp_law (K : Fr) : Sp := fun vs H Q _ => ∃ (Z : Hp) (a_law_script : Scr) (v_law_script : V), vs = [v_law_script] ∧ Same Z H ∧ Py.R K Z v_law_script a_law_script ∧ Tel K Z H Q (m_law a_law_script)
structure Txt (K : Fr) (mg : Str → Option Value) : Prop where
  b_bool : mg "bool" = none
  b_divmod : mg "divmod" = none
  b_enumerate : mg "enumerate" = none
  b_int : mg "int" = none
  b_isinstance : mg "isinstance" = none
  b_len : mg "len" = none
  b_min : mg "min" = none
  b_range : mg "range" = none
  b_str : mg "str" = none
  g_FIGURES : ∃ t, mg "FIGURES" = some (.str ("0123456789" : Str) t)
section
variable {P : Program} {w : World} {K : Fr} {mg : Str → Option Value} {base : Heap}

local macro_rules | `(tactic| walk_at "vcx") => `(tactic| first  | (exact all_chars (by assumption)) | (exact all_setI (by assumption) (by assumption) (by simp only [len_chS]; omega)) | (exact join_ok (n := 1) (by assumption) (by simp only [len_lit0]; omega)) | fail "vcx")
local macro_rules | `(tactic| walk_at "vc") => `(tactic| first | omega | (unfold inR; (try simp only [setI_len, len_app, len_chS, len_chars, cutL_len_all, List.length_map, List.length_reverse, List.length_replicate, len_sg, sizeLine_eq, List.length_append, List.length_cons, List.length_nil, len_lit0, len_lit1, len_lit2]); omega) | ((try simp only [setI_len, len_app, len_chS, len_chars, cutL_len_all, List.length_map, List.length_reverse, List.length_replicate, len_sg, sizeLine_eq, List.length_append, List.length_cons, List.length_nil, len_lit0, len_lit1, len_lit2]); omega) | (simp only [decide_eq_true_eq, Bool.and_eq_true, Bool.not_eq_true', decide_eq_false_iff_not, inR, setI_len, len_app, len_chS, len_chars, cutL_len_all, List.length_map, List.length_reverse, List.length_replicate, len_sg, sizeLine_eq, List.length_append, List.length_cons, List.length_nil, len_lit0, len_lit1, len_lit2] at *; omega) | assumption | decide | exact inR_mod (by omega) | walk_at "vcx")
local macro_rules | `(tactic| walk_at "vcm") => `(tactic| first | exact .inr ⟨by decide, by decide⟩ | exact .inl ⟨by decide, by decide⟩ | exact .inr ⟨by omega, by omega⟩ | exact .inl ⟨by omega, by omega⟩ | walk_at "vcx")
local macro_rules | `(tactic| walk_at "vcint") => `(tactic| first | exact fig_some (by assumption) (by assumption) | walk_at "vcx")
local macro_rules | `(tactic| walk_at "never") => `(tactic| first | omega | walk_at "vcx")
local macro_rules | `(tactic| walk_at "vcstr") => `(tactic| first | exact log_small (by omega) (by omega) | walk_at "vcx")
local macro_rules | `(tactic| walk_at "vcok") => `(tactic| first | rfl | walk_at "vcx")
local macro_rules | `(tactic| walk_at "inv") => `(tactic| first | omega | (simp only [rangeL_len, enumL_len, chars_len, setI_len, len_app, len_chS, len_chars, cutL_len_all, List.length_map, List.length_reverse, List.length_replicate, len_sg, sizeLine_eq, List.length_append, List.length_cons, List.length_nil, len_lit0, len_lit1, len_lit2]; omega) | (simp only [rangeL_len, enumL_len, chars_len, List.length_cons, setI_len, len_app, len_chS, len_chars, cutL_len_all, List.length_map, List.length_reverse, List.length_replicate, len_sg, sizeLine_eq, List.length_append, List.length_cons, List.length_nil, len_lit0, len_lit1, len_lit2] at *; omega) | walk_at "vcx")


theorem sc_part_of : FnScope ["card", "field"] ["card", "field"] (defScope (topS 2)) := ⟨rfl, rfl, rfl, by decide +kernel, rfl, by decide +kernel, by decide +kernel⟩
theorem okf_part_of {f : Addr} {fd : FuncData} (F : Fun K "part_of" "part_of" (topS 2) f fd) (T : Txt K mg) : FnOk P w K mg base CX0 1 f fd ["card", "field"] (sp_part_of K) := by
  refine F.ok sc_part_of (fun vs H0 Q E h => ?_) (fun cdv A outer s H0 vs Q E hr h => ?_)
  · obtain ⟨Z0, a_card, a_field, v_field, rfl, _⟩ := h
    rfl
  · obtain ⟨Z0, a_card, a_field, v_field, rfl, zh, h_field, pre0, k⟩ := h
    have nd := sc_part_of.nd
    have c : Step Z0 H0 Z0 H0 := Step.refl zh
    refine ⟨_, (pss_one (ps_ret (pe_slice sl_str (pv 0) (po_some (pe_op op_sub (pe_ix ix_tup (pv 1) (pcK pe_int) (fun _ _ => rfl)) (pcK pe_int))) (po_some (pe_ix ix_tup (pv 1) (pcK pe_int) (fun _ _ => rfl)))))), ?_⟩
    have fa1 := len_cut_le a_card (some ((a_field).1 - (1 : Int))) (some (a_field).2)
    have e2 : (m_part_of a_card a_field) = (cutS a_card (some ((a_field).1 - (1 : Int))) (some (a_field).2)) := (by exact rfl)
    rw [e2] at k
    refine ⟨_, rfl, ⟨_, rfl, ⟨trivial, (k_fstS c.zh h_field ⟨trivial, ⟨_, _, rfl, rfl, ⟨_, rfl, ⟨_, rfl, ⟨trivial, (k_sndS c.zh h_field ⟨_, rfl, ⟨_, rfl, (by first | walk_at "vc" | decide), k⟩⟩)⟩⟩⟩⟩⟩)⟩⟩⟩
theorem ok_part_of {f : Addr} {fd : FuncData} (F : Fun K "part_of" "part_of" (topS 2) f fd) (gm : mg "part_of" = some (.ref f)) (T : Txt K mg) : Cal P w K mg base CX0 "part_of" 1 ["card", "field"] (sp_part_of K) :=
  ⟨⟨f, fd, okf_part_of F T, gm, F.kp, F.binds (ps := ["card", "field"]) fun _ _ _ _ _ _ us hl => match us, hl with | [_, _], _ => rfl⟩⟩
theorem sc_number_of : FnScope ["card", "field", "total", "sign"] ["card", "field"] (defScope (topS 3)) := ⟨rfl, rfl, rfl, by decide +kernel, rfl, by decide +kernel, by decide +kernel⟩
theorem okf_number_of {f : Addr} {fd : FuncData} (F : Fun K "number_of" "number_of" (topS 3) f fd) (T : Txt K mg) (C_part_of : Cal P w K mg base CX0 "part_of" 1 ["card", "field"] (sp_part_of K)) : FnOk P w K mg base CX0 2 f fd ["card", "field"] (sp_number_of K) := by
  refine F.ok sc_number_of (fun vs H0 Q E h => ?_) (fun cdv A outer s H0 vs Q E hr h => ?_)
  · obtain ⟨Z0, a_card, a_field, v_field, rfl, _⟩ := h
    rfl
  · obtain ⟨Z0, a_card, a_field, v_field, rfl, zh, h_field, pre0, k⟩ := h
    obtain ⟨t_FIGURES, g_FIGURES⟩ := T.g_FIGURES
    have nd := sc_number_of.nd
    have c : Step Z0 H0 Z0 H0 := Step.refl zh
    refine ⟨_, (pss_cons (ps_set (i := 2) nd rfl (Or.inl rfl) (pcK pe_int)) (pss_cons (ps_for PassesOwn.never rfl (pi_str (pe_cal C_part_of (hr.mono (by decide)) pass0 (pa_cons (pv 0) (pa_cons (pv 1) pnK)))) (pg_name (i := 3) nd rfl (Or.inl rfl)) (pss_cons (ps_set (i := 2) nd rfl (Or.inl rfl) (pe_op op_mul (pcK pe_int) (pv 2))) (pss_one (ps_if (pt_cmpR op_in_str (pv 3) (pcK (pe_glob (v := .str ("0123456789" : Str)) rfl g_FIGURES ⟨_, rfl⟩)) (by rfl)) (pss_one (ps_set (i := 2) nd rfl (Or.inl rfl) (pe_op op_add (pv 2) (pe_callTy call_intQ (by rfl) T.b_int PyProof.Rows.boot_int (pa_cons (pv 3) pnK))))) pss_nil)))) (pss_one (ps_ret (pv 2))))), ?_⟩
    refine ⟨trivial, (storeI fun total_1 en2 => ?_)⟩
    refine ⟨_, rfl, ⟨_, rfl, ⟨trivial, ⟨_, _, _, _, rfl, c.zh, h_field, (by first | walk_at "vc" | decide), ⟨_, rfl, (loop1S (Z := Z0) (src_str _) (fun rr σr Hr Zr => ∃ (total_3 : Int) (w_sign : Option V), σr = [some (.str a_card), some v_field, some (.int total_3), w_sign] ∧ H0 = Hr ∧ Step Z0 H0 Zr Hr ∧ Same Z0 Zr ∧ (loopS m_number_of_b0 total_3 rr = loopS m_number_of_b0 total_1 (chars (m_part_of a_card a_field)))) ?_ ?_ ?_ ?_)⟩⟩⟩⟩⟩
    · rintro rr σr Hr Zr hk
      obtain ⟨total_3, w_sign, rfl, eH34, c, sm4, hl32⟩ := hk
      subst eH34
      have h_field := Py.mono sm4 h_field
      exact ⟨sm4, c.zh⟩
    · have sm4 := Same.refl Z0
      exact ⟨Z0, total_1, (none), rfl, rfl, c, sm4, rfl⟩
    · skip
      intro sign_10 r11 sg13 H14 Z16 mem17 dec18 hp19
      obtain ⟨total_3, w_sign, rfl, eH21, c, sm4, hl9⟩ := hp19
      subst eH21
      have h_field := Py.mono sm4 h_field
      have ls_sign_10 := chars_len1 mem17
      refine ⟨trivial, ⟨_, rfl, ⟨_, _, rfl, rfl, (by first | walk_at "vcm" | decide), (storeI fun total_22 en23 => ?_)⟩⟩⟩
      refine ⟨_, rfl, ⟨trivial, ⟨_, _, rfl, rfl, ⟨_, rfl, (ite2 (fun e24 => ?_) (fun e25 => ?_))⟩⟩⟩⟩
      · skip
        have de24 := e24; (try simp only [decide_eq_true_eq, Bool.and_eq_true, Bool.or_eq_true, Bool.not_eq_true', decide_eq_false_iff_not, Bool.not_eq_true, Bool.true_and, Bool.and_true, Bool.not_true, Bool.not_false, Bool.false_or, Bool.or_false, Bool.not_or, Bool.and_eq_false_iff, Bool.or_eq_false_iff, decide_not] at de24)
        refine ⟨_, rfl, ⟨_, rfl, ⟨trivial, (k_intS (by first | walk_at "vcint" | decide) (by first | walk_at "vc" | decide) ⟨_, _, rfl, rfl, (storeI fun total_26 en27 => ?_)⟩)⟩⟩⟩
        have es28 : m_number_of_b0 total_3 sign_10 = total_26 := (by subst en27 en23; exact (if_pos e24).trans (rfl))
        have hn29 := loopS_nxt hl9 es28
        exact ⟨Z16, total_26, (some (.str sign_10)), rfl, rfl, c, sm4, hn29⟩
      · skip
        have de25 := e25; (try simp only [decide_eq_true_eq, Bool.and_eq_true, Bool.or_eq_true, Bool.not_eq_true', decide_eq_false_iff_not, Bool.not_eq_true, Bool.true_and, Bool.and_true, Bool.not_true, Bool.not_false, Bool.false_or, Bool.or_false, Bool.not_or, Bool.and_eq_false_iff, Bool.or_eq_false_iff, decide_not] at de25)
        have es30 : m_number_of_b0 total_3 sign_10 = total_22 := (by subst en23; exact (if_neg e25).trans (rfl))
        have hn31 := loopS_nxt hl9 es30
        exact ⟨Z16, total_22, (some (.str sign_10)), rfl, rfl, c, sm4, hn31⟩
    · intro sg35 H36 Z37 hp38
      obtain ⟨total_3, w_sign, rfl, eH41, c, sm4, hl39⟩ := hp38
      subst eH41
      have h_field := Py.mono sm4 h_field
      have hl42 : total_3 = loopS m_number_of_b0 total_1 (chars (m_part_of a_card a_field)) := hl39
      have e43 : (m_number_of a_card a_field) = total_3 := (by subst hl42 en2; exact rfl)
      rw [e43] at k
      refine ⟨_, rfl, k⟩
theorem ok_number_of {f : Addr} {fd : FuncData} (F : Fun K "number_of" "number_of" (topS 3) f fd) (gm : mg "number_of" = some (.ref f)) (T : Txt K mg) (C_part_of : Cal P w K mg base CX0 "part_of" 1 ["card", "field"] (sp_part_of K)) : Cal P w K mg base CX0 "number_of" 2 ["card", "field"] (sp_number_of K) :=
  ⟨⟨f, fd, okf_number_of F T C_part_of, gm, F.kp, F.binds (ps := ["card", "field"]) fun _ _ _ _ _ _ us hl => match us, hl with | [_, _], _ => rfl⟩⟩
theorem sc_punch_in : FnScope ["card", "field", "value", "first", "last", "signs", "k", "figure"] ["card", "field", "value"] (defScope (topS 4)) := ⟨rfl, rfl, rfl, by decide +kernel, rfl, by decide +kernel, by decide +kernel⟩
theorem okf_punch_in {f : Addr} {fd : FuncData} (F : Fun K "punch_in" "punch_in" (topS 4) f fd) (T : Txt K mg) : FnOk P w K mg base CX0 1 f fd ["card", "field", "value"] (sp_punch_in K) := by
  refine F.ok sc_punch_in (fun vs H0 Q E h => ?_) (fun cdv A outer s H0 vs Q E hr h => ?_)
  · obtain ⟨Z0, a_card, a_field, v_field, a_value, rfl, _⟩ := h
    rfl
  · obtain ⟨Z0, a_card, a_field, v_field, a_value, rfl, zh, h_field, pre0, pre1, pre2, pre3, k⟩ := h
    have nd := sc_punch_in.nd
    have c : Step Z0 H0 Z0 H0 := Step.refl zh
    refine ⟨_, (pss_cons (ps_asg (pv 1) (pg_tup rfl (pgs_cons (pg_name (i := 3) nd rfl (Or.inl rfl)) (pgs_cons (pg_name (i := 4) nd rfl (Or.inl rfl)) pgs_nil)))) (pss_cons (ps_set (i := 5) nd rfl (Or.inl rfl) (pcK pe_str)) (pss_cons (ps_for PassesOwn.never rfl (pi_range1 rfl T.b_range (pa_cons (pe_op op_add (pe_op op_sub (pv 4) (pv 3)) (pcK pe_int)) pnK)) (pg_name (i := 6) nd rfl (Or.inl rfl)) (pss_cons (ps_asg (pe_callB call_dmQ (by rfl) T.b_divmod (by decide +kernel) (pa_cons (pv 2) (pa_cons (pcK pe_int) pnK))) (pg_tup rfl (pgs_cons (pg_name (i := 2) nd rfl (Or.inl rfl)) (pgs_cons (pg_name (i := 7) nd rfl (Or.inl rfl)) pgs_nil)))) (pss_one (ps_set (i := 5) nd rfl (Or.inl rfl) (pe_op op_add_str (pe_callTy call_strQ (by rfl) T.b_str (by decide +kernel) (pa_cons (pv 7) pnK)) (pv 5)))))) (pss_one (ps_ret (pe_op op_add_str (pe_op op_add_str (pe_slice sl_str (pv 0) po_none (po_some (pe_op op_sub (pv 3) (pcK pe_int)))) (pv 5)) (pe_slice sl_str (pv 0) (po_some (pv 4)) po_none))))))), ?_⟩
    refine ⟨_, rfl, (tgtP c.zh h_field fun first_5 en7 last_6 en8 v1 v2 h3 h4 => ?_)⟩
    cases h3; (try dsimp only at en7)
    cases h4; (try dsimp only at en8)
    refine ⟨trivial, (storeS fun signs_9 en10 => ?_)⟩
    have ln_signs_9 := congrArg Str.length en10; (try simp only [setI_len, len_app, len_chS, len_chars, cutL_len_all, List.length_map, List.length_reverse, List.length_replicate, len_sg, sizeLine_eq, List.length_append, List.length_cons, List.length_nil, len_lit0, len_lit1, len_lit2] at ln_signs_9)
    refine ⟨_, rfl, ⟨_, rfl, ⟨_, _, rfl, rfl, ⟨trivial, ⟨_, _, rfl, rfl, ⟨trivial, ⟨_, rfl, (by first | walk_at "vc" | decide), (by first | walk_at "vc" | decide), (loop1S (Z := Z0) (src_range _ _) (fun rr σr Hr Zr => ∃ (value_11 : Int) (signs_12 : Str) (w_k : Option V) (w_figure : Option V), σr = [some (.str a_card), some v_field, some (.int value_11), some (.int first_5), some (.int last_6), some (.str signs_12), w_k, w_figure] ∧ Step Z0 H0 Zr Hr ∧ Same Z0 Zr ∧ (signs_12.length + rr.length ≤ 36) ∧ (loopS m_punch_in_b0 (value_11, signs_12) rr = loopS m_punch_in_b0 (a_value, signs_9) (rangeL 0 (((last_6 - first_5) + (1 : Int))).toNat))) ?_ ?_ ?_ ?_)⟩⟩⟩⟩⟩⟩⟩
    · rintro rr σr Hr Zr hk
      obtain ⟨value_11, signs_12, w_k, w_figure, rfl, c, sm13, iv0, hl50⟩ := hk
      have h_field := Py.mono sm13 h_field
      exact ⟨sm13, c.zh⟩
    · have sm13 := Same.refl Z0
      exact ⟨Z0, a_value, signs_9, (none), (none), rfl, c, sm13, (by first | walk_at "inv" | decide), rfl⟩
    · skip
      intro k_20 r21 sg23 H24 Z26 mem27 dec28 hp29
      obtain ⟨value_11, signs_12, w_k, w_figure, rfl, c, sm13, iv0, hl19⟩ := hp29
      have h_field := Py.mono sm13 h_field
      have lr_k_20 := mem_rangeL.mp mem27
      refine ⟨_, rfl, ⟨trivial, ⟨trivial, (k_dm (K := K) c.zh (by first | walk_at "vc" | decide) (by first | walk_at "vc" | decide) (fun v36 Z33 H34 st35 hv36 => ?_))⟩⟩⟩
      have c := c.trans st35
      have sm13 := sm13.trans st35.zz
      have h_field := Py.mono st35.zz h_field
      refine (tgtP c.zh hv36 fun value_41 en43 figure_42 en44 v37 v38 h39 h40 => ?_)
      cases h39; (try dsimp only at en43)
      cases h40; (try dsimp only at en44)
      have fa45 := toStr_lenp figure_42
      refine ⟨_, rfl, ⟨trivial, ⟨_, rfl, (by first | walk_at "vcstr" | decide), ⟨_, rfl, ⟨_, _, rfl, rfl, (by first | walk_at "vc" | decide), (storeS fun signs_46 en47 => ?_)⟩⟩⟩⟩⟩
      have ln_signs_46 := congrArg Str.length en47; (try simp only [setI_len, len_app, len_chS, len_chars, cutL_len_all, List.length_map, List.length_reverse, List.length_replicate, len_sg, sizeLine_eq, List.length_append, List.length_cons, List.length_nil, len_lit0, len_lit1, len_lit2] at ln_signs_46)
      have es48 : m_punch_in_b0 (value_11, signs_12) k_20 = (value_41, signs_46) := (by subst en47 en44 en43; exact rfl)
      have hn49 := loopS_nxt hl19 es48
      exact ⟨Z33, value_41, signs_46, (some (.int k_20)), (some (.int figure_42)), rfl, c, sm13, (by first | walk_at "inv" | decide), hn49⟩
    · intro sg54 H55 Z56 hp57
      obtain ⟨value_11, signs_12, w_k, w_figure, rfl, c, sm13, iv0, hl58⟩ := hp57
      have h_field := Py.mono sm13 h_field
      have hl62 : (value_11, signs_12) = loopS m_punch_in_b0 (a_value, signs_9) (rangeL 0 (((last_6 - first_5) + (1 : Int))).toNat) := hl58
      have en64 : value_11 = (loopS m_punch_in_b0 (a_value, signs_9) (rangeL 0 (((last_6 - first_5) + (1 : Int))).toNat)).1 := congrArg (fun z => z.1) hl62
      have en65 : signs_12 = (loopS m_punch_in_b0 (a_value, signs_9) (rangeL 0 (((last_6 - first_5) + (1 : Int))).toNat)).2 := congrArg (fun z => z.2) hl62
      have fa66 := len_cut_le a_card none (some (first_5 - (1 : Int)))
      have fa67 := len_cut_le a_card (some last_6) none
      have e68 : (m_punch_in a_card a_field a_value) = (((cutS a_card none (some (first_5 - (1 : Int)))) ++ signs_12) ++ (cutS a_card (some last_6) none)) := (by subst en65 en64 en10 en8 en7; exact rfl)
      rw [e68] at k
      refine ⟨_, rfl, ⟨_, rfl, ⟨trivial, ⟨_, _, rfl, rfl, ⟨_, rfl, ⟨_, rfl, (by first | walk_at "vc" | decide), ⟨_, rfl, ⟨_, _, rfl, rfl, (by first | walk_at "vc" | decide), ⟨_, rfl, ⟨_, rfl, ⟨_, rfl, ⟨_, rfl, (by first | walk_at "vc" | decide), ⟨_, _, rfl, rfl, (by first | walk_at "vc" | decide), (k _ _ _ c rfl)⟩⟩⟩⟩⟩⟩⟩⟩⟩⟩⟩⟩⟩
theorem ok_punch_in {f : Addr} {fd : FuncData} (F : Fun K "punch_in" "punch_in" (topS 4) f fd) (gm : mg "punch_in" = some (.ref f)) (T : Txt K mg) : Cal P w K mg base CX0 "punch_in" 1 ["card", "field", "value"] (sp_punch_in K) :=
  ⟨⟨f, fd, okf_punch_in F T, gm, F.kp, F.binds (ps := ["card", "field", "value"]) fun _ _ _ _ _ _ us hl => match us, hl with | [_, _, _], _ => rfl⟩⟩
theorem sc_law_whole : FnScope ["_law_found"] ["_law_found"] (defScope (topS 6)) := ⟨rfl, rfl, rfl, by decide +kernel, rfl, by decide +kernel, by decide +kernel⟩
theorem okf_law_whole {f : Addr} {fd : FuncData} (F : Fun K "_law_whole" "_law_whole" (topS 6) f fd) (T : Txt K mg) : FnOk P w K mg base CX0 1 f fd ["_law_found"] (sp_law_whole K) := by
  refine F.ok sc_law_whole (fun vs H0 Q E h => ?_) (fun cdv A outer s H0 vs Q E hr h => ?_)
  · obtain ⟨Z0, a_law_found, rfl, _⟩ := h
    rfl
  · obtain ⟨Z0, a_law_found, rfl, zh, k⟩ := h
    have nd := sc_law_whole.nd
    have c : Step Z0 H0 Z0 H0 := Step.refl zh
    refine ⟨_, (pss_one (ps_ret (puK (pe_and (pe_callB call_isi (by rfl) T.b_isinstance (by decide +kernel) (pa_cons (pv 0) (pa_cons (pcK (pe_bltn (v := .ty "int") (by rfl) T.b_int (by decide +kernel) rfl)) pnK))) (pe_one (pe_not (pe_callB call_isi (by rfl) T.b_isinstance (by decide +kernel) (pa_cons (pv 0) (pa_cons (pcK (pe_bltn (v := .ty "bool") (by rfl) T.b_bool (by decide +kernel) rfl)) pnK))))))))), ?_⟩
    have e1 : (m_law_whole a_law_found) = (true && (!false)) := (by exact rfl)
    rw [e1] at k
    refine ⟨trivial, (valAnd (fun _ q => ⟨_, rfl, ⟨trivial, ⟨trivial, (k_isi (b := true) (Pt.int _) (by decide +kernel) q)⟩⟩⟩) (fun _ _ q => ⟨_, rfl, ⟨trivial, ⟨trivial, (k_isi (b := false) (Pt.int _) (by decide +kernel) ⟨_, rfl, q⟩)⟩⟩⟩) k)⟩
theorem ok_law_whole {f : Addr} {fd : FuncData} (F : Fun K "_law_whole" "_law_whole" (topS 6) f fd) (gm : mg "_law_whole" = some (.ref f)) (T : Txt K mg) : Cal P w K mg base CX0 "_law_whole" 1 ["_law_found"] (sp_law_whole K) :=
  ⟨⟨f, fd, okf_law_whole F T, gm, F.kp, F.binds (ps := ["_law_found"]) fun _ _ _ _ _ _ us hl => match us, hl with | [_], _ => rfl⟩⟩
theorem sc_law_mixed : FnScope ["_law_cell", "_law_k"] ["_law_cell", "_law_k"] (defScope (topS 7)) := ⟨rfl, rfl, rfl, by decide +kernel, rfl, by decide +kernel, by decide +kernel⟩
theorem okf_law_mixed {f : Addr} {fd : FuncData} (F : Fun K "_law_mixed" "_law_mixed" (topS 7) f fd) (T : Txt K mg) : FnOk P w K mg base CX0 1 f fd ["_law_cell", "_law_k"] (sp_law_mixed K) := by
  refine F.ok sc_law_mixed (fun vs H0 Q E h => ?_) (fun cdv A outer s H0 vs Q E hr h => ?_)
  · obtain ⟨Z0, a_law_cell, a_law_k, rfl, _⟩ := h
    rfl
  · obtain ⟨Z0, a_law_cell, a_law_k, rfl, zh, pre0, pre1, k⟩ := h
    have nd := sc_law_mixed.nd
    have c : Step Z0 H0 Z0 H0 := Step.refl zh
    refine ⟨_, (pss_one (ps_ret (pe_op op_mod (pe_op op_mul (pe_op op_add (pe_op op_add (pe_op op_add (pe_op op_mod (pv 0) (pcK pe_int)) (pe_op op_mul (pe_op op_mul (pcK pe_int) (pv 1)) (pv 1))) (pe_op op_mul (pcK pe_int) (pv 1))) (pcK pe_int)) (pcK pe_int)) (pcK pe_int)))), ?_⟩
    have e1 : (m_law_mixed a_law_cell a_law_k) = ((((((a_law_cell % (2147483647 : Int)) + (((7 : Int) * a_law_k) * a_law_k)) + ((11 : Int) * a_law_k)) + (1 : Int)) * (48271 : Int)) % (2147483647 : Int)) := (by exact rfl)
    rw [e1] at k
    refine ⟨_, rfl, ⟨trivial, ⟨_, _, rfl, rfl, (show (0 : Int) < (2147483647 : Int) from (by first | walk_at "vc" | decide)), ⟨trivial, ⟨_, rfl, ⟨_, _, rfl, rfl, (by first | walk_at "vcm" | decide), ⟨_, rfl, ⟨_, _, rfl, rfl, (by first | walk_at "vcm" | decide), ⟨_, _, rfl, rfl, ⟨trivial, ⟨_, rfl, ⟨_, _, rfl, rfl, (by first | walk_at "vcm" | decide), ⟨_, _, rfl, rfl, ⟨trivial, ⟨_, _, rfl, rfl, ⟨trivial, ⟨_, _, rfl, rfl, (by first | walk_at "vcm" | decide), ⟨trivial, ⟨_, _, rfl, rfl, (show (0 : Int) < (2147483647 : Int) from (by first | walk_at "vc" | decide)), k⟩⟩⟩⟩⟩⟩⟩⟩⟩⟩⟩⟩⟩⟩⟩⟩⟩⟩⟩
theorem ok_law_mixed {f : Addr} {fd : FuncData} (F : Fun K "_law_mixed" "_law_mixed" (topS 7) f fd) (gm : mg "_law_mixed" = some (.ref f)) (T : Txt K mg) : Cal P w K mg base CX0 "_law_mixed" 1 ["_law_cell", "_law_k"] (sp_law_mixed K) :=
  ⟨⟨f, fd, okf_law_mixed F T, gm, F.kp, F.binds (ps := ["_law_cell", "_law_k"]) fun _ _ _ _ _ _ us hl => match us, hl with | [_, _], _ => rfl⟩⟩
theorem sc_law_card : FnScope ["_law_script", "_law_card_here", "_law_k", "_law_cell"] ["_law_script"] (defScope (topS 8)) := ⟨rfl, rfl, rfl, by decide +kernel, rfl, by decide +kernel, by decide +kernel⟩
theorem okf_law_card {f : Addr} {fd : FuncData} (F : Fun K "_law_card" "_law_card" (topS 8) f fd) (T : Txt K mg) (C_law_mixed : Cal P w K mg base CX0 "_law_mixed" 1 ["_law_cell", "_law_k"] (sp_law_mixed K)) : FnOk P w K mg base CX0 2 f fd ["_law_script"] (sp_law_card K) := by
  refine F.ok sc_law_card (fun vs H0 Q E h => ?_) (fun cdv A outer s H0 vs Q E hr h => ?_)
  · obtain ⟨Z0, a_law_script, v_law_script, rfl, _⟩ := h
    rfl
  · obtain ⟨Z0, a_law_script, v_law_script, rfl, zh, h_law_script, k⟩ := h
    have nd := sc_law_card.nd
    have c : Step Z0 H0 Z0 H0 := Step.refl zh
    refine ⟨_, (pss_cons (ps_set (i := 1) nd rfl (Or.inl rfl) (pcK pe_str)) (pss_cons (ps_for PassesOwn.never rfl (pi_range1 rfl T.b_range (pa_cons (pcK pe_int) pnK)) (pg_name (i := 2) nd rfl (Or.inl rfl)) (pss_cons (ps_set (i := 3) nd rfl (Or.inl rfl) (pcK pe_int)) (Evl.pss_cut (ps_if (pt_cmpR op_gt (pe_callB call_lenQ (by rfl) T.b_len PySem.boot_len (pa_cons (pv 0) pnK)) (pcK pe_int) (nomark _)) (pss_one (ps_set (i := 3) nd rfl (Or.inl rfl) (pe_ix ix_list (pv 0) (pe_op op_mod (pv 2) (pe_callB call_lenQ (by rfl) T.b_len PySem.boot_len (pa_cons (pv 0) pnK))) (fun _ _ => rfl)))) pss_nil) (pss_one (ps_set (i := 1) nd rfl (Or.inl rfl) (pe_op op_add_str (pv 1) (pe_ix ix_str (pcK pe_str) (pe_op op_mod (pe_op op_fdiv (pe_cal C_law_mixed (hr.mono (by decide)) pass0 (pa_cons (pv 3) (pa_cons (pv 2) pnK))) (pcK pe_int)) (pcK pe_int)) (fun _ _ => rfl)))))))) (pss_one (ps_ret (pv 1))))), ?_⟩
    refine ⟨trivial, (storeS fun card_here_1 en2 => ?_)⟩
    have ln_card_here_1 := congrArg Str.length en2; (try simp only [setI_len, len_app, len_chS, len_chars, cutL_len_all, List.length_map, List.length_reverse, List.length_replicate, len_sg, sizeLine_eq, List.length_append, List.length_cons, List.length_nil, len_lit0, len_lit1, len_lit2] at ln_card_here_1)
    refine ⟨trivial, ⟨trivial, ⟨_, rfl, (by first | walk_at "vc" | decide), (by first | walk_at "vc" | decide), (loop1S (Z := Z0) (src_range _ _) (fun rr σr Hr Zr => ∃ (card_here_3 : Str) (w_law_k : Option V) (w_law_cell : Option V), σr = [some v_law_script, some (.str card_here_3), w_law_k, w_law_cell] ∧ H0 = Hr ∧ Step Z0 H0 Zr Hr ∧ Same Z0 Zr ∧ (card_here_3.length + rr.length = 40) ∧ (loopS (m_law_card_b0 a_law_script) card_here_3 rr = loopS (m_law_card_b0 a_law_script) card_here_1 (rangeL 0 ((40 : Int)).toNat))) ?_ ?_ ?_ ?_)⟩⟩⟩
    · rintro rr σr Hr Zr hk
      obtain ⟨card_here_3, w_law_k, w_law_cell, rfl, eH42, c, sm4, iv0, hl40⟩ := hk
      subst eH42
      have h_law_script := Py.mono sm4 h_law_script
      exact ⟨sm4, c.zh⟩
    · have sm4 := Same.refl Z0
      exact ⟨Z0, card_here_1, (none), (none), rfl, rfl, c, sm4, (by first | walk_at "inv" | decide), rfl⟩
    · skip
      intro k_10 r11 sg13 H14 Z16 mem17 dec18 hp19
      obtain ⟨card_here_3, w_law_k, w_law_cell, rfl, eH21, c, sm4, iv0, hl9⟩ := hp19
      subst eH21
      have h_law_script := Py.mono sm4 h_law_script
      have lr_k_10 := mem_rangeL.mp mem17
      refine ⟨trivial, (storeI fun cell_22 en23 => ?_)⟩
      refine ⟨fun σj Hj => ∃ Zj26 : Hp, ∃ (cell_24 : Int), σj = [some v_law_script, some (.str card_here_3), some (.int k_10), some (.int cell_24)] ∧ H0 = Hj ∧ Step Z0 H0 Zj26 Hj ∧ Same Z16 Zj26 ∧ (cell_24 = (if (decide ((0 : Int) < ((a_law_script).ns.length : Int))) = true then (
  let cell_30 : Int := (getI a_law_script.ns (k_10 % ((a_law_script).ns.length : Int)))
  cell_30)
  else (
  cell_22) : Int)), ?_, fun σj Hj hj => ?_⟩
      · skip
        have sm25 := Same.refl Z16
        refine ⟨_, rfl, ⟨trivial, (k_lenRQ c.zh h_law_script ⟨trivial, ⟨_, _, rfl, rfl, ⟨_, rfl, (ite2 (fun e28 => ?_) (fun e29 => ?_))⟩⟩⟩)⟩⟩
        · skip
          have de28 := e28; (try simp only [decide_eq_true_eq, Bool.and_eq_true, Bool.or_eq_true, Bool.not_eq_true', decide_eq_false_iff_not, Bool.not_eq_true, Bool.true_and, Bool.and_true, Bool.not_true, Bool.not_false, Bool.false_or, Bool.or_false, Bool.not_or, Bool.and_eq_false_iff, Bool.or_eq_false_iff, decide_not] at de28)
          refine ⟨_, rfl, ⟨_, rfl, ⟨_, rfl, ⟨trivial, (k_lenRQ c.zh h_law_script ⟨_, _, rfl, rfl, (show (0 : Int) < ((a_law_script).ns.length : Int) from (by first | walk_at "vc" | decide)), (k_ixR c.zh h_law_script (by first | walk_at "vc" | decide) (storeI fun cell_30 en31 => ?_))⟩)⟩⟩⟩⟩
          exact ⟨Z16, cell_30, rfl, rfl, c, sm25, (by subst en31; exact ((if_pos e28).trans (rfl)).symm)⟩
        · skip
          have de29 := e29; (try simp only [decide_eq_true_eq, Bool.and_eq_true, Bool.or_eq_true, Bool.not_eq_true', decide_eq_false_iff_not, Bool.not_eq_true, Bool.true_and, Bool.and_true, Bool.not_true, Bool.not_false, Bool.false_or, Bool.or_false, Bool.not_or, Bool.and_eq_false_iff, Bool.or_eq_false_iff, decide_not] at de29)
          exact ⟨Z16, cell_22, rfl, rfl, c, sm25, (by exact ((if_neg e29).trans (rfl)).symm)⟩
      · skip
        obtain ⟨Zj26, cell_24, rfl, eH34, c, sm25, ej32⟩ := hj
        subst eH34
        have h_law_script := Py.mono sm25 h_law_script
        have sm4 := sm4.trans sm25
        have fa35 := mixed_rng cell_24 k_10
        refine ⟨_, rfl, ⟨trivial, ⟨_, rfl, ⟨_, rfl, ⟨trivial, ⟨_, _, _, rfl, c.zh, (by first | walk_at "vc" | decide), (by first | walk_at "vc" | decide), ⟨trivial, ⟨_, _, rfl, rfl, ⟨(by first | walk_at "vc" | decide), (by first | walk_at "vc" | decide)⟩, ⟨trivial, ⟨_, _, rfl, rfl, (show (0 : Int) < (37 : Int) from (by first | walk_at "vc" | decide)), (k_ixS (by first | walk_at "vc" | decide) (by first | walk_at "vc" | decide) ⟨_, _, rfl, rfl, (by first | walk_at "vc" | decide), (storeS fun card_here_36 en37 => ?_)⟩)⟩⟩⟩⟩⟩⟩⟩⟩⟩⟩
        have ln_card_here_36 := congrArg Str.length en37; (try simp only [setI_len, len_app, len_chS, len_chars, cutL_len_all, List.length_map, List.length_reverse, List.length_replicate, len_sg, sizeLine_eq, List.length_append, List.length_cons, List.length_nil, len_lit0, len_lit1, len_lit2] at ln_card_here_36)
        have es38 : (m_law_card_b0 a_law_script) card_here_3 k_10 = card_here_36 := (by subst en37 ej32 en23; exact rfl)
        have hn39 := loopS_nxt hl9 es38
        exact ⟨Zj26, card_here_36, (some (.int k_10)), (some (.int cell_24)), rfl, rfl, c, sm4, (by first | walk_at "inv" | decide), hn39⟩
    · intro sg43 H44 Z45 hp46
      obtain ⟨card_here_3, w_law_k, w_law_cell, rfl, eH49, c, sm4, iv0, hl47⟩ := hp46
      subst eH49
      have h_law_script := Py.mono sm4 h_law_script
      have hl50 : card_here_3 = loopS (m_law_card_b0 a_law_script) card_here_1 (rangeL 0 ((40 : Int)).toNat) := hl47
      have e51 : (m_law_card a_law_script) = card_here_3 := (by subst hl50 en2; exact rfl)
      rw [e51] at k
      refine ⟨_, rfl, k⟩
theorem ok_law_card {f : Addr} {fd : FuncData} (F : Fun K "_law_card" "_law_card" (topS 8) f fd) (gm : mg "_law_card" = some (.ref f)) (T : Txt K mg) (C_law_mixed : Cal P w K mg base CX0 "_law_mixed" 1 ["_law_cell", "_law_k"] (sp_law_mixed K)) : Cal P w K mg base CX0 "_law_card" 2 ["_law_script"] (sp_law_card K) :=
  ⟨⟨f, fd, okf_law_card F T C_law_mixed, gm, F.kp, F.binds (ps := ["_law_script"]) fun _ _ _ _ _ _ us hl => match us, hl with | [_], _ => rfl⟩⟩
theorem sc_law_field : FnScope ["_law_cell", "_law_k", "_law_number", "_law_first", "_law_last"] ["_law_cell", "_law_k"] (defScope (topS 9)) := ⟨rfl, rfl, rfl, by decide +kernel, rfl, by decide +kernel, by decide +kernel⟩
theorem okf_law_field {f : Addr} {fd : FuncData} (F : Fun K "_law_field" "_law_field" (topS 9) f fd) (T : Txt K mg) (C_law_mixed : Cal P w K mg base CX0 "_law_mixed" 1 ["_law_cell", "_law_k"] (sp_law_mixed K)) : FnOk P w K mg base CX0 2 f fd ["_law_cell", "_law_k"] (sp_law_field K) := by
  refine F.ok sc_law_field (fun vs H0 Q E h => ?_) (fun cdv A outer s H0 vs Q E hr h => ?_)
  · obtain ⟨Z0, a_law_cell, a_law_k, rfl, _⟩ := h
    rfl
  · obtain ⟨Z0, a_law_cell, a_law_k, rfl, zh, pre0, pre1, k⟩ := h
    have nd := sc_law_field.nd
    have c : Step Z0 H0 Z0 H0 := Step.refl zh
    refine ⟨_, (pss_cons (ps_set (i := 2) nd rfl (Or.inl rfl) (pe_cal C_law_mixed (hr.mono (by decide)) pass0 (pa_cons (pv 0) (pa_cons (pe_op op_add (pcK pe_int) (pv 1)) pnK)))) (pss_cons (ps_set (i := 3) nd rfl (Or.inl rfl) (pe_op op_add (pcK pe_int) (pe_op op_mod (pe_op op_fdiv (pv 2) (pcK pe_int)) (pcK pe_int)))) (pss_cons (ps_if (pt_cmpR op_eq (pe_op op_mod (pv 2) (pcK pe_int)) (pcK pe_int) (nomark _)) (pss_one (ps_ret (pe_tupQ (pa_cons (pv 3) (pa_cons (pv 3) pnK))))) pss_nil) (pss_cons (ps_set (i := 4) nd rfl (Or.inl rfl) (pe_callB (call_min2 rfl) (by rfl) T.b_min (by decide +kernel) (pa_cons (pcK pe_int) (pa_cons (pe_op op_add (pv 3) (pe_op op_mod (pe_op op_fdiv (pv 2) (pcK pe_int)) (pcK pe_int))) pnK)))) (Evl.pss_cut (ps_if (pt_cmpR op_eq (pe_op op_mod (pv 2) (pcK pe_int)) (pcK pe_int) (nomark _)) (pss_one (ps_set (i := 4) nd rfl (Or.inl rfl) (pcK pe_int))) pss_nil) (pss_one (ps_ret (pe_tupQ (pa_cons (pv 3) (pa_cons (pv 4) pnK)))))))))), ?_⟩
    refine ⟨_, rfl, ⟨trivial, ⟨_, rfl, ⟨_, _, rfl, rfl, ⟨trivial, ⟨_, _, _, rfl, c.zh, (by first | walk_at "vc" | decide), (by first | walk_at "vc" | decide), (storeI fun number_1 en2 => ?_)⟩⟩⟩⟩⟩⟩
    have fa3 := mixed_rng a_law_cell ((40 : Int) + a_law_k); (try rw [← en2] at fa3)
    refine ⟨trivial, ⟨_, rfl, ⟨trivial, ⟨_, _, rfl, rfl, ⟨(by first | walk_at "vc" | decide), (by first | walk_at "vc" | decide)⟩, ⟨trivial, ⟨_, _, rfl, rfl, (show (0 : Int) < (36 : Int) from (by first | walk_at "vc" | decide)), ⟨_, _, rfl, rfl, (storeI fun first_4 en5 => ?_)⟩⟩⟩⟩⟩⟩⟩
    refine ⟨_, rfl, ⟨trivial, ⟨_, _, rfl, rfl, (show (0 : Int) < (8 : Int) from (by first | walk_at "vc" | decide)), ⟨trivial, (k_eqI ⟨_, rfl, (ite2 (fun e6 => ?_) (fun e7 => ?_))⟩)⟩⟩⟩⟩
    · skip
      have de6 := e6; (try simp only [decide_eq_true_eq, Bool.and_eq_true, Bool.or_eq_true, Bool.not_eq_true', decide_eq_false_iff_not, Bool.not_eq_true, Bool.true_and, Bool.and_true, Bool.not_true, Bool.not_false, Bool.false_or, Bool.or_false, Bool.not_or, Bool.and_eq_false_iff, Bool.or_eq_false_iff, decide_not] at de6)
      refine ⟨_, rfl, ⟨_, rfl, ⟨trivial, (k_tup (K := K) (a := first_4) (b := first_4) c.zh rfl rfl (fun v11 Z8 H9 st10 hv11 => ?_))⟩⟩⟩
      have c := c.trans st10
      have e12 : (m_law_field a_law_cell a_law_k) = (first_4, first_4) := (by subst en5 en2; exact (if_pos e6).trans (rfl))
      rw [e12] at k
      refine (k _ _ _ c hv11)
    · skip
      have de7 := e7; (try simp only [decide_eq_true_eq, Bool.and_eq_true, Bool.or_eq_true, Bool.not_eq_true', decide_eq_false_iff_not, Bool.not_eq_true, Bool.true_and, Bool.and_true, Bool.not_true, Bool.not_false, Bool.false_or, Bool.or_false, Bool.not_or, Bool.and_eq_false_iff, Bool.or_eq_false_iff, decide_not] at de7)
      refine ⟨trivial, ⟨_, rfl, ⟨_, rfl, ⟨trivial, ⟨_, _, rfl, rfl, ⟨(by first | walk_at "vc" | decide), (by first | walk_at "vc" | decide)⟩, ⟨trivial, ⟨_, _, rfl, rfl, (show (0 : Int) < (9 : Int) from (by first | walk_at "vc" | decide)), ⟨_, _, rfl, rfl, ⟨trivial, ⟨_, _, rfl, (storeI fun last_13 en14 => ?_)⟩⟩⟩⟩⟩⟩⟩⟩⟩⟩
      refine ⟨fun σj Hj => ∃ Zj17 : Hp, ∃ (last_15 : Int), σj = [some (.int a_law_cell), some (.int a_law_k), some (.int number_1), some (.int first_4), some (.int last_15)] ∧ Step Z0 H0 Zj17 Hj ∧ Same Z0 Zj17 ∧ (last_15 = (if (decide ((number_1 % (8 : Int)) = (1 : Int))) = true then (
  let last_21 : Int := (36 : Int)
  last_21)
  else (
  last_13) : Int)), ?_, fun σj Hj hj => ?_⟩
      · skip
        have sm16 := Same.refl Z0
        refine ⟨_, rfl, ⟨trivial, ⟨_, _, rfl, rfl, (show (0 : Int) < (8 : Int) from (by first | walk_at "vc" | decide)), ⟨trivial, (k_eqI ⟨_, rfl, (ite2 (fun e19 => ?_) (fun e20 => ?_))⟩)⟩⟩⟩⟩
        · skip
          have de19 := e19; (try simp only [decide_eq_true_eq, Bool.and_eq_true, Bool.or_eq_true, Bool.not_eq_true', decide_eq_false_iff_not, Bool.not_eq_true, Bool.true_and, Bool.and_true, Bool.not_true, Bool.not_false, Bool.false_or, Bool.or_false, Bool.not_or, Bool.and_eq_false_iff, Bool.or_eq_false_iff, decide_not] at de19)
          refine ⟨trivial, (storeI fun last_21 en22 => ?_)⟩
          exact ⟨Z0, last_21, rfl, c, sm16, (by subst en22; exact ((if_pos e19).trans (rfl)).symm)⟩
        · skip
          have de20 := e20; (try simp only [decide_eq_true_eq, Bool.and_eq_true, Bool.or_eq_true, Bool.not_eq_true', decide_eq_false_iff_not, Bool.not_eq_true, Bool.true_and, Bool.and_true, Bool.not_true, Bool.not_false, Bool.false_or, Bool.or_false, Bool.not_or, Bool.and_eq_false_iff, Bool.or_eq_false_iff, decide_not] at de20)
          exact ⟨Z0, last_13, rfl, c, sm16, (by exact ((if_neg e20).trans (rfl)).symm)⟩
      · skip
        obtain ⟨Zj17, last_15, rfl, c, sm16, ej23⟩ := hj
        refine ⟨_, rfl, ⟨_, rfl, ⟨trivial, (k_tup (K := K) (a := first_4) (b := last_15) c.zh rfl rfl (fun v29 Z26 H27 st28 hv29 => ?_))⟩⟩⟩
        have c := c.trans st28
        have e30 : (m_law_field a_law_cell a_law_k) = (first_4, last_15) := (by subst ej23 en14 en5 en2; exact (if_neg e7).trans (rfl))
        rw [e30] at k
        refine (k _ _ _ c hv29)
theorem ok_law_field {f : Addr} {fd : FuncData} (F : Fun K "_law_field" "_law_field" (topS 9) f fd) (gm : mg "_law_field" = some (.ref f)) (T : Txt K mg) (C_law_mixed : Cal P w K mg base CX0 "_law_mixed" 1 ["_law_cell", "_law_k"] (sp_law_mixed K)) : Cal P w K mg base CX0 "_law_field" 2 ["_law_cell", "_law_k"] (sp_law_field K) :=
  ⟨⟨f, fd, okf_law_field F T C_law_mixed, gm, F.kp, F.binds (ps := ["_law_cell", "_law_k"]) fun _ _ _ _ _ _ us hl => match us, hl with | [_, _], _ => rfl⟩⟩
theorem sc_law_power : FnScope ["_law_many", "_law_found", "_law_k"] ["_law_many"] (defScope (topS 10)) := ⟨rfl, rfl, rfl, by decide +kernel, rfl, by decide +kernel, by decide +kernel⟩
theorem okf_law_power {f : Addr} {fd : FuncData} (F : Fun K "_law_power" "_law_power" (topS 10) f fd) (T : Txt K mg) : FnOk P w K mg base CX0 1 f fd ["_law_many"] (sp_law_power K) := by
  refine F.ok sc_law_power (fun vs H0 Q E h => ?_) (fun cdv A outer s H0 vs Q E hr h => ?_)
  · obtain ⟨Z0, a_law_many, rfl, _⟩ := h
    rfl
  · obtain ⟨Z0, a_law_many, rfl, zh, pre0, pre1, k⟩ := h
    have nd := sc_law_power.nd
    have c : Step Z0 H0 Z0 H0 := Step.refl zh
    refine ⟨_, (pss_cons (ps_set (i := 1) nd rfl (Or.inl rfl) (pcK pe_int)) (pss_cons (ps_for PassesOwn.never rfl (pi_range1 rfl T.b_range (pa_cons (pv 0) pnK)) (pg_name (i := 2) nd rfl (Or.inl rfl)) (pss_one (ps_set (i := 1) nd rfl (Or.inl rfl) (pe_op op_mul (pcK pe_int) (pv 1))))) (pss_one (ps_ret (pv 1))))), ?_⟩
    refine ⟨trivial, (storeI fun found_1 en2 => ?_)⟩
    refine ⟨_, rfl, ⟨trivial, ⟨_, rfl, (by first | walk_at "vc" | decide), (by first | walk_at "vc" | decide), (loop1S (Z := Z0) (src_range _ _) (fun rr σr Hr Zr => ∃ (found_3 : Int) (w_law_k : Option V), σr = [some (.int a_law_many), some (.int found_3), w_law_k] ∧ H0 = Hr ∧ Step Z0 H0 Zr Hr ∧ Same Z0 Zr ∧ (loopS m_law_power_b0 found_3 rr = loopS m_law_power_b0 found_1 (rangeL 0 (a_law_many).toNat))) ?_ ?_ ?_ ?_)⟩⟩⟩
    · rintro rr σr Hr Zr hk
      obtain ⟨found_3, w_law_k, rfl, eH28, c, sm4, hl26⟩ := hk
      subst eH28
      exact ⟨sm4, c.zh⟩
    · have sm4 := Same.refl Z0
      exact ⟨Z0, found_1, (none), rfl, rfl, c, sm4, rfl⟩
    · skip
      intro k_10 r11 sg13 H14 Z16 mem17 dec18 hp19
      obtain ⟨found_3, w_law_k, rfl, eH21, c, sm4, hl9⟩ := hp19
      subst eH21
      have lr_k_10 := mem_rangeL.mp mem17
      refine ⟨trivial, ⟨_, rfl, ⟨_, _, rfl, rfl, (by first | walk_at "vcm" | decide), (storeI fun found_22 en23 => ?_)⟩⟩⟩
      have es24 : m_law_power_b0 found_3 k_10 = found_22 := (by subst en23; exact rfl)
      have hn25 := loopS_nxt hl9 es24
      exact ⟨Z16, found_22, (some (.int k_10)), rfl, rfl, c, sm4, hn25⟩
    · intro sg29 H30 Z31 hp32
      obtain ⟨found_3, w_law_k, rfl, eH35, c, sm4, hl33⟩ := hp32
      subst eH35
      have hl36 : found_3 = loopS m_law_power_b0 found_1 (rangeL 0 (a_law_many).toNat) := hl33
      have e37 : (m_law_power a_law_many) = found_3 := (by subst hl36 en2; exact rfl)
      rw [e37] at k
      refine ⟨_, rfl, k⟩
theorem ok_law_power {f : Addr} {fd : FuncData} (F : Fun K "_law_power" "_law_power" (topS 10) f fd) (gm : mg "_law_power" = some (.ref f)) (T : Txt K mg) : Cal P w K mg base CX0 "_law_power" 1 ["_law_many"] (sp_law_power K) :=
  ⟨⟨f, fd, okf_law_power F T, gm, F.kp, F.binds (ps := ["_law_many"]) fun _ _ _ _ _ _ us hl => match us, hl with | [_], _ => rfl⟩⟩
theorem sc_law_value : FnScope ["_law_cell", "_law_number", "_law_width", "_law_kind", "_law_value_here"] ["_law_cell", "_law_number", "_law_width"] (defScope (topS 11)) := ⟨rfl, rfl, rfl, by decide +kernel, rfl, by decide +kernel, by decide +kernel⟩
theorem okf_law_value {f : Addr} {fd : FuncData} (F : Fun K "_law_value" "_law_value" (topS 11) f fd) (T : Txt K mg) (C_law_power : Cal P w K mg base CX0 "_law_power" 1 ["_law_many"] (sp_law_power K)) : FnOk P w K mg base CX0 2 f fd ["_law_cell", "_law_number", "_law_width"] (sp_law_value K) := by
  refine F.ok sc_law_value (fun vs H0 Q E h => ?_) (fun cdv A outer s H0 vs Q E hr h => ?_)
  · obtain ⟨Z0, a_law_cell, a_law_number, a_law_width, rfl, _⟩ := h
    rfl
  · obtain ⟨Z0, a_law_cell, a_law_number, a_law_width, rfl, zh, pre0, pre1, k⟩ := h
    have nd := sc_law_value.nd
    have c : Step Z0 H0 Z0 H0 := Step.refl zh
    refine ⟨_, (pss_cons (ps_set (i := 3) nd rfl (Or.inl rfl) (pe_op op_mod (pv 1) (pcK pe_int))) (pss_cons (ps_if (pt_cmpR op_eq (pv 3) (pcK pe_int) (nomark _)) (pss_one (ps_ret (pe_op op_sub (pe_op op_mod (pv 0) (pe_op op_sub (pe_op op_mul (pcK pe_int) (pe_op op_pow (pcK pe_int) (pcK pe_int))) (pcK pe_int))) (pe_op op_sub (pe_op op_pow (pcK pe_int) (pcK pe_int)) (pcK pe_int))))) pss_nil) (pss_cons (ps_if (pt_cmpR op_eq (pv 3) (pcK pe_int) (nomark _)) (pss_one (ps_ret (pe_op op_mul (pe_op op_sub (pe_op op_mul (pe_op op_mod (pe_op op_fdiv (pv 1) (pcK pe_int)) (pcK pe_int)) (pcK pe_int)) (pcK pe_int)) (pe_op op_add (pe_op op_mul (pe_op op_mod (pv 0) (pe_op op_pow (pcK pe_int) (pcK pe_int))) (pcK pe_int)) (pv 1))))) pss_nil) (pss_cons (ps_if (pt_cmpR op_eq (pv 3) (pcK pe_int) (nomark _)) (pss_one (ps_ret (pe_op op_sub (pe_op op_mod (pe_op op_fdiv (pv 1) (pcK pe_int)) (pcK pe_int)) (pcK pe_int)))) pss_nil) (pss_cons (ps_set (i := 4) nd rfl (Or.inl rfl) (pe_op op_sub (pe_op op_add (pe_cal C_law_power (hr.mono (by decide)) pass0 (pa_cons (pe_op op_add (pv 2) (pe_op op_mod (pe_op op_fdiv (pv 1) (pcK pe_int)) (pcK pe_int))) pnK)) (pe_op op_mod (pe_op op_fdiv (pv 1) (pcK pe_int)) (pcK pe_int))) (pcK pe_int))) (pss_cons (ps_if (pt_cmpR op_eq (pv 3) (pcK pe_int) (nomark _)) (pss_one (ps_ret (pv 4))) pss_nil) (pss_one (ps_ret (pe_op op_sub (pcK pe_int) (pv 4)))))))))), ?_⟩
    refine ⟨_, rfl, ⟨trivial, ⟨_, _, rfl, rfl, (show (0 : Int) < (5 : Int) from (by first | walk_at "vc" | decide)), (storeI fun kind_1 en2 => ?_)⟩⟩⟩
    refine ⟨_, rfl, ⟨trivial, (k_eqI ⟨_, rfl, (ite2 (fun e3 => ?_) (fun e4 => ?_))⟩)⟩⟩
    · skip
      have de3 := e3; (try simp only [decide_eq_true_eq, Bool.and_eq_true, Bool.or_eq_true, Bool.not_eq_true', decide_eq_false_iff_not, Bool.not_eq_true, Bool.true_and, Bool.and_true, Bool.not_true, Bool.not_false, Bool.false_or, Bool.or_false, Bool.not_or, Bool.and_eq_false_iff, Bool.or_eq_false_iff, decide_not] at de3)
      have e5 : (m_law_value a_law_cell a_law_number a_law_width) = ((a_law_cell % (((2 : Int) * ((10 : Int) ^ ((60 : Int)).toNat)) - (1 : Int))) - (((10 : Int) ^ ((60 : Int)).toNat) - (1 : Int))) := (by subst en2; exact (if_pos e3).trans (rfl))
      rw [e5] at k
      refine ⟨_, rfl, ⟨trivial, ⟨trivial, ⟨trivial, ⟨_, _, rfl, rfl, ⟨(by first | walk_at "vc" | decide), (by first | walk_at "vc" | decide), (by first | walk_at "vc" | decide)⟩, ⟨_, _, rfl, rfl, (by first | walk_at "vcm" | decide), ⟨trivial, ⟨_, _, rfl, rfl, ⟨_, _, rfl, rfl, (show (0 : Int) < (((2 : Int) * ((10 : Int) ^ ((60 : Int)).toNat)) - (1 : Int)) from (by first | walk_at "vc" | decide)), ⟨trivial, ⟨trivial, ⟨_, _, rfl, rfl, ⟨(by first | walk_at "vc" | decide), (by first | walk_at "vc" | decide), (by first | walk_at "vc" | decide)⟩, ⟨trivial, ⟨_, _, rfl, rfl, ⟨_, _, rfl, rfl, k⟩⟩⟩⟩⟩⟩⟩⟩⟩⟩⟩⟩⟩⟩⟩
    · skip
      have de4 := e4; (try simp only [decide_eq_true_eq, Bool.and_eq_true, Bool.or_eq_true, Bool.not_eq_true', decide_eq_false_iff_not, Bool.not_eq_true, Bool.true_and, Bool.and_true, Bool.not_true, Bool.not_false, Bool.false_or, Bool.or_false, Bool.not_or, Bool.and_eq_false_iff, Bool.or_eq_false_iff, decide_not] at de4)
      refine ⟨_, rfl, ⟨trivial, (k_eqI ⟨_, rfl, (ite2 (fun e6 => ?_) (fun e7 => ?_))⟩)⟩⟩
      · skip
        have de6 := e6; (try simp only [decide_eq_true_eq, Bool.and_eq_true, Bool.or_eq_true, Bool.not_eq_true', decide_eq_false_iff_not, Bool.not_eq_true, Bool.true_and, Bool.and_true, Bool.not_true, Bool.not_false, Bool.false_or, Bool.or_false, Bool.not_or, Bool.and_eq_false_iff, Bool.or_eq_false_iff, decide_not] at de6)
        have e8 : (m_law_value a_law_cell a_law_number a_law_width) = (((((a_law_number / (5 : Int)) % (2 : Int)) * (2 : Int)) - (1 : Int)) * (((a_law_cell % ((10 : Int) ^ ((18 : Int)).toNat)) * (7919 : Int)) + a_law_number)) := (by subst en2; exact (if_neg e4).trans ((if_pos e6).trans (rfl)))
        rw [e8] at k
        refine ⟨_, rfl, ⟨trivial, ⟨_, _, rfl, rfl, ⟨(by first | walk_at "vc" | decide), (by first | walk_at "vc" | decide)⟩, ⟨trivial, ⟨_, _, rfl, rfl, (show (0 : Int) < (2 : Int) from (by first | walk_at "vc" | decide)), ⟨trivial, ⟨_, _, rfl, rfl, (by first | walk_at "vcm" | decide), ⟨trivial, ⟨_, _, rfl, rfl, ⟨_, rfl, ⟨trivial, ⟨trivial, ⟨_, _, rfl, rfl, ⟨(by first | walk_at "vc" | decide), (by first | walk_at "vc" | decide), (by first | walk_at "vc" | decide)⟩, ⟨_, _, rfl, rfl, (show (0 : Int) < ((10 : Int) ^ ((18 : Int)).toNat) from (by first | walk_at "vc" | decide)), ⟨trivial, ⟨_, _, rfl, rfl, (by first | walk_at "vcm" | decide), ⟨_, rfl, ⟨_, _, rfl, rfl, ⟨_, _, rfl, rfl, (by first | walk_at "vcm" | decide), k⟩⟩⟩⟩⟩⟩⟩⟩⟩⟩⟩⟩⟩⟩⟩⟩⟩⟩⟩
      · skip
        have de7 := e7; (try simp only [decide_eq_true_eq, Bool.and_eq_true, Bool.or_eq_true, Bool.not_eq_true', decide_eq_false_iff_not, Bool.not_eq_true, Bool.true_and, Bool.and_true, Bool.not_true, Bool.not_false, Bool.false_or, Bool.or_false, Bool.not_or, Bool.and_eq_false_iff, Bool.or_eq_false_iff, decide_not] at de7)
        refine ⟨_, rfl, ⟨trivial, (k_eqI ⟨_, rfl, (ite2 (fun e9 => ?_) (fun e10 => ?_))⟩)⟩⟩
        · skip
          have de9 := e9; (try simp only [decide_eq_true_eq, Bool.and_eq_true, Bool.or_eq_true, Bool.not_eq_true', decide_eq_false_iff_not, Bool.not_eq_true, Bool.true_and, Bool.and_true, Bool.not_true, Bool.not_false, Bool.false_or, Bool.or_false, Bool.not_or, Bool.and_eq_false_iff, Bool.or_eq_false_iff, decide_not] at de9)
          have e11 : (m_law_value a_law_cell a_law_number a_law_width) = (((a_law_number / (5 : Int)) % (25 : Int)) - (12 : Int)) := (by subst en2; exact (if_neg e4).trans ((if_neg e7).trans ((if_pos e9).trans (rfl))))
          rw [e11] at k
          refine ⟨_, rfl, ⟨trivial, ⟨_, _, rfl, rfl, ⟨(by first | walk_at "vc" | decide), (by first | walk_at "vc" | decide)⟩, ⟨trivial, ⟨_, _, rfl, rfl, (show (0 : Int) < (25 : Int) from (by first | walk_at "vc" | decide)), ⟨trivial, ⟨_, _, rfl, rfl, k⟩⟩⟩⟩⟩⟩⟩
        · skip
          have de10 := e10; (try simp only [decide_eq_true_eq, Bool.and_eq_true, Bool.or_eq_true, Bool.not_eq_true', decide_eq_false_iff_not, Bool.not_eq_true, Bool.true_and, Bool.and_true, Bool.not_true, Bool.not_false, Bool.false_or, Bool.or_false, Bool.not_or, Bool.and_eq_false_iff, Bool.or_eq_false_iff, decide_not] at de10)
          have fa12 := power_pos (a_law_width + ((a_law_number / (5 : Int)) % (2 : Int)))
          refine ⟨_, rfl, ⟨_, rfl, ⟨trivial, ⟨_, _, rfl, rfl, ⟨(by first | walk_at "vc" | decide), (by first | walk_at "vc" | decide)⟩, ⟨trivial, ⟨_, _, rfl, rfl, (show (0 : Int) < (2 : Int) from (by first | walk_at "vc" | decide)), ⟨_, _, rfl, rfl, ⟨trivial, ⟨_, _, rfl, c.zh, (by first | walk_at "vc" | decide), (by first | walk_at "vc" | decide), ⟨_, rfl, ⟨trivial, ⟨_, _, rfl, rfl, ⟨(by first | walk_at "vc" | decide), (by first | walk_at "vc" | decide)⟩, ⟨trivial, ⟨_, _, rfl, rfl, (show (0 : Int) < (3 : Int) from (by first | walk_at "vc" | decide)), ⟨_, _, rfl, rfl, ⟨trivial, ⟨_, _, rfl, rfl, (storeI fun value_here_13 en14 => ?_)⟩⟩⟩⟩⟩⟩⟩⟩⟩⟩⟩⟩⟩⟩⟩⟩⟩
          refine ⟨_, rfl, ⟨trivial, (k_eqI ⟨_, rfl, (ite2 (fun e15 => ?_) (fun e16 => ?_))⟩)⟩⟩
          · skip
            have de15 := e15; (try simp only [decide_eq_true_eq, Bool.and_eq_true, Bool.or_eq_true, Bool.not_eq_true', decide_eq_false_iff_not, Bool.not_eq_true, Bool.true_and, Bool.and_true, Bool.not_true, Bool.not_false, Bool.false_or, Bool.or_false, Bool.not_or, Bool.and_eq_false_iff, Bool.or_eq_false_iff, decide_not] at de15)
            have e17 : (m_law_value a_law_cell a_law_number a_law_width) = value_here_13 := (by subst en14 en2; exact (if_neg e4).trans ((if_neg e7).trans ((if_neg e10).trans ((if_pos e15).trans (rfl)))))
            rw [e17] at k
            refine ⟨_, rfl, k⟩
          · skip
            have de16 := e16; (try simp only [decide_eq_true_eq, Bool.and_eq_true, Bool.or_eq_true, Bool.not_eq_true', decide_eq_false_iff_not, Bool.not_eq_true, Bool.true_and, Bool.and_true, Bool.not_true, Bool.not_false, Bool.false_or, Bool.or_false, Bool.not_or, Bool.and_eq_false_iff, Bool.or_eq_false_iff, decide_not] at de16)
            have e18 : (m_law_value a_law_cell a_law_number a_law_width) = ((0 : Int) - value_here_13) := (by subst en14 en2; exact (if_neg e4).trans ((if_neg e7).trans ((if_neg e10).trans ((if_neg e16).trans (rfl)))))
            rw [e18] at k
            refine ⟨trivial, ⟨_, rfl, ⟨_, _, rfl, rfl, k⟩⟩⟩
theorem ok_law_value {f : Addr} {fd : FuncData} (F : Fun K "_law_value" "_law_value" (topS 11) f fd) (gm : mg "_law_value" = some (.ref f)) (T : Txt K mg) (C_law_power : Cal P w K mg base CX0 "_law_power" 1 ["_law_many"] (sp_law_power K)) : Cal P w K mg base CX0 "_law_value" 2 ["_law_cell", "_law_number", "_law_width"] (sp_law_value K) :=
  ⟨⟨f, fd, okf_law_value F T C_law_power, gm, F.kp, F.binds (ps := ["_law_cell", "_law_number", "_law_width"]) fun _ _ _ _ _ _ us hl => match us, hl with | [_, _, _], _ => rfl⟩⟩
theorem sc_law_due : FnScope ["_law_card_here", "_law_field_here", "_law_value_here", "_law_signs", "_law_rest", "_law_column", "_law_sign"] ["_law_card_here", "_law_field_here", "_law_value_here"] (defScope (topS 12)) := ⟨rfl, rfl, rfl, by decide +kernel, rfl, by decide +kernel, by decide +kernel⟩
theorem okf_law_due {f : Addr} {fd : FuncData} (F : Fun K "_law_due" "_law_due" (topS 12) f fd) (T : Txt K mg) (C_law_power : Cal P w K mg base CX0 "_law_power" 1 ["_law_many"] (sp_law_power K)) : FnOk P w K mg base CX0 2 f fd ["_law_card_here", "_law_field_here", "_law_value_here"] (sp_law_due K) := by
  refine F.ok sc_law_due (fun vs H0 Q E h => ?_) (fun cdv A outer s H0 vs Q E hr h => ?_)
  · obtain ⟨Z0, a_law_card_here, a_law_field_here, v_law_field_here, a_law_value_here, rfl, _⟩ := h
    rfl
  · obtain ⟨Z0, a_law_card_here, a_law_field_here, v_law_field_here, a_law_value_here, rfl, zh, h_law_field_here, pre0, pre1, pre2, pre3, k⟩ := h
    have nd := sc_law_due.nd
    have c : Step Z0 H0 Z0 H0 := Step.refl zh
    refine ⟨_, (pss_cons (ps_setLcQ (i := 3) (own := [("_law_sign", 6)]) (g := (gName 6)) rfl nd rfl rfl (sw_true rfl rfl rfl (by decide +kernel)) (pi_str (pv 0)) (blkOk_by (N := ["_law_card_here", "_law_field_here", "_law_value_here", "_law_signs", "_law_rest", "_law_column", "_law_sign"]) (sc := defScope (topS 12)) (own := [("_law_sign", 6)]) (by decide +kernel)) (fun _ _ _ _ _ => pg_name (i := 6) nd rfl (Or.inl rfl)) (fun _ _ _ _ _ => pts_nil) (fun _ _ _ _ _ => (pv 6))) (pss_cons (ps_set (i := 4) nd rfl (Or.inl rfl) (pe_op op_mod (pv 2) (pe_cal C_law_power (hr.mono (by decide)) pass0 (pa_cons (pe_op op_add (pe_op op_sub (pe_ix ix_tup (pv 1) (pcK pe_int) (fun _ _ => rfl)) (pe_ix ix_tup (pv 1) (pcK pe_int) (fun _ _ => rfl))) (pcK pe_int)) pnK)))) (pss_cons (ps_for PassesOwn.never rfl (pi_range3 rfl T.b_range (pa_cons (pe_ix ix_tup (pv 1) (pcK pe_int) (fun _ _ => rfl)) (pa_cons (pe_op op_sub (pe_ix ix_tup (pv 1) (pcK pe_int) (fun _ _ => rfl)) (pcK pe_int)) (pa_cons (pe_un un_neg (pcK pe_int)) pnK)))) (pg_name (i := 5) nd rfl (Or.inl rfl)) (pss_cons (ps_asg (pe_ix ix_str (pcK pe_str) (pe_op op_mod (pv 4) (pcK pe_int)) (fun _ _ => rfl)) (pg_sub (pv 3) (pe_op op_sub (pv 5) (pcK pe_int)) set_list)) (pss_one (ps_set (i := 4) nd rfl (Or.inl rfl) (pe_op op_fdiv (pv 4) (pcK pe_int)))))) (pss_one (ps_ret (pe_bm PySem.F.plainAttrs_str PySem.F.slot_str_join PySem.F.type_str_join mt_joinQ (pcK pe_str) (pa_cons (pv 3) pnK))))))), ?_⟩
    refine ⟨_, rfl, ⟨_, rfl, (lc1S (K := K) (src_str _) c.zh (fun (sign_1 : Str) => sign_1) (fun _ => true) (by first | walk_at "vc" | decide) (fun sign_1 Z4 H5 C6 N7 mem8 st9 kC10 kN11 => ?_) (New.all (New.gen fun signs_2 en3 => New.own c fun p15 Z12 H13 st14 hp16 o17 => ?_)))⟩⟩
    · skip
      have cel := c
      have c := c.trans st9
      have h_law_field_here := Py.mono st9.zz h_law_field_here
      have c := Step.refl st9.zh
      have ls_sign_1 := chars_len1 mem8
      refine ⟨rfl, (yesK ⟨_, rfl, (kC10 _ _ _ c rfl rfl)⟩)⟩
    have c := c.trans st14
    have h_law_field_here := Py.mono st14.zz h_law_field_here
    refine (tgt1 ?_)
    have ln_signs_2 := congrArg List.length en3; (try simp only [setI_len, len_app, len_chS, len_chars, cutL_len_all, List.length_map, List.length_reverse, List.length_replicate, len_sg, sizeLine_eq, List.length_append, List.length_cons, List.length_nil, len_lit0, len_lit1, len_lit2] at ln_signs_2)
    have fa18 := power_pos (((a_law_field_here).2 - (a_law_field_here).1) + (1 : Int))
    refine ⟨_, rfl, ⟨_, rfl, ⟨trivial, (k_sndS c.zh h_law_field_here ⟨_, rfl, ⟨trivial, (k_fstS c.zh h_law_field_here ⟨_, _, rfl, rfl, ⟨trivial, ⟨_, _, rfl, rfl, ⟨trivial, ⟨_, _, rfl, c.zh, (by first | walk_at "vc" | decide), (by first | walk_at "vc" | decide), ⟨_, _, rfl, rfl, (show (0 : Int) < (m_law_power (((a_law_field_here).2 - (a_law_field_here).1) + (1 : Int))) from (by first | walk_at "vc" | decide)), (storeI fun rest_19 en20 => ?_)⟩⟩⟩⟩⟩⟩)⟩⟩)⟩⟩⟩
    refine ⟨_, rfl, ⟨trivial, (k_sndS c.zh h_law_field_here ⟨_, rfl, ⟨trivial, (k_fstS c.zh h_law_field_here ⟨trivial, ⟨_, _, rfl, rfl, ⟨trivial, ⟨_, rfl, ⟨trivial, ⟨_, _, _, _, rfl, RgC.neg (by first | walk_at "vc" | decide) (by first | walk_at "vc" | decide) (by first | walk_at "vc" | decide) (by first | walk_at "vc" | decide), (loop1S (Z := Z12) (src_rangeC _ _ _) (fun rr σr Hr Zr => ∃ (rest_21 : Int) (signs_22 : (List Str)) (w_law_column : Option V), σr = [some (.str a_law_card_here), some v_law_field_here, some (.int a_law_value_here), some (.ref p15), some (.int rest_21), w_law_column, none] ∧ Step Z0 H0 Zr Hr ∧ Same Z12 Zr ∧ Own K H0 Zr Hr p15 signs_22 ∧ (signs_22.length = 40) ∧ (∀ x ∈ signs_22, x.length ≤ 1) ∧ (loopS m_law_due_b0 (rest_21, signs_22) rr = loopS m_law_due_b0 (rest_19, signs_2) (rangeC (a_law_field_here).2 (-(1 : Int)) ((a_law_field_here).2 - ((a_law_field_here).1 - (1 : Int))).toNat))) ?_ ?_ ?_ ?_)⟩⟩⟩⟩⟩⟩)⟩⟩)⟩⟩
    · rintro rr σr Hr Zr hk
      obtain ⟨rest_21, signs_22, w_law_column, rfl, c, sm23, o17, iv0, iv1, hl50⟩ := hk
      have h_law_field_here := Py.mono sm23 h_law_field_here
      exact ⟨sm23, c.zh⟩
    · have sm23 := Same.refl Z12
      exact ⟨Z12, rest_19, signs_2, (none), rfl, c, sm23, o17, (by first | walk_at "inv" | decide), (by first | walk_at "inv" | decide), rfl⟩
    · skip
      intro column_30 r31 sg33 H34 Z36 mem37 dec38 hp39
      obtain ⟨rest_21, signs_22, w_law_column, rfl, c, sm23, o17, iv0, iv1, hl29⟩ := hp39
      have h_law_field_here := Py.mono sm23 h_law_field_here
      have lr_column_30 := mem_rangeC1 mem37
      refine ⟨trivial, ⟨_, rfl, ⟨trivial, ⟨_, _, rfl, rfl, (show (0 : Int) < (10 : Int) from (by first | walk_at "vc" | decide)), (k_ixS (by first | walk_at "vc" | decide) (by first | walk_at "vc" | decide) ⟨_, rfl, ⟨_, rfl, ⟨trivial, ⟨_, _, rfl, rfl, (k_setL o17 rfl (by first | walk_at "vc" | decide) fun u45 o17 => ?_)⟩⟩⟩⟩)⟩⟩⟩⟩
      have c := c.mut (o := u45) o17.nz o17.n0
      obtain ⟨signs_43, en44⟩ : ∃ z, z = (setI signs_22 (column_30 - (1 : Int)) (chS ("0123456789" : Str) (rest_21 % (10 : Int)))) := ⟨_, rfl⟩
      rw [← en44] at o17
      have ln_signs_43 := congrArg List.length en44; (try simp only [setI_len, len_app, len_chS, len_chars, cutL_len_all, List.length_map, List.length_reverse, List.length_replicate, len_sg, sizeLine_eq, List.length_append, List.length_cons, List.length_nil, len_lit0, len_lit1, len_lit2] at ln_signs_43)
      refine ⟨_, rfl, ⟨trivial, ⟨_, _, rfl, rfl, ⟨(by first | walk_at "vc" | decide), (by first | walk_at "vc" | decide)⟩, (storeI fun rest_46 en47 => ?_)⟩⟩⟩
      have es48 : m_law_due_b0 (rest_21, signs_22) column_30 = (rest_46, signs_43) := (by subst en47 en44; exact rfl)
      have hn49 := loopS_nxt hl29 es48
      exact ⟨Z36, rest_46, signs_43, (some (.int column_30)), rfl, c, sm23, o17, (by first | walk_at "inv" | decide), (by first | walk_at "inv" | decide), hn49⟩
    · intro sg54 H55 Z56 hp57
      obtain ⟨rest_21, signs_22, w_law_column, rfl, c, sm23, o17, iv0, iv1, hl58⟩ := hp57
      have h_law_field_here := Py.mono sm23 h_law_field_here
      have hl62 : (rest_21, signs_22) = loopS m_law_due_b0 (rest_19, signs_2) (rangeC (a_law_field_here).2 (-(1 : Int)) ((a_law_field_here).2 - ((a_law_field_here).1 - (1 : Int))).toNat) := hl58
      have en64 : rest_21 = (loopS m_law_due_b0 (rest_19, signs_2) (rangeC (a_law_field_here).2 (-(1 : Int)) ((a_law_field_here).2 - ((a_law_field_here).1 - (1 : Int))).toNat)).1 := congrArg (fun z => z.1) hl62
      have en65 : signs_22 = (loopS m_law_due_b0 (rest_19, signs_2) (rangeC (a_law_field_here).2 (-(1 : Int)) ((a_law_field_here).2 - ((a_law_field_here).1 - (1 : Int))).toNat)).2 := congrArg (fun z => z.2) hl62
      have e66 : (m_law_due a_law_card_here a_law_field_here a_law_value_here) = (Txt.join ("" : Str) signs_22) := (by subst en65 en64 en20 en3; exact rfl)
      rw [e66] at k
      refine ⟨trivial, ⟨rfl, ⟨_, rfl, ⟨trivial, (k_joinO o17 (by first | walk_at "vc" | decide) (k _ _ _ c rfl))⟩⟩⟩⟩
theorem ok_law_due {f : Addr} {fd : FuncData} (F : Fun K "_law_due" "_law_due" (topS 12) f fd) (gm : mg "_law_due" = some (.ref f)) (T : Txt K mg) (C_law_power : Cal P w K mg base CX0 "_law_power" 1 ["_law_many"] (sp_law_power K)) : Cal P w K mg base CX0 "_law_due" 2 ["_law_card_here", "_law_field_here", "_law_value_here"] (sp_law_due K) :=
  ⟨⟨f, fd, okf_law_due F T C_law_power, gm, F.kp, F.binds (ps := ["_law_card_here", "_law_field_here", "_law_value_here"]) fun _ _ _ _ _ _ us hl => match us, hl with | [_, _, _], _ => rfl⟩⟩
theorem sc_law : FnScope ["_law_script", "_law_card_here", "_law_k", "_law_cell", "_law_field_here", "_law_width", "_law_value_here", "_law_due_here", "_law_found", "_law_number"] ["_law_script"] (defScope (topS 13)) := ⟨rfl, rfl, rfl, by decide +kernel, rfl, by decide +kernel, by decide +kernel⟩
theorem okf_law {f : Addr} {fd : FuncData} (F : Fun K "law" "law" (topS 13) f fd) (T : Txt K mg) (C_number_of : Cal P w K mg base CX0 "number_of" 2 ["card", "field"] (sp_number_of K)) (C_punch_in : Cal P w K mg base CX0 "punch_in" 1 ["card", "field", "value"] (sp_punch_in K)) (C_law_whole : Cal P w K mg base CX0 "_law_whole" 1 ["_law_found"] (sp_law_whole K)) (C_law_mixed : Cal P w K mg base CX0 "_law_mixed" 1 ["_law_cell", "_law_k"] (sp_law_mixed K)) (C_law_card : Cal P w K mg base CX0 "_law_card" 2 ["_law_script"] (sp_law_card K)) (C_law_field : Cal P w K mg base CX0 "_law_field" 2 ["_law_cell", "_law_k"] (sp_law_field K)) (C_law_power : Cal P w K mg base CX0 "_law_power" 1 ["_law_many"] (sp_law_power K)) (C_law_value : Cal P w K mg base CX0 "_law_value" 2 ["_law_cell", "_law_number", "_law_width"] (sp_law_value K)) (C_law_due : Cal P w K mg base CX0 "_law_due" 2 ["_law_card_here", "_law_field_here", "_law_value_here"] (sp_law_due K)) : FnOk P w K mg base CX0 3 f fd ["_law_script"] (sp_law K) := by
  refine F.ok sc_law (fun vs H0 Q E h => ?_) (fun cdv A outer s H0 vs Q E hr h => ?_)
  · obtain ⟨Z0, a_law_script, v_law_script, rfl, _⟩ := h
    rfl
  · obtain ⟨Z0, a_law_script, v_law_script, rfl, zh, h_law_script, k⟩ := h
    have nd := sc_law.nd
    have c : Step Z0 H0 Z0 H0 := Step.refl zh
    refine ⟨_, (pss_cons (ps_set (i := 1) nd rfl (Or.inl rfl) (pe_cal C_law_card (hr.mono (by decide)) pass0 (pa_cons (pv 0) pnK))) (pss_cons (ps_for PassesOwn.never rfl (pi_enum rfl T.b_enumerate (pa_cons (pe_op op_cat (pe_lstQ (pa_cons (pcK pe_int) pnK)) (pe_slice sl_list (pv 0) po_none (po_some (pcK pe_int)))) pnK)) (pg_tup rfl (pgs_cons (pg_name (i := 2) nd rfl (Or.inl rfl)) (pgs_cons (pg_name (i := 3) nd rfl (Or.inl rfl)) pgs_nil))) (pss_cons (ps_set (i := 4) nd rfl (Or.inl rfl) (pe_cal C_law_field (hr.mono (by decide)) pass0 (pa_cons (pv 3) (pa_cons (pv 2) pnK)))) (pss_cons (ps_set (i := 5) nd rfl (Or.inl rfl) (pe_op op_add (pe_op op_sub (pe_ix ix_tup (pv 4) (pcK pe_int) (fun _ _ => rfl)) (pe_ix ix_tup (pv 4) (pcK pe_int) (fun _ _ => rfl))) (pcK pe_int))) (pss_cons (ps_set (i := 6) nd rfl (Or.inl rfl) (pe_cal C_law_value (hr.mono (by decide)) pass0 (pa_cons (pv 3) (pa_cons (pe_cal C_law_mixed (hr.mono (by decide)) pass0 (pa_cons (pv 3) (pa_cons (pe_op op_add (pcK pe_int) (pe_op op_mul (pcK pe_int) (pv 2))) pnK))) (pa_cons (pv 5) pnK))))) (pss_cons (ps_set (i := 7) nd rfl (Or.inl rfl) (pe_cal C_law_due (hr.mono (by decide)) pass0 (pa_cons (pv 1) (pa_cons (pv 4) (pa_cons (pv 6) pnK))))) (pss_cons (ps_set (i := 8) nd rfl (Or.inl rfl) (pe_cal C_punch_in (hr.mono (by decide)) pass0 (pa_cons (pv 1) (pa_cons (pv 4) (pa_cons (pv 6) pnK))))) (pss_cons (ps_if (ptK (PW.pt (pw_or (pt_not (pt_val (pe_callB call_isi (by rfl) T.b_isinstance (by decide +kernel) (pa_cons (pv 8) (pa_cons (pcK (pe_bltn (v := .ty "str") (by rfl) T.b_str (by decide +kernel) rfl)) pnK))))) (pw_or1 (pt_cmpR op_ne (pv 8) (pv 7) (nomark _)))))) (pss_one (ps_ret (pcK pe_bl))) pss_nil) (pss_cons (ps_set (i := 9) nd rfl (Or.inl rfl) (pe_cal C_number_of (hr.mono (by decide)) pass0 (pa_cons (pv 8) (pa_cons (pv 4) pnK)))) (pss_cons (ps_if (ptK (ptK (PW.pt (pw_or (pt_not (pt_val (pe_cal C_law_whole (hr.mono (by decide)) pass0 (pa_cons (pv 9) pnK)))) (pw_or (pt_cmpR op_ne (pv 9) (pe_op op_mod (pv 6) (pe_cal C_law_power (hr.mono (by decide)) pass0 (pa_cons (pv 5) pnK))) (nomark _)) (pw_or1 (pt_cmpR op_ne (pe_cal C_punch_in (hr.mono (by decide)) pass0 (pa_cons (pv 8) (pa_cons (pv 4) (pa_cons (pv 6) pnK)))) (pv 7) (nomark _)))))))) (pss_one (ps_ret (pcK pe_bl))) pss_nil) (pss_one (ps_set (i := 1) nd rfl (Or.inl rfl) (pv 7)))))))))))) (pss_one (ps_ret (pcK pe_bl))))), ?_⟩
    refine ⟨_, rfl, ⟨trivial, ⟨_, _, _, rfl, c.zh, h_law_script, (storeS fun card_here_1 en2 => ?_)⟩⟩⟩
    have fa3 := card_len a_law_script; (try rw [← en2] at fa3)
    have ln_card_here_1 := congrArg Str.length en2; (try simp only [setI_len, len_app, len_chS, len_chars, cutL_len_all, List.length_map, List.length_reverse, List.length_replicate, len_sg, sizeLine_eq, List.length_append, List.length_cons, List.length_nil, len_lit0, len_lit1, len_lit2] at ln_card_here_1)
    refine ⟨trivial, ⟨trivial, (k_lst (K := K) (m := [(0 : Int)]) c.zh (.cons rfl .nil) (by decide) (New.tel fun v7 Z4 H5 st6 hv7 => ?_))⟩⟩
    have c := c.trans st6
    have h_law_script := Py.mono st6.zz h_law_script
    have lsl8 := cutL_to_len a_law_script.ns (show (0 : Int) ≤ (84 : Int) by decide)
    refine ⟨_, rfl, ⟨trivial, ⟨_, rfl, (k_slR c.zh h_law_script (New.tel fun v12 Z9 H10 st11 hv12 => ?_))⟩⟩⟩
    have c := c.trans st11
    have h_law_script := Py.mono st11.zz h_law_script
    have hv7 := Py.mono st11.zz hv7
    refine (k_cat c.zh hv7 hv12 (by first | walk_at "vc" | decide) (New.tel fun v16 Z13 H14 st15 hv16 => ?_))
    have c := c.trans st15
    have h_law_script := Py.mono st15.zz h_law_script
    have hv7 := Py.mono st15.zz hv7
    have hv12 := Py.mono st15.zz hv12
    obtain ⟨a17, xs18, ev19, hz20, pr21⟩ := hv16
    refine ⟨trivial, ⟨_, _, by rw [ev19], SqL.of (c.zh _ _ hz20), (loop2 (Z := Z13) (src_enum hz20 pr21) (fun rr σr Hr Zr => ∃ (card_here_22 : Str) (w_law_k : Option V) (w_law_cell : Option V) (w_law_field_here : Option V) (w_law_width : Option V) (w_law_value_here : Option V) (w_law_due_here : Option V) (w_law_found : Option V) (w_law_number : Option V), σr = [some v_law_script, some (.str card_here_22), w_law_k, w_law_cell, w_law_field_here, w_law_width, w_law_value_here, w_law_due_here, w_law_found, w_law_number] ∧ Step Z0 H0 Zr Hr ∧ Same Z13 Zr ∧ (card_here_22.length = 40) ∧ (loopR m_law_b0 card_here_22 rr = loopR m_law_b0 card_here_1 (enumL 0 ([(0 : Int)] ++ (cutL a_law_script.ns none (some (84 : Int))))))) ?_ ?_ ?_ ?_)⟩⟩
    · rintro rr σr Hr Zr hk
      obtain ⟨card_here_22, w_law_k, w_law_cell, w_law_field_here, w_law_width, w_law_value_here, w_law_due_here, w_law_found, w_law_number, rfl, c, sm23, iv0, hl104⟩ := hk
      have h_law_script := Py.mono sm23 h_law_script
      exact ⟨sm23, c.zh⟩
    · have sm23 := Same.refl Z13
      exact ⟨Z13, card_here_1, (none), (none), (none), (none), (none), (none), (none), (none), rfl, c, sm23, (by first | walk_at "inv" | decide), rfl⟩
    · skip
      intro q38 r29 v39 v40 sg31 H32 H33 Z34 mem35 dec36 hp37 h41 h42 st43
      obtain ⟨card_here_22, w_law_k, w_law_cell, w_law_field_here, w_law_width, w_law_value_here, w_law_due_here, w_law_found, w_law_number, rfl, c, sm23, iv0, hl28⟩ := hp37
      have h_law_script := Py.mono sm23 h_law_script
      have c := c.trans st43
      have h_law_script := Py.mono st43.zz h_law_script
      have le_q38 := mem_enumL mem35; (try simp only [setI_len, len_app, len_chS, len_chars, cutL_len_all, List.length_map, List.length_reverse, List.length_replicate, len_sg, sizeLine_eq, List.length_append, List.length_cons, List.length_nil, len_lit0, len_lit1, len_lit2] at le_q38)
      cases h41
      obtain ⟨k_46, en47⟩ : ∃ z, z = q38.1 := ⟨_, rfl⟩
      rw [← en47]
      cases h42
      obtain ⟨cell_48, en49⟩ : ∃ z, z = q38.2 := ⟨_, rfl⟩
      rw [← en49]
      refine ⟨_, rfl, ⟨_, rfl, ⟨trivial, ⟨_, _, _, rfl, c.zh, (by first | walk_at "vc" | decide), (by first | walk_at "vc" | decide), (Tel.gen fun field_here_50 en51 => fun v55 Z52 H53 st54 hv55 => ?_)⟩⟩⟩⟩
      have c := c.trans st54
      have sm23 := sm23.trans st54.zz
      have h_law_script := Py.mono st54.zz h_law_script
      refine (tgt1 ?_)
      have fa56 := field_rng cell_48 k_46; (try rw [← en51] at fa56)
      refine ⟨_, rfl, ⟨trivial, (k_sndS c.zh hv55 ⟨_, rfl, ⟨trivial, (k_fstS c.zh hv55 ⟨_, _, rfl, rfl, ⟨trivial, ⟨_, _, rfl, rfl, (storeI fun width_57 en58 => ?_)⟩⟩⟩)⟩⟩)⟩⟩
      have fa59 := mixed_rng cell_48 ((140 : Int) + ((2 : Int) * k_46))
      refine ⟨_, rfl, ⟨_, rfl, ⟨trivial, ⟨trivial, ⟨_, rfl, ⟨_, _, rfl, rfl, (by first | walk_at "vcm" | decide), ⟨_, _, rfl, rfl, ⟨trivial, ⟨_, _, _, rfl, c.zh, (by first | walk_at "vc" | decide), (by first | walk_at "vc" | decide), ⟨_, rfl, ⟨trivial, ⟨_, _, _, _, rfl, c.zh, (by first | walk_at "vc" | decide), (by first | walk_at "vc" | decide), (storeI fun value_here_60 en61 => ?_)⟩⟩⟩⟩⟩⟩⟩⟩⟩⟩⟩⟩
      refine ⟨_, rfl, ⟨_, rfl, ⟨_, rfl, ⟨trivial, ⟨_, _, _, _, _, rfl, c.zh, hv55, (by first | walk_at "vc" | decide), (by first | walk_at "vc" | decide), (by first | walk_at "vc" | decide), (by first | walk_at "vc" | decide), (Tel.sc fun Z64 H65 st66 => ?_)⟩⟩⟩⟩⟩
      have c := c.trans st66
      have sm23 := sm23.trans st66.zz
      have h_law_script := Py.mono st66.zz h_law_script
      have hv55 := Py.mono st66.zz hv55
      refine (storeS fun due_here_62 en63 => ?_)
      have fa67 := due_len card_here_22 field_here_50 value_here_60; (try rw [← en63] at fa67)
      have ln_due_here_62 := congrArg Str.length en63; (try simp only [setI_len, len_app, len_chS, len_chars, cutL_len_all, List.length_map, List.length_reverse, List.length_replicate, len_sg, sizeLine_eq, List.length_append, List.length_cons, List.length_nil, len_lit0, len_lit1, len_lit2] at ln_due_here_62)
      refine ⟨_, rfl, ⟨_, rfl, ⟨_, rfl, ⟨trivial, ⟨_, _, _, _, _, rfl, c.zh, hv55, (by first | walk_at "vc" | decide), (by first | walk_at "vc" | decide), (by first | walk_at "vc" | decide), (by first | walk_at "vc" | decide), (Tel.sc fun Z70 H71 st72 => ?_)⟩⟩⟩⟩⟩
      have c := c.trans st72
      have sm23 := sm23.trans st72.zz
      have h_law_script := Py.mono st72.zz h_law_script
      have hv55 := Py.mono st72.zz hv55
      refine (storeS fun found_68 en69 => ?_)
      have fa73 := punch_len card_here_22 field_here_50 value_here_60; (try rw [← en69] at fa73)
      have ln_found_68 := congrArg Str.length en69; (try simp only [setI_len, len_app, len_chS, len_chars, cutL_len_all, List.length_map, List.length_reverse, List.length_replicate, len_sg, sizeLine_eq, List.length_append, List.length_cons, List.length_nil, len_lit0, len_lit1, len_lit2] at ln_found_68)
      refine ⟨trivial, (ansOr (fun _ q => ⟨_, rfl, ⟨trivial, ⟨trivial, (k_isi (b := true) (Pt.str _) (by decide +kernel) ⟨_, rfl, q⟩)⟩⟩⟩) (fun _ _ q => ⟨_, rfl, ⟨_, rfl, (k_neS ⟨_, rfl, q⟩)⟩⟩) (ite2 (fun e74 => ?_) (fun e75 => ?_)))⟩
      · skip
        have de74 := e74; (try simp only [decide_eq_true_eq, Bool.and_eq_true, Bool.or_eq_true, Bool.not_eq_true', decide_eq_false_iff_not, Bool.not_eq_true, Bool.true_and, Bool.and_true, Bool.not_true, Bool.not_false, Bool.false_or, Bool.or_false, Bool.not_or, Bool.and_eq_false_iff, Bool.or_eq_false_iff, decide_not] at de74)
        have es76 : m_law_b0 card_here_22 q38 = (.ret false) := (by subst en69 en63 en61 en58 en51 en49 en47; exact (if_pos e74).trans (rfl))
        have hr77 := loopR_ret hl28 es76
        have e78 : (m_law a_law_script) = false := (by subst en2; exact (bind_ret hr77).trans (rfl))
        rw [e78] at k
        refine ⟨trivial, (k _ _ _ c rfl)⟩
      · skip
        have de75 := e75; (try simp only [decide_eq_true_eq, Bool.and_eq_true, Bool.or_eq_true, Bool.not_eq_true', decide_eq_false_iff_not, Bool.not_eq_true, Bool.true_and, Bool.and_true, Bool.not_true, Bool.not_false, Bool.false_or, Bool.or_false, Bool.not_or, Bool.and_eq_false_iff, Bool.or_eq_false_iff, decide_not] at de75)
        refine ⟨_, rfl, ⟨_, rfl, ⟨trivial, ⟨_, _, _, _, rfl, c.zh, hv55, (by first | walk_at "vc" | decide), (storeI fun number_79 en80 => ?_)⟩⟩⟩⟩
        have fa81 := power_pos width_57
        have fa82 := punch_len found_68 field_here_50 value_here_60
        refine ⟨trivial, testK (Z := Z70) ((!(m_law_whole number_79)) || ((!decide (number_79 = (value_here_60 % (m_law_power width_57)))) || (!decide ((m_punch_in found_68 field_here_50 value_here_60) = due_here_62)))) (fun Q' q83 => ?_) (fun Z84 H85 st86 => ?_)⟩
        · skip
          have sx87 := Step.refl c.zh
          refine ⟨trivial, ⟨_, rfl, ⟨trivial, ⟨_, _, rfl, c.zh, ⟨_, rfl, (ite2 (fun e88 => ?_) (fun e89 => ?_))⟩⟩⟩⟩⟩
          · exact q83 _ _ _ (orT e88) sx87
          · skip
            have de89 := e89; (try simp only [decide_eq_true_eq, Bool.and_eq_true, Bool.or_eq_true, Bool.not_eq_true', decide_eq_false_iff_not, Bool.not_eq_true, Bool.true_and, Bool.and_true, Bool.not_true, Bool.not_false, Bool.false_or, Bool.or_false, Bool.not_or, Bool.and_eq_false_iff, Bool.or_eq_false_iff, decide_not] at de89)
            refine ⟨_, rfl, ⟨_, rfl, ⟨_, rfl, ⟨trivial, ⟨_, _, rfl, c.zh, (by first | walk_at "vc" | decide), (by first | walk_at "vc" | decide), ⟨_, _, rfl, rfl, (show (0 : Int) < (m_law_power width_57) from (by first | walk_at "vc" | decide)), (k_neI ⟨_, rfl, (ite2 (fun e90 => ?_) (fun e91 => ?_))⟩)⟩⟩⟩⟩⟩⟩
            · exact q83 _ _ _ (orF e89 (orT e90)) sx87
            · skip
              have de91 := e91; (try simp only [decide_eq_true_eq, Bool.and_eq_true, Bool.or_eq_true, Bool.not_eq_true', decide_eq_false_iff_not, Bool.not_eq_true, Bool.true_and, Bool.and_true, Bool.not_true, Bool.not_false, Bool.false_or, Bool.or_false, Bool.not_or, Bool.and_eq_false_iff, Bool.or_eq_false_iff, decide_not] at de91)
              refine ⟨_, rfl, ⟨_, rfl, ⟨_, rfl, ⟨trivial, ⟨_, _, _, _, _, rfl, c.zh, hv55, (by first | walk_at "vc" | decide), (by first | walk_at "vc" | decide), (by first | walk_at "vc" | decide), (by first | walk_at "vc" | decide), (Tel.sc fun Z92 H93 st94 => ?_)⟩⟩⟩⟩⟩
              have c := c.trans st94
              have sm23 := sm23.trans st94.zz
              have sx87 := sx87.trans st94
              have h_law_script := Py.mono st94.zz h_law_script
              have hv55 := Py.mono st94.zz hv55
              refine ⟨_, rfl, (k_neS ⟨_, rfl, (q83 _ _ _ (orF e89 (orF e91 rfl)) sx87)⟩)⟩
        have c := c.trans st86
        have sm23 := sm23.trans st86.zz
        have h_law_script := Py.mono st86.zz h_law_script
        have hv55 := Py.mono st86.zz hv55
        refine (ite2 (fun e95 => ?_) (fun e96 => ?_))
        · skip
          have de95 := e95; (try simp only [decide_eq_true_eq, Bool.and_eq_true, Bool.or_eq_true, Bool.not_eq_true', decide_eq_false_iff_not, Bool.not_eq_true, Bool.true_and, Bool.and_true, Bool.not_true, Bool.not_false, Bool.false_or, Bool.or_false, Bool.not_or, Bool.and_eq_false_iff, Bool.or_eq_false_iff, decide_not] at de95)
          have es97 : m_law_b0 card_here_22 q38 = (.ret false) := (by subst en80 en69 en63 en61 en58 en51 en49 en47; exact (if_neg e75).trans ((if_pos e95).trans (rfl)))
          have hr98 := loopR_ret hl28 es97
          have e99 : (m_law a_law_script) = false := (by subst en2; exact (bind_ret hr98).trans (rfl))
          rw [e99] at k
          refine ⟨trivial, (k _ _ _ c rfl)⟩
        · skip
          have de96 := e96; (try simp only [decide_eq_true_eq, Bool.and_eq_true, Bool.or_eq_true, Bool.not_eq_true', decide_eq_false_iff_not, Bool.not_eq_true, Bool.true_and, Bool.and_true, Bool.not_true, Bool.not_false, Bool.false_or, Bool.or_false, Bool.not_or, Bool.and_eq_false_iff, Bool.or_eq_false_iff, decide_not] at de96)
          refine ⟨_, rfl, (storeS fun card_here_100 en101 => ?_)⟩
          have ln_card_here_100 := congrArg Str.length en101; (try simp only [setI_len, len_app, len_chS, len_chars, cutL_len_all, List.length_map, List.length_reverse, List.length_replicate, len_sg, sizeLine_eq, List.length_append, List.length_cons, List.length_nil, len_lit0, len_lit1, len_lit2] at ln_card_here_100)
          have es102 : m_law_b0 card_here_22 q38 = (.nxt card_here_100) := (by subst en101 en80 en69 en63 en61 en58 en51 en49 en47; exact (if_neg e75).trans ((if_neg e96).trans (rfl)))
          have hn103 := loopR_nxt hl28 es102
          exact ⟨Z84, card_here_100, (some (.int k_46)), (some (.int cell_48)), (some v55), (some (.int width_57)), (some (.int value_here_60)), (some (.str due_here_62)), (some (.str found_68)), (some (.int number_79)), rfl, c, sm23, (by first | walk_at "inv" | decide), hn103⟩
    · intro sg107 H108 Z109 hp110
      obtain ⟨card_here_22, w_law_k, w_law_cell, w_law_field_here, w_law_width, w_law_value_here, w_law_due_here, w_law_found, w_law_number, rfl, c, sm23, iv0, hl111⟩ := hp110
      have h_law_script := Py.mono sm23 h_law_script
      have hl114 : loopR m_law_b0 card_here_1 (enumL 0 ([(0 : Int)] ++ (cutL a_law_script.ns none (some (84 : Int))))) = .nxt card_here_22 := hl111.symm
      have e116 : (m_law a_law_script) = true := (by subst en2; exact (bind_nxt hl114).trans (rfl))
      rw [e116] at k
      refine ⟨trivial, (k _ _ _ c rfl)⟩
theorem ok_law {f : Addr} {fd : FuncData} (F : Fun K "law" "law" (topS 13) f fd) (gm : mg "law" = some (.ref f)) (T : Txt K mg) (C_number_of : Cal P w K mg base CX0 "number_of" 2 ["card", "field"] (sp_number_of K)) (C_punch_in : Cal P w K mg base CX0 "punch_in" 1 ["card", "field", "value"] (sp_punch_in K)) (C_law_whole : Cal P w K mg base CX0 "_law_whole" 1 ["_law_found"] (sp_law_whole K)) (C_law_mixed : Cal P w K mg base CX0 "_law_mixed" 1 ["_law_cell", "_law_k"] (sp_law_mixed K)) (C_law_card : Cal P w K mg base CX0 "_law_card" 2 ["_law_script"] (sp_law_card K)) (C_law_field : Cal P w K mg base CX0 "_law_field" 2 ["_law_cell", "_law_k"] (sp_law_field K)) (C_law_power : Cal P w K mg base CX0 "_law_power" 1 ["_law_many"] (sp_law_power K)) (C_law_value : Cal P w K mg base CX0 "_law_value" 2 ["_law_cell", "_law_number", "_law_width"] (sp_law_value K)) (C_law_due : Cal P w K mg base CX0 "_law_due" 2 ["_law_card_here", "_law_field_here", "_law_value_here"] (sp_law_due K)) : Cal P w K mg base CX0 "law" 3 ["_law_script"] (sp_law K) :=
  ⟨⟨f, fd, okf_law F T C_number_of C_punch_in C_law_whole C_law_mixed C_law_card C_law_field C_law_power C_law_value C_law_due, gm, F.kp, F.binds (ps := ["_law_script"]) fun _ _ _ _ _ _ us hl => match us, hl with | [_], _ => rfl⟩⟩
end
theorem all_mk {l : PySem.W.OpenLaw} {w : World} {K : PySem.W.Frag} {h : Heap} {mg : Str → Option Value} {fa : Addr} (X : K.In h) (G : h.Ns mainGlobals mg) (hfa : mg "law" = some (.ref fa))
    {od1 an1 : Option Addr} {sl1 : Array (Option Value)} {oc1 kV1 dc1 pm1 cd1 ct1 : Value} {f1 : Addr}
    {od2 an2 : Option Addr} {sl2 : Array (Option Value)} {oc2 kV2 dc2 pm2 cd2 ct2 : Value} {f2 : Addr}
    {od3 an3 : Option Addr} {sl3 : Array (Option Value)} {oc3 kV3 dc3 pm3 cd3 ct3 : Value} {f3 : Addr}
    {od4 an4 : Option Addr} {sl4 : Array (Option Value)} {oc4 kV4 dc4 pm4 cd4 ct4 : Value} {f4 : Addr}
    {od5 an5 : Option Addr} {sl5 : Array (Option Value)} {oc5 kV5 dc5 pm5 cd5 ct5 : Value} {f5 : Addr}
    {od6 an6 : Option Addr} {sl6 : Array (Option Value)} {oc6 kV6 dc6 pm6 cd6 ct6 : Value} {f6 : Addr}
    {od7 an7 : Option Addr} {sl7 : Array (Option Value)} {oc7 kV7 dc7 pm7 cd7 ct7 : Value} {f7 : Addr}
    {od8 an8 : Option Addr} {sl8 : Array (Option Value)} {oc8 kV8 dc8 pm8 cd8 ct8 : Value} {f8 : Addr}
    {od9 an9 : Option Addr} {sl9 : Array (Option Value)} {oc9 kV9 dc9 pm9 cd9 ct9 : Value} {f9 : Addr}
    {od10 an10 : Option Addr} {sl10 : Array (Option Value)} {oc10 kV10 dc10 pm10 cd10 ct10 : Value} {f10 : Addr}
    {od11 an11 : Option Addr} {sl11 : Array (Option Value)} {oc11 kV11 dc11 pm11 cd11 ct11 : Value} {f11 : Addr}
    {t_FIGURES : Tok}
    (a1 : PySem.W.nsIn K mainGlobals "part_of" = some (some (.ref f1))) (l1 : K.lookup f1 = some ⟨oc1, od1, .func (PySem.W.fnOf "part_of" "part_of" (defArgs (topS 2)) (defBody (topS 2)) (defScope (topS 2)) .none kV1 dc1 pm1 an1 cd1 ct1), sl1⟩) (c1 : PySem.W.codeIn K cd1 "part_of" = true) (k1 : PySem.W.keepIn K (.ref f1) = true)
    (a2 : PySem.W.nsIn K mainGlobals "number_of" = some (some (.ref f2))) (l2 : K.lookup f2 = some ⟨oc2, od2, .func (PySem.W.fnOf "number_of" "number_of" (defArgs (topS 3)) (defBody (topS 3)) (defScope (topS 3)) .none kV2 dc2 pm2 an2 cd2 ct2), sl2⟩) (c2 : PySem.W.codeIn K cd2 "number_of" = true) (k2 : PySem.W.keepIn K (.ref f2) = true)
    (a3 : PySem.W.nsIn K mainGlobals "punch_in" = some (some (.ref f3))) (l3 : K.lookup f3 = some ⟨oc3, od3, .func (PySem.W.fnOf "punch_in" "punch_in" (defArgs (topS 4)) (defBody (topS 4)) (defScope (topS 4)) .none kV3 dc3 pm3 an3 cd3 ct3), sl3⟩) (c3 : PySem.W.codeIn K cd3 "punch_in" = true) (k3 : PySem.W.keepIn K (.ref f3) = true)
    (a4 : PySem.W.nsIn K mainGlobals "_law_whole" = some (some (.ref f4))) (l4 : K.lookup f4 = some ⟨oc4, od4, .func (PySem.W.fnOf "_law_whole" "_law_whole" (defArgs (topS 6)) (defBody (topS 6)) (defScope (topS 6)) .none kV4 dc4 pm4 an4 cd4 ct4), sl4⟩) (c4 : PySem.W.codeIn K cd4 "_law_whole" = true) (k4 : PySem.W.keepIn K (.ref f4) = true)
    (a5 : PySem.W.nsIn K mainGlobals "_law_mixed" = some (some (.ref f5))) (l5 : K.lookup f5 = some ⟨oc5, od5, .func (PySem.W.fnOf "_law_mixed" "_law_mixed" (defArgs (topS 7)) (defBody (topS 7)) (defScope (topS 7)) .none kV5 dc5 pm5 an5 cd5 ct5), sl5⟩) (c5 : PySem.W.codeIn K cd5 "_law_mixed" = true) (k5 : PySem.W.keepIn K (.ref f5) = true)
    (a6 : PySem.W.nsIn K mainGlobals "_law_card" = some (some (.ref f6))) (l6 : K.lookup f6 = some ⟨oc6, od6, .func (PySem.W.fnOf "_law_card" "_law_card" (defArgs (topS 8)) (defBody (topS 8)) (defScope (topS 8)) .none kV6 dc6 pm6 an6 cd6 ct6), sl6⟩) (c6 : PySem.W.codeIn K cd6 "_law_card" = true) (k6 : PySem.W.keepIn K (.ref f6) = true)
    (a7 : PySem.W.nsIn K mainGlobals "_law_field" = some (some (.ref f7))) (l7 : K.lookup f7 = some ⟨oc7, od7, .func (PySem.W.fnOf "_law_field" "_law_field" (defArgs (topS 9)) (defBody (topS 9)) (defScope (topS 9)) .none kV7 dc7 pm7 an7 cd7 ct7), sl7⟩) (c7 : PySem.W.codeIn K cd7 "_law_field" = true) (k7 : PySem.W.keepIn K (.ref f7) = true)
    (a8 : PySem.W.nsIn K mainGlobals "_law_power" = some (some (.ref f8))) (l8 : K.lookup f8 = some ⟨oc8, od8, .func (PySem.W.fnOf "_law_power" "_law_power" (defArgs (topS 10)) (defBody (topS 10)) (defScope (topS 10)) .none kV8 dc8 pm8 an8 cd8 ct8), sl8⟩) (c8 : PySem.W.codeIn K cd8 "_law_power" = true) (k8 : PySem.W.keepIn K (.ref f8) = true)
    (a9 : PySem.W.nsIn K mainGlobals "_law_value" = some (some (.ref f9))) (l9 : K.lookup f9 = some ⟨oc9, od9, .func (PySem.W.fnOf "_law_value" "_law_value" (defArgs (topS 11)) (defBody (topS 11)) (defScope (topS 11)) .none kV9 dc9 pm9 an9 cd9 ct9), sl9⟩) (c9 : PySem.W.codeIn K cd9 "_law_value" = true) (k9 : PySem.W.keepIn K (.ref f9) = true)
    (a10 : PySem.W.nsIn K mainGlobals "_law_due" = some (some (.ref f10))) (l10 : K.lookup f10 = some ⟨oc10, od10, .func (PySem.W.fnOf "_law_due" "_law_due" (defArgs (topS 12)) (defBody (topS 12)) (defScope (topS 12)) .none kV10 dc10 pm10 an10 cd10 ct10), sl10⟩) (c10 : PySem.W.codeIn K cd10 "_law_due" = true) (k10 : PySem.W.keepIn K (.ref f10) = true)
    (a11 : PySem.W.nsIn K mainGlobals "law" = some (some (.ref f11))) (l11 : K.lookup f11 = some ⟨oc11, od11, .func (PySem.W.fnOf "law" "law" (defArgs (topS 13)) (defBody (topS 13)) (defScope (topS 13)) .none kV11 dc11 pm11 an11 cd11 ct11), sl11⟩) (c11 : PySem.W.codeIn K cd11 "law" = true) (k11 : PySem.W.keepIn K (.ref f11) = true)
    (z_bool : PySem.W.nsIn K mainGlobals "bool" = some none)
    (z_divmod : PySem.W.nsIn K mainGlobals "divmod" = some none)
    (z_enumerate : PySem.W.nsIn K mainGlobals "enumerate" = some none)
    (z_int : PySem.W.nsIn K mainGlobals "int" = some none)
    (z_isinstance : PySem.W.nsIn K mainGlobals "isinstance" = some none)
    (z_len : PySem.W.nsIn K mainGlobals "len" = some none)
    (z_min : PySem.W.nsIn K mainGlobals "min" = some none)
    (z_range : PySem.W.nsIn K mainGlobals "range" = some none)
    (z_str : PySem.W.nsIn K mainGlobals "str" = some none)
    (u_FIGURES : PySem.W.nsIn K mainGlobals "FIGURES" = some (some (.str ("0123456789" : Str) t_FIGURES)))
    : ∃ fd : FuncData, (∀ (s : Shared) (v : Value), BindsTo s fd ⟨[v], []⟩ [("_law_script", v)]) ∧ ∀ base : Heap, K.In base → base.Ns mainGlobals mg → FnOk l.prog w K mg base CX0 3 fa fd ["_law_script"] (sp_law K) := by
  have e := hfa.symm.trans (PySem.W.mg_of X G a11)
  cases e
  have T : Txt K mg := ⟨PySem.W.mg_none_of X G z_bool, PySem.W.mg_none_of X G z_divmod, PySem.W.mg_none_of X G z_enumerate, PySem.W.mg_none_of X G z_int, PySem.W.mg_none_of X G z_isinstance, PySem.W.mg_none_of X G z_len, PySem.W.mg_none_of X G z_min, PySem.W.mg_none_of X G z_range, PySem.W.mg_none_of X G z_str, ⟨_, PySem.W.mg_of X G u_FIGURES⟩⟩
  refine ⟨PySem.W.fnOf "law" "law" (defArgs (topS 13)) (defBody (topS 13)) (defScope (topS 13)) .none kV11 dc11 pm11 an11 cd11 ct11, fun s v => .of_eq rfl, fun base _ _ => ?_⟩
  have C_part_of := ok_part_of (P := l.prog) (w := w) (base := base) (fun_mk (st := topS 2) l1 c1 k1) (PySem.W.mg_of X G a1) T
  have C_number_of := ok_number_of (P := l.prog) (w := w) (base := base) (fun_mk (st := topS 3) l2 c2 k2) (PySem.W.mg_of X G a2) T C_part_of
  have C_punch_in := ok_punch_in (P := l.prog) (w := w) (base := base) (fun_mk (st := topS 4) l3 c3 k3) (PySem.W.mg_of X G a3) T
  have C_law_whole := ok_law_whole (P := l.prog) (w := w) (base := base) (fun_mk (st := topS 6) l4 c4 k4) (PySem.W.mg_of X G a4) T
  have C_law_mixed := ok_law_mixed (P := l.prog) (w := w) (base := base) (fun_mk (st := topS 7) l5 c5 k5) (PySem.W.mg_of X G a5) T
  have C_law_card := ok_law_card (P := l.prog) (w := w) (base := base) (fun_mk (st := topS 8) l6 c6 k6) (PySem.W.mg_of X G a6) T C_law_mixed
  have C_law_field := ok_law_field (P := l.prog) (w := w) (base := base) (fun_mk (st := topS 9) l7 c7 k7) (PySem.W.mg_of X G a7) T C_law_mixed
  have C_law_power := ok_law_power (P := l.prog) (w := w) (base := base) (fun_mk (st := topS 10) l8 c8 k8) (PySem.W.mg_of X G a8) T
  have C_law_value := ok_law_value (P := l.prog) (w := w) (base := base) (fun_mk (st := topS 11) l9 c9 k9) (PySem.W.mg_of X G a9) T C_law_power
  have C_law_due := ok_law_due (P := l.prog) (w := w) (base := base) (fun_mk (st := topS 12) l10 c10 k10) (PySem.W.mg_of X G a10) T C_law_power
  exact okf_law (P := l.prog) (w := w) (base := base) (fun_mk (st := topS 13) l11 c11 k11) T C_number_of C_punch_in C_law_whole C_law_mixed C_law_card C_law_field C_law_power C_law_value C_law_due
theorem law_end {K : Fr} {H : Hp} {a : Addr} {ns : List Int} {E : XK} (hl : ns.length ≤ 63) (hS : SqL K H a (ns.map V.int)) : sp_law K [.ref a] H (fun v _ => v = .bl true) E :=
  ⟨H, ⟨ns⟩, .ref a, rfl, Same.refl _, ⟨a, rfl, hS⟩, fun v Z2 H2 st h => by rw [show v = V.bl _ from h, law_true _ hl]⟩

end Cd
open PySem PySem.W PyProof.Rows
set_option maxRecDepth 100000 in
set_option maxHeartbeats 0 in
theorem PySem.Challenge.cw_cardshop_k05_punched_holds : PySem.Challenge.rw_cardshop_k05_punched.Holds := by
  w_on; o_law; k_head; (case hw => w_witness2)
  k_fill
  refine L2.walk_of (l := PySem.Challenge.rw_cardshop_k05_punched) (n := 63) (k := 3) (x := "_law_script") (CX := fun _ => L2.CX0) (sp := fun w => Cd.sp_law _) rfl (by decide) rfl ⟨rfl, by decide, by decide⟩ (fun w h Y => PySem.W.kIn_of Y) ?F (fun _ H a ns hl _ hS => Cd.law_end hl hS) (fun _ _ _ _ _ z => z)
  case F =>
    intro w mg fa h KX G hmg
    refine' Cd.all_mk KX G hmg ?a1 ?l1 ?c1 ?k1 ?a2 ?l2 ?c2 ?k2 ?a3 ?l3 ?c3 ?k3 ?a4 ?l4 ?c4 ?k4 ?a5 ?l5 ?c5 ?k5 ?a6 ?l6 ?c6 ?k6 ?a7 ?l7 ?c7 ?k7 ?a8 ?l8 ?c8 ?k8 ?a9 ?l9 ?c9 ?k9 ?a10 ?l10 ?c10 ?k10 ?a11 ?l11 ?c11 ?k11 ?z_bool ?z_divmod ?z_enumerate ?z_int ?z_isinstance ?z_len ?z_min ?z_range ?z_str ?u_FIGURES
    (case a1 => k_is)
    (case l1 => k_is)
    (case c1 => k_is)
    (case k1 => k_is)
    (case a2 => k_is)
    (case l2 => k_is)
    (case c2 => k_is)
    (case k2 => k_is)
    (case a3 => k_is)
    (case l3 => k_is)
    (case c3 => k_is)
    (case k3 => k_is)
    (case a4 => k_is)
    (case l4 => k_is)
    (case c4 => k_is)
    (case k4 => k_is)
    (case a5 => k_is)
    (case l5 => k_is)
    (case c5 => k_is)
    (case k5 => k_is)
    (case a6 => k_is)
    (case l6 => k_is)
    (case c6 => k_is)
    (case k6 => k_is)
    (case a7 => k_is)
    (case l7 => k_is)
    (case c7 => k_is)
    (case k7 => k_is)
    (case a8 => k_is)
    (case l8 => k_is)
    (case c8 => k_is)
    (case k8 => k_is)
    (case a9 => k_is)
    (case l9 => k_is)
    (case c9 => k_is)
    (case k9 => k_is)
    (case a10 => k_is)
    (case l10 => k_is)
    (case c10 => k_is)
    (case k10 => k_is)
    (case a11 => k_is)
    (case l11 => k_is)
    (case c11 => k_is)
    (case k11 => k_is)
    (case z_bool => k_is)
    (case z_divmod => k_is)
    (case z_enumerate => k_is)
    (case z_int => k_is)
    (case z_isinstance => k_is)
    (case z_len => k_is)
    (case z_min => k_is)
    (case z_range => k_is)
    (case z_str => k_is)
    (case u_FIGURES => k_is)
#print axioms PySem.Challenge.cw_cardshop_k05_punched_holds
