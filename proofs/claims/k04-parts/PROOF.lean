import PyProof.Rows.All
import Wide.All
import OpenK.AllK
import Wide.FinOn
import HandS.ForMost
import HandS.IsInst
import HandS.StrMore
import HandS.Wide
import HandS.TryOnly
import HandS.WordsExc
import HandS.Style
import HandS.More
import HandS.Evl
import KE.IntTextLaws
import PySem.Challenge.RW_cardshop_k04_parts_and_numbers
set_option Elab.async false
set_option linter.all false
set_option maxRecDepth 100000
set_option maxHeartbeats 4000000
/-! ## The ground: data told by heaps, with a ghost heap of what stays -/
namespace PySem
theorem Paired.pImp {α β : Type} {F G : α → β → Prop} (f : ∀ a b, F a b → G a b) : ∀ {l : List α} {m : List β}, Paired F l m → Paired G l m
  | _, _, .nil => .nil
  | _, _, .cons r t => .cons (f _ _ r) (Paired.pImp f t)
theorem Paired.pLen {α β : Type} {F : α → β → Prop} : ∀ {l : List α} {m : List β}, Paired F l m → l.length = m.length
  | _, _, .nil => rfl
  | _, _, .cons _ t => congrArg (· + 1) (Paired.pLen t)
theorem Paired.pApp {α β : Type} {F : α → β → Prop} : ∀ {l : List α} {m : List β} {l' : List α} {m' : List β}, Paired F l m → Paired F l' m' → Paired F (l ++ l') (m ++ m')
  | _, _, _, _, .nil, h => h
  | _, _, _, _, .cons r t, h => .cons r (Paired.pApp t h)
theorem Paired.pDrop {α β : Type} {F : α → β → Prop} : ∀ {l : List α} {m : List β} (n : Nat), Paired F l m → Paired F (l.drop n) (m.drop n)
  | _, _, 0, h => h
  | _, _, _ + 1, .nil => .nil
  | _, _, n + 1, .cons _ t => Paired.pDrop n t
theorem Paired.pTake {α β : Type} {F : α → β → Prop} : ∀ {l : List α} {m : List β} (n : Nat), Paired F l m → Paired F (l.take n) (m.take n)
  | _, _, 0, _ => .nil
  | _, _, _ + 1, .nil => .nil
  | _, _, n + 1, .cons r t => .cons r (Paired.pTake n t)
theorem Paired.pAt {α β : Type} {F : α → β → Prop} : ∀ {l : List α} {m : List β} {i : Nat} {b : β}, Paired F l m → m[i]? = some b → ∃ a, l[i]? = some a ∧ F a b
  | _, _, _, _, .nil, h => by simp at h
  | _, _, 0, _, .cons r _, h => by simp at h; subst h; exact ⟨_, rfl, r⟩
  | _, _, i + 1, _, .cons _ t, h => by
    obtain ⟨a, h1, h2⟩ := Paired.pAt (i := i) t (by simpa using h)
    exact ⟨a, by simpa using h1, h2⟩
theorem Paired.pSet {α β : Type} {F : α → β → Prop} {a : α} {b : β} (r : F a b) : ∀ {l : List α} {m : List β} (i : Nat), Paired F l m → Paired F (l.set i a) (m.set i b)
  | _, _, _, .nil => .nil
  | _, _, 0, .cons _ t => .cons r t
  | _, _, i + 1, .cons q t => .cons q (Paired.pSet r i t)
theorem Paired.pRev {α β : Type} {F : α → β → Prop} : ∀ {l : List α} {m : List β}, Paired F l m → Paired F l.reverse m.reverse
  | _, _, .nil => .nil
  | _, _, .cons r t => by
    rw [List.reverse_cons, List.reverse_cons]
    exact Paired.pApp (Paired.pRev t) (.cons r .nil)
end PySem
namespace Cd
open PySem L2
abbrev Fr := PySem.W.Frag
/-! ### what a value tells -/
class Py (α : Type) where
  R : Fr → Hp → V → α → Prop
  mono : ∀ {K : Fr} {Z Z' : Hp} {v : V} {a : α}, Same Z Z' → R K Z v a → R K Z' v a
/-- a value that needs no heap -/
class Sc (α : Type) where
  emb : α → V
instance : Sc Int := ⟨V.int⟩
instance : Sc Bool := ⟨V.bl⟩
instance : Sc Str := ⟨V.str⟩
instance : Sc Unit := ⟨fun _ => V.non⟩
instance (priority := low) {α : Type} [Sc α] : Py α := ⟨fun _ _ v a => v = Sc.emb a, fun _ h => h⟩
instance {α : Type} [Py α] : Py (Option α) where
  R K Z v o := match o with
    | none => v = .non
    | some a => Py.R K Z v a
  mono := fun {K Z Z' v a} s h => by
    cases a with
    | none => exact h
    | some a => exact Py.mono s h
instance {α : Type} [Py α] : Py (List α) where
  R K Z v l := ∃ a xs, v = .ref a ∧ Z a = some (.lst xs) ∧ Paired (Py.R K Z) xs l
  mono := fun {K Z Z' v l} s h => by
    obtain ⟨a, xs, e, hz, p⟩ := h
    exact ⟨a, xs, e, s _ _ hz, Paired.pImp (fun _ _ r => Py.mono s r) p⟩
instance {α β : Type} [Py α] [Py β] : Py (α × β) where
  R K Z v p := ∃ a x y, v = .ref a ∧ Z a = some (.tup [x, y]) ∧ Py.R K Z x p.1 ∧ Py.R K Z y p.2
  mono := fun {K Z Z' v l} s h => by
    obtain ⟨a, x, y, e, hz, p, q⟩ := h
    exact ⟨a, x, y, e, s _ _ hz, Py.mono s p, Py.mono s q⟩
/-- the script -/
structure Scr where
  ns : List Int
instance : Py Scr where
  R K Z v l := ∃ a, v = .ref a ∧ SqL K Z a (l.ns.map V.int)
  mono := fun {K Z Z' v l} s h => by
    obtain ⟨a, e, hz⟩ := h
    exact ⟨a, e, s.seq hz⟩
/-! ### a step of heap and ghost -/
structure Step (Z H Z' H' : Hp) : Prop where
  hh : Same H H'
  zz : Same Z Z'
  zh : Same Z' H'
  fr : ∀ a o, H a = some o → Z' a = Z a
section
variable {K : Fr} {Z H Z' H' Z2 H2 Z0 H0 : Hp}
theorem Step.refl (s : Same Z H) : Step Z H Z H := ⟨Same.refl _, Same.refl _, s, fun _ _ _ => rfl⟩
theorem Step.trans (a : Step Z H Z' H') (b : Step Z' H' Z2 H2) : Step Z H Z2 H2 :=
  ⟨a.hh.trans b.hh, a.zz.trans b.zz, b.zh, fun x o e => (b.fr x o (a.hh x o e)).trans (a.fr x o e)⟩
/-- a new object, told -/
theorem Step.new {p : Addr} {o : HO} (s : Same Z H) (hp : H p = none) : Step Z H (upd Z p o) (upd H p o) := by
  have hz : Z p = none := s.free hp
  refine ⟨fun b u e => ?_, fun b u e => ?_, fun b u e => ?_, fun b u e => ?_⟩
  · rw [upd_ne (ne_of_none e hp)]; exact e
  · rw [upd_ne (ne_of_none e hz)]; exact e
  · by_cases q : b = p
    · subst q; rw [upd_same] at e ⊢; exact e
    · rw [upd_ne q] at e ⊢; exact s b u e
  · rw [upd_ne (ne_of_none e hp)]
/-- a new object, kept for oneself -/
theorem Step.own {p : Addr} {o : HO} (s : Same Z H) (hp : H p = none) : Step Z H Z (upd H p o) := by
  refine ⟨fun b u e => ?_, Same.refl _, fun b u e => ?_, fun _ _ _ => rfl⟩
  · rw [upd_ne (ne_of_none e hp)]; exact e
  · have q := s b u e
    rw [upd_ne (ne_of_none q hp)]; exact q
/-- one's own object, told from now on -/
theorem Step.tell {p : Addr} {o : HO} (c : Step Z0 H0 Z H) (hp : H p = some o) (hz : Z p = none) (h0 : H0 p = none) : Step Z0 H0 (upd Z p o) H ∧ Same Z (upd Z p o) := by
  have s2 : Same Z (upd Z p o) := fun b u e => by rw [upd_ne (ne_of_none e hz)]; exact e
  refine ⟨⟨c.hh, c.zz.trans s2, fun b u e => ?_, fun b u e => ?_⟩, s2⟩
  · by_cases q : b = p
    · subst q; rw [upd_same] at e; rw [hp]; exact e
    · rw [upd_ne q] at e; exact c.zh b u e
  · rw [upd_ne (ne_of_none e h0)]; exact c.fr b u e
/-- one's own object is changed -/
theorem Step.mut {p : Addr} {o : HO} (c : Step Z0 H0 Z H) (hz : Z p = none) (h0 : H0 p = none) : Step Z0 H0 Z (upd H p o) := by
  refine ⟨fun b u e => ?_, c.zz, fun b u e => ?_, c.fr⟩
  · rw [upd_ne (ne_of_none e h0)]; exact c.hh b u e
  · rw [upd_ne (ne_of_none e hz)]; exact c.zh b u e
/-- a list of one's own: it stands in the heap, the ghost knows nothing of it -/
structure Own {α : Type} [Py α] (K : Fr) (H0 Z H : Hp) (l : Addr) (m : List α) : Prop where
  ex : ∃ xs, H l = some (.lst xs) ∧ Paired (Py.R K Z) xs m
  nz : Z l = none
  n0 : H0 l = none
theorem Own.step {α : Type} [Py α] {l : Addr} {m : List α} (o : Own K H0 Z H l m) (st : Step Z H Z' H') : Own K H0 Z' H' l m := by
  obtain ⟨⟨xs, h, p⟩, nz, n0⟩ := o
  exact ⟨⟨xs, st.hh _ _ h, Paired.pImp (fun _ _ r => Py.mono st.zz r) p⟩, (st.fr _ _ h).trans nz, n0⟩
theorem Own.far {α : Type} [Py α] {l q : Addr} {u : HO} {m : List α} (o : Own K H0 Z H l m) (ne : l ≠ q) : Own K H0 Z (upd H q u) l m := by
  obtain ⟨⟨xs, h, p⟩, nz, n0⟩ := o
  exact ⟨⟨xs, by rw [upd_ne ne]; exact h, p⟩, nz, n0⟩
theorem Own.tell {α : Type} [Py α] {l : Addr} {m : List α} (o : Own K H0 Z H l m) (c : Step Z0 H0 Z H) : ∃ Z', Step Z0 H0 Z' H ∧ Same Z Z' ∧ Py.R K Z' (.ref l) m ∧ ∀ q, q ≠ l → Z' q = Z q := by
  obtain ⟨⟨xs, h, p⟩, nz, n0⟩ := o
  obtain ⟨c', s⟩ := c.tell h nz n0
  exact ⟨_, c', s, ⟨l, xs, rfl, upd_same, Paired.pImp (fun _ _ r => Py.mono s r) p⟩, fun q hq => upd_ne hq⟩
theorem Own.zfar {α : Type} [Py α] {l : Addr} {m : List α} (o : Own K H0 Z H l m) (s : Same Z Z') (hz : Z' l = Z l) : Own K H0 Z' H l m := by
  obtain ⟨⟨xs, h, p⟩, nz, n0⟩ := o
  exact ⟨⟨xs, h, Paired.pImp (fun _ _ r => Py.mono s r) p⟩, hz.trans nz, n0⟩
theorem Own.at {α : Type} [Py α] {l : Addr} {m : List α} (o : Own K H0 Z H l m) : ∃ u, H l = some u := let ⟨⟨_, h, _⟩, _, _⟩ := o; ⟨_, h⟩
theorem Own.ne_new {α : Type} [Py α] {l p : Addr} {m : List α} (o : Own K H0 Z H l m) (h : H p = none) : l ≠ p := let ⟨_, h1⟩ := o.at; ne_of_none h1 h
/-- a new list comes: told at once, or kept -/
def New {α : Type} [Py α] (K : Fr) (Z H : Hp) (Q : VK) (m : List α) : Prop :=
  ∀ p xs Z' H', Step Z H Z' H' → H p = none → H' p = some (.lst xs) → Z' p = none → Paired (Py.R K Z') xs m → Q (.ref p) H'
/-- something comes -/
def Tel {α : Type} [Py α] (K : Fr) (Z H : Hp) (Q : VK) (m : α) : Prop :=
  ∀ v Z' H', Step Z H Z' H' → Py.R K Z' v m → Q v H'
theorem New.tel {α : Type} [Py α] {Q : VK} {m : List α} (k : Tel K Z H Q m) : New K Z H Q m := fun p xs Z' H' st hp hl hz pr => by
  obtain ⟨c', s⟩ := st.tell hl hz hp
  exact k _ _ _ c' ⟨p, xs, rfl, upd_same, Paired.pImp (fun _ _ r => Py.mono s r) pr⟩
theorem New.own {α : Type} [Py α] {Q : VK} {m : List α} (c : Step Z0 H0 Z H) (k : ∀ p Z' H', Step Z H Z' H' → H p = none → Own K H0 Z' H' p m → Q (.ref p) H') : New K Z H Q m := fun p xs Z' H' st hp hl hz pr =>
  k p Z' H' st hp ⟨⟨xs, hl, pr⟩, hz, c.hh.free hp⟩
/-- a list laid anew -/
theorem New.lay {α : Type} [Py α] {Q : VK} {m : List α} {xs : List V} (s : Same Z H) (pr : Paired (Py.R K Z) xs m) (k : New K Z H Q m) : ∀ p, H p = none → Q (.ref p) (upd H p (.lst xs)) := fun p hp =>
  k p xs Z _ (Step.own s hp) hp upd_same (s.free hp) pr
end
/-! ### lists of plain values -/
theorem paired_emb {α : Type} [Sc α] {K : Fr} {Z : Hp} : ∀ {xs : List V} {m : List α}, Paired (Py.R K Z) xs m → xs = m.map Sc.emb
  | _, _, .nil => rfl
  | _, _, .cons r t => by
    rw [List.map_cons, ← paired_emb t, show _ = Sc.emb _ from r]
theorem paired_of {α : Type} [Sc α] {K : Fr} {Z : Hp} : ∀ (m : List α), Paired (Py.R K Z) (m.map Sc.emb) m
  | [] => .nil
  | _ :: r => .cons rfl (paired_of r)
end Cd

set_option Elab.async false
set_option linter.all false
set_option maxRecDepth 100000
set_option maxHeartbeats 4000000
namespace Cd
open PySem L2
/-! ### items and pieces -/
def inR (n : Nat) (i : Int) : Prop := -(n : Int) ≤ i ∧ i < n
theorem ixN_some {n : Nat} {i : Int} (h : inR n i) : ∃ j, ixN n i = some j ∧ j < n := by
  obtain ⟨h1, h2⟩ := h
  unfold ixN
  by_cases h0 : 0 ≤ i
  · rw [if_pos h0, if_pos h2]
    exact ⟨_, rfl, by omega⟩
  · rw [if_neg h0, if_pos h1]
    exact ⟨_, rfl, by omega⟩
def getI {α : Type} [Inhabited α] (l : List α) (i : Int) : α := (atI l i).getD default
theorem atI_get {α : Type} [Inhabited α] {l : List α} {i : Int} (h : inR l.length i) : atI l i = some (getI l i) := by
  obtain ⟨j, hj, hl⟩ := ixN_some h
  have e : atI l i = some l[j] := by
    unfold atI
    rw [hj]
    exact List.getElem?_eq_getElem hl
  unfold getI
  rw [e]
  rfl
/-- the sign at a place -/
def chS (z : Str) (i : Int) : Str := ⟨#[(atI z.cps.toList i).getD 0]⟩
def cutL {α : Type} (xs : List α) (lo hi : Option Int) : List α := (xs.drop (HT.sIx xs.length 0 lo)).take (HT.sIx xs.length xs.length hi - HT.sIx xs.length 0 lo)
end Cd
namespace PySem
open L2 Cd
theorem Paired.pCut {α : Type} {F : V → α → Prop} {xs : List V} {m : List α} (p : Paired F xs m) (lo hi : Option Int) : Paired F (cutV xs lo hi) (cutL m lo hi) := by
  unfold cutV cutL
  rw [p.pLen]
  exact (p.pDrop _).pTake _
end PySem
namespace Cd
open PySem L2
theorem atI_paired {α : Type} {F : V → α → Prop} {xs : List V} {m : List α} {i : Int} {a : α} (p : Paired F xs m) (h : atI m i = some a) : ∃ x, atI xs i = some x ∧ F x a := by
  unfold atI at h ⊢
  rw [p.pLen]
  cases e : ixN m.length i with
  | none => rw [e] at h; cases h
  | some j =>
    rw [e] at h
    exact p.pAt h
section
variable {K : Fr} {Z H Z0 H0 : Hp} {Q : VK}
theorem pyL {α : Type} [Py α] {v : V} {l : List α} (h : Py.R K Z v l) : ∃ a xs, v = .ref a ∧ Z a = some (.lst xs) ∧ Paired (Py.R K Z) xs l := h
/-! ### what the operations ask, over data -/
theorem k_eqI {i j : Int} (k : Q (.bl (decide (i = j))) H) : rEq (.int i) (.int j) H Q := by
  refine ⟨rfl, ?_⟩
  have e : decide ((V.int i) = V.int j) = decide (i = j) := decide_eq_decide.mpr ⟨V.int.inj, fun h => by rw [h]⟩
  rw [e]; exact k
theorem k_neI {i j : Int} (k : Q (.bl (!decide (i = j))) H) : rNe (.int i) (.int j) H Q := by
  refine ⟨rfl, ?_⟩
  have e : decide ((V.int i) = V.int j) = decide (i = j) := decide_eq_decide.mpr ⟨V.int.inj, fun h => by rw [h]⟩
  rw [e]; exact k
theorem k_eqS {i j : Str} (k : Q (.bl (decide (i = j))) H) : rEq (.str i) (.str j) H Q := by
  refine ⟨rfl, ?_⟩
  have e : decide ((V.str i) = V.str j) = decide (i = j) := decide_eq_decide.mpr ⟨V.str.inj, fun h => by rw [h]⟩
  rw [e]; exact k
theorem k_neS {i j : Str} (k : Q (.bl (!decide (i = j))) H) : rNe (.str i) (.str j) H Q := by
  refine ⟨rfl, ?_⟩
  have e : decide ((V.str i) = V.str j) = decide (i = j) := decide_eq_decide.mpr ⟨V.str.inj, fun h => by rw [h]⟩
  rw [e]; exact k
theorem k_eqB {i j : Bool} (k : Q (.bl (decide (i = j))) H) : rEq (.bl i) (.bl j) H Q := by
  refine ⟨rfl, ?_⟩
  have e : decide ((V.bl i) = V.bl j) = decide (i = j) := decide_eq_decide.mpr ⟨V.bl.inj, fun h => by rw [h]⟩
  rw [e]; exact k
theorem k_neB {i j : Bool} (k : Q (.bl (!decide (i = j))) H) : rNe (.bl i) (.bl j) H Q := by
  refine ⟨rfl, ?_⟩
  have e : decide ((V.bl i) = V.bl j) = decide (i = j) := decide_eq_decide.mpr ⟨V.bl.inj, fun h => by rw [h]⟩
  rw [e]; exact k
theorem k_ixS {z : Str} {i : Int} (hs : z.length ≤ sizeLine) (hi : inR z.length i) (k : Q (.str (chS z i)) H) : rIxS (.str z) (.int i) H Q := by
  have e : z.length = z.cps.toList.length := by unfold Str.length; simp
  have h : atI z.cps.toList i = some (getI z.cps.toList i) := atI_get (by rw [← e]; exact hi)
  refine ⟨z, i, getI z.cps.toList i, rfl, rfl, hs, h, ?_⟩
  have e2 : chS z i = ⟨#[getI z.cps.toList i]⟩ := by unfold chS; rw [h]; rfl
  rw [← e2]; exact k
theorem k_ixL {α : Type} [Py α] [Inhabited α] {v : V} {l : List α} {i : Int} (zh : Same Z H) (h : Py.R K Z v l) (hi : inR l.length i) (k : ∀ y, Py.R K Z y (getI l i) → Q y H) : rIxL K v (.int i) H Q := by
  obtain ⟨a, xs, rfl, hz, p⟩ := h
  obtain ⟨x, hx, hf⟩ := atI_paired p (atI_get hi)
  exact ⟨a, xs, i, x, rfl, rfl, SqL.of (zh _ _ hz), hx, k x hf⟩
theorem k_ixLs {α : Type} [Sc α] [Inhabited α] {v : V} {l : List α} {i : Int} (zh : Same Z H) (h : Py.R K Z v l) (hi : inR l.length i) (k : Q (Sc.emb (getI l i)) H) : rIxL K v (.int i) H Q :=
  k_ixL zh h hi fun y hy => by
    obtain rfl := (show y = Sc.emb (getI l i) from hy)
    exact k
theorem k_ixO {α : Type} [Py α] [Inhabited α] {p : Addr} {l : List α} {i : Int} (o : Own K H0 Z H p l) (hi : inR l.length i) (k : ∀ y, Py.R K Z y (getI l i) → Q y H) : rIxL K (.ref p) (.int i) H Q := by
  obtain ⟨⟨xs, hz, pr⟩, _, _⟩ := o
  obtain ⟨x, hx, hf⟩ := atI_paired pr (atI_get hi)
  exact ⟨p, xs, i, x, rfl, rfl, SqL.of hz, hx, k x hf⟩
theorem k_ixOs {α : Type} [Sc α] [Inhabited α] {p : Addr} {l : List α} {i : Int} (o : Own K H0 Z H p l) (hi : inR l.length i) (k : Q (Sc.emb (getI l i)) H) : rIxL K (.ref p) (.int i) H Q :=
  k_ixO o hi fun y hy => by
    obtain rfl := (show y = Sc.emb (getI l i) from hy)
    exact k
/-- an item of the script -/
theorem k_ixR {v : V} {l : Scr} {i : Int} (zh : Same Z H) (h : Py.R K Z v l) (hi : inR l.ns.length i) (k : Q (.int (getI l.ns i)) H) : rIxL K v (.int i) H Q := by
  obtain ⟨a, rfl, hz⟩ := h
  refine ⟨a, l.ns.map V.int, i, .int (getI l.ns i), rfl, rfl, zh.seq hz, ?_, k⟩
  have h1 := atI_get hi
  unfold atI at h1 ⊢
  rw [List.length_map]
  cases e : ixN l.ns.length i with
  | none => rw [e] at h1; cases h1
  | some j =>
    rw [e] at h1
    show (l.ns.map V.int)[j]? = _
    have h2 : l.ns[j]? = some (getI l.ns i) := h1
    rw [List.getElem?_map, h2]
    rfl
/-- the first and the second of a pair -/
theorem k_fst {α β : Type} [Py α] [Py β] {v : V} {p : α × β} (zh : Same Z H) (h : Py.R K Z v p) (k : ∀ y, Py.R K Z y p.1 → Q y H) : rIxT K v (.int 0) H Q := by
  obtain ⟨a, x, y, rfl, hz, hx, hy⟩ := h
  exact ⟨a, [x, y], 0, x, rfl, rfl, SqT.of (zh _ _ hz), rfl, k x hx⟩
theorem k_snd {α β : Type} [Py α] [Py β] {v : V} {p : α × β} (zh : Same Z H) (h : Py.R K Z v p) (k : ∀ y, Py.R K Z y p.2 → Q y H) : rIxT K v (.int 1) H Q := by
  obtain ⟨a, x, y, rfl, hz, hx, hy⟩ := h
  exact ⟨a, [x, y], 1, y, rfl, rfl, SqT.of (zh _ _ hz), rfl, k y hy⟩
theorem k_fstS {α β : Type} [Sc α] [Py β] {v : V} {p : α × β} (zh : Same Z H) (h : Py.R K Z v p) (k : Q (Sc.emb p.1) H) : rIxT K v (.int 0) H Q :=
  k_fst zh h fun y hy => by obtain rfl := (show y = Sc.emb p.1 from hy); exact k
theorem k_sndS {α β : Type} [Py α] [Sc β] {v : V} {p : α × β} (zh : Same Z H) (h : Py.R K Z v p) (k : Q (Sc.emb p.2) H) : rIxT K v (.int 1) H Q :=
  k_snd zh h fun y hy => by obtain rfl := (show y = Sc.emb p.2 from hy); exact k
theorem k_len {α : Type} [Py α] {v : V} {l : List α} (zh : Same Z H) (h : Py.R K Z v l) (k : Q (.int (l.length : Int)) H) : ∃ p ys, [v] = [V.ref p] ∧ (SqL K H p ys ∨ SqT K H p ys) ∧ Q (.int ys.length) H := by
  obtain ⟨a, xs, rfl, hz, p⟩ := h
  exact ⟨a, xs, rfl, .inl (SqL.of (zh _ _ hz)), by rw [p.pLen]; exact k⟩
theorem k_lenO {α : Type} [Py α] {p : Addr} {l : List α} (o : Own K H0 Z H p l) (k : Q (.int (l.length : Int)) H) : ∃ q ys, [V.ref p] = [V.ref q] ∧ (SqL K H q ys ∨ SqT K H q ys) ∧ Q (.int ys.length) H := by
  obtain ⟨⟨xs, hz, pr⟩, _, _⟩ := o
  exact ⟨p, xs, rfl, .inl (SqL.of hz), by rw [pr.pLen]; exact k⟩
theorem k_lenR {v : V} {l : Scr} (zh : Same Z H) (h : Py.R K Z v l) (k : Q (.int (l.ns.length : Int)) H) : ∃ p ys, [v] = [V.ref p] ∧ (SqL K H p ys ∨ SqT K H p ys) ∧ Q (.int ys.length) H := by
  obtain ⟨a, rfl, hz⟩ := h
  exact ⟨a, _, rfl, .inl (zh.seq hz), by rw [List.length_map]; exact k⟩
/-- a new pair -/
theorem k_pair {α β : Type} [Py α] [Py β] {x y : V} {a : α} {b : β} (zh : Same Z H) (hx : Py.R K Z x a) (hy : Py.R K Z y b) (k : Tel K Z H Q (a, b)) : ([x, y] : List V).length ≤ sizeLine ∧ ∀ p, H p = none → Q (.ref p) (upd H p (.tup [x, y])) := by
  refine ⟨by show 2 ≤ sizeLine; decide, fun p hp => ?_⟩
  have st := Step.new (o := .tup [x, y]) zh hp
  exact k _ _ _ st ⟨p, x, y, rfl, upd_same, Py.mono st.zz hx, Py.mono st.zz hy⟩
/-- a new list of written items -/
theorem k_list {α : Type} [Py α] {xs : List V} {m : List α} (zh : Same Z H) (pr : Paired (Py.R K Z) xs m) (hs : xs.length ≤ sizeLine) (k : New K Z H Q m) : xs.length ≤ sizeLine ∧ ∀ p, H p = none → Q (.ref p) (upd H p (.lst xs)) :=
  ⟨hs, New.lay zh pr k⟩
theorem k_slL {α : Type} [Py α] {v : V} {l : List α} {lo hi : Option Int} (zh : Same Z H) (h : Py.R K Z v l) (k : New K Z H Q (cutL l lo hi)) : rSlL K v lo hi H Q := by
  obtain ⟨a, xs, rfl, hz, p⟩ := h
  exact ⟨a, xs, rfl, SqL.of (zh _ _ hz), New.lay zh (p.pCut lo hi) k⟩
theorem k_slO {α : Type} [Py α] {q : Addr} {l : List α} {lo hi : Option Int} (zh : Same Z H) (o : Own K H0 Z H q l) (k : New K Z H Q (cutL l lo hi)) : rSlL K (.ref q) lo hi H Q := by
  obtain ⟨⟨xs, hz, pr⟩, _, _⟩ := o
  exact ⟨q, xs, rfl, SqL.of hz, New.lay zh (pr.pCut lo hi) k⟩
theorem cutV_map (f : Int → V) (ns : List Int) (lo hi : Option Int) : cutV (ns.map f) lo hi = (cutL ns lo hi).map f := by
  unfold cutV cutL
  rw [List.length_map, List.map_take, List.map_drop]
theorem k_slR {v : V} {l : Scr} {lo hi : Option Int} (zh : Same Z H) (h : Py.R K Z v l) (k : New K Z H Q (cutL l.ns lo hi)) : rSlL K v lo hi H Q := by
  obtain ⟨a, rfl, hz⟩ := h
  refine ⟨a, _, rfl, zh.seq hz, ?_⟩
  rw [cutV_map]
  exact New.lay zh (paired_of (α := Int) _) k
theorem k_cat {α : Type} [Py α] {x y : V} {l m : List α} (zh : Same Z H) (hx : Py.R K Z x l) (hy : Py.R K Z y m) (hs : l.length + m.length ≤ sizeLine) (k : New K Z H Q (l ++ m)) : rCat x y H Q := by
  obtain ⟨a, xs, rfl, hz, p⟩ := hx
  obtain ⟨b, ys, rfl, hz2, p2⟩ := hy
  exact ⟨a, b, xs, ys, rfl, rfl, zh _ _ hz, zh _ _ hz2, by rw [p.pLen, p2.pLen]; exact hs, New.lay zh (p.pApp p2) k⟩
/-- list(..) -/
theorem k_listL {α : Type} [Py α] {v : V} {l : List α} (zh : Same Z H) (h : Py.R K Z v l) (k : New K Z H Q l) : ∃ p ys, [v] = [V.ref p] ∧ (SqL K H p ys ∨ SqT K H p ys) ∧ ∀ q, H q = none → Q (.ref q) (upd H q (.lst ys)) := by
  obtain ⟨a, xs, rfl, hz, p⟩ := h
  exact ⟨a, xs, rfl, .inl (SqL.of (zh _ _ hz)), New.lay zh p k⟩
/-- l.append(x) -/
theorem k_append {α : Type} [Py α] {q : Addr} {v : V} {l : List α} {a : α} (o : Own K H0 Z H q l) (h : Py.R K Z v a) (hs : l.length < sizeLine) (k : ∀ u, Own K H0 Z (upd H q u) q (l ++ [a]) → Q .non (upd H q u)) : rAppend (.ref q) [v] H Q := by
  obtain ⟨⟨xs, hz, pr⟩, nz, n0⟩ := o
  exact ⟨q, xs, v, rfl, rfl, hz, by rw [pr.pLen]; exact hs, k _ ⟨⟨_, upd_same, pr.pApp (.cons h .nil)⟩, nz, n0⟩⟩
theorem k_extend {α : Type} [Py α] {q : Addr} {v : V} {l m : List α} (zh : Same Z H) (o : Own K H0 Z H q l) (h : Py.R K Z v m) (hs : l.length + m.length ≤ sizeLine) (k : ∀ u, Own K H0 Z (upd H q u) q (l ++ m) → Q .non (upd H q u)) : rExtend (.ref q) [v] H Q := by
  obtain ⟨⟨xs, hz, pr⟩, nz, n0⟩ := o
  obtain ⟨b, ys, rfl, hb, p2⟩ := h
  exact ⟨q, b, xs, ys, rfl, rfl, hz, zh _ _ hb, by rw [pr.pLen, p2.pLen]; exact hs, k _ ⟨⟨_, upd_same, pr.pApp p2⟩, nz, n0⟩⟩
theorem k_clear {α : Type} [Py α] {q : Addr} {l : List α} (o : Own K H0 Z H q l) (k : ∀ u, Own K H0 Z (upd H q u) q ([] : List α) → Q .non (upd H q u)) : rClear (.ref q) [] H Q := by
  obtain ⟨⟨xs, hz, pr⟩, nz, n0⟩ := o
  exact ⟨q, xs, rfl, rfl, hz, k _ ⟨⟨_, upd_same, .nil⟩, nz, n0⟩⟩
/-- l[i] = x -/
def setI {α : Type} (l : List α) (i : Int) (a : α) : List α := match ixN l.length i with | some j => l.set j a | none => l
theorem k_setL {α : Type} [Py α] {q : Addr} {v : V} {l : List α} {i : Int} {a : α} {R : Hp → Prop} (o : Own K H0 Z H q l) (h : Py.R K Z v a) (hi : inR l.length i) (k : ∀ u, Own K H0 Z (upd H q u) q (setI l i a) → R (upd H q u)) : rSetL (.ref q) (.int i) v H R := by
  obtain ⟨⟨xs, hz, pr⟩, nz, n0⟩ := o
  obtain ⟨j, hj, hl⟩ := ixN_some hi
  refine ⟨q, xs, i, j, rfl, rfl, hz, by rw [pr.pLen]; exact hj, k _ ⟨⟨_, upd_same, ?_⟩, nz, n0⟩⟩
  unfold setI
  rw [hj]
  exact pr.pSet h j
theorem tyO {α : Type} [Py α] {q : Addr} {l : List α} (o : Own K H0 Z H q l) : tyV K "list" (.ref q) H := let ⟨⟨xs, hz, _⟩, _, _⟩ := o; .inl ⟨rfl, xs, SqL.of hz⟩
theorem tyL {α : Type} [Py α] {v : V} {l : List α} (zh : Same Z H) (h : Py.R K Z v l) : tyV K "list" v H := by
  obtain ⟨a, xs, rfl, hz, p⟩ := h
  exact .inl ⟨rfl, xs, SqL.of (zh _ _ hz)⟩
end
/-! ### tests and values with an open wish -/
theorem ansAnd {t u : TT} {σ : St} {H : Hp} {b1 b2 : Bool} {Q : Bool → Hp → Prop} (h1 : ∀ Q' : Bool → Hp → Prop, Q' b1 H → t σ H Q') (h2 : b1 = true → ∀ Q' : Bool → Hp → Prop, Q' b2 H → u σ H Q') (k : Q (b1 && b2) H) : tAnd t u σ H Q := by
  refine h1 _ ?_
  cases b1 with
  | true => exact iteT (h2 rfl _ k)
  | false => exact iteF k
theorem ansOr {t u : TT} {σ : St} {H : Hp} {b1 b2 : Bool} {Q : Bool → Hp → Prop} (h1 : ∀ Q' : Bool → Hp → Prop, Q' b1 H → t σ H Q') (h2 : b1 = false → ∀ Q' : Bool → Hp → Prop, Q' b2 H → u σ H Q') (k : Q (b1 || b2) H) : tOr t u σ H Q := by
  refine h1 _ ?_
  cases b1 with
  | true => exact iteT k
  | false => exact iteF (h2 rfl _ k)
theorem valAnd {ta tb : TE} {σ : St} {H : Hp} {b1 b2 : Bool} {Q : VK} (h1 : ∀ Q' : VK, Q' (.bl b1) H → ta σ H Q') (h2 : b1 = true → ∀ Q' : VK, Q' (.bl b2) H → tb σ H Q') (k : Q (.bl (b1 && b2)) H) : tAndV ta tb σ H Q := by
  refine h1 _ ⟨b1, rfl, ?_⟩
  cases b1 with
  | true => exact iteT (h2 rfl _ k)
  | false => exact iteF k
theorem valOr {ta tb : TE} {σ : St} {H : Hp} {b1 b2 : Bool} {Q : VK} (h1 : ∀ Q' : VK, Q' (.bl b1) H → ta σ H Q') (h2 : b1 = false → ∀ Q' : VK, Q' (.bl b2) H → tb σ H Q') (k : Q (.bl (b1 || b2)) H) : tOrV ta tb σ H Q := by
  refine h1 _ ⟨b1, rfl, ?_⟩
  cases b1 with
  | true => exact iteT k
  | false => exact iteF (h2 rfl _ k)
/-- a test that lays things: its truth b, then the branches -/
theorem testK {tt : TT} {σ : St} {Z H : Hp} {Q : Bool → Hp → Prop} (b : Bool) (ev : ∀ Q' : Bool → Hp → Prop, (∀ z Z' H', z = b → Step Z H Z' H' → Q' z H') → tt σ H Q') (k : ∀ Z' H', Step Z H Z' H' → Q b H') : tt σ H Q :=
  ev Q fun z Z' H' e st => by rw [e]; exact k Z' H' st
theorem valK {te : TE} {σ : St} {Z H : Hp} {Q : VK} (b : Bool) (ev : ∀ Q' : VK, (∀ z Z' H', z = b → Step Z H Z' H' → Q' (.bl z) H') → te σ H Q') (k : ∀ Z' H', Step Z H Z' H' → Q (.bl b) H') : te σ H Q :=
  ev Q fun z Z' H' e st => by rw [e]; exact k Z' H' st
/-! ### names -/
theorem storeI {i : Nat} {a : Int} {σ : St} {H : Hp} {Q : St → Hp → Prop} (k : ∀ x, x = a → Q (σ.set i (some (.int x))) H) : gName i (.int a) σ H Q := k a rfl
theorem storeS {i : Nat} {a : Str} {σ : St} {H : Hp} {Q : St → Hp → Prop} (k : ∀ x, x = a → Q (σ.set i (some (.str x))) H) : gName i (.str a) σ H Q := k a rfl
theorem storeB {i : Nat} {a : Bool} {σ : St} {H : Hp} {Q : St → Hp → Prop} (k : ∀ x, x = a → Q (σ.set i (some (.bl x))) H) : gName i (.bl a) σ H Q := k a rfl
end Cd

set_option Elab.async false
set_option linter.all false
set_option maxRecDepth 100000
set_option maxHeartbeats 4000000
namespace Cd
open PySem L2
/-! ### loops: what is walked, as a list -/
/-- J walks L while the ghost's Z stands; Y tells what a turn hands out -/
structure Src {γ : Type} (J : It) (Z : Hp) (L : List γ) (Y : γ → V → Hp → Hp → Prop) : Prop where
  go : ∀ i a H, L[i]? = some a → Same Z H → J.go i H
  yld : ∀ i a H x H', L[i]? = some a → Same Z H → J.yld i H x H' → Y a x H H'
  stop : ∀ H, Same Z H → J.stop L.length H
def forRest (J : It) (g : TG) (tb : TS) (D : Ends) (σ : St) (H : Hp) : Prop := ∃ W : Nat → Nat → St → Hp → Prop, (∃ m, W 0 m σ H) ∧ ∀ i m σ H, W i m σ H →
  (J.stop i H ∧ D.nx σ H) ∨ (J.go i H ∧ ∃ N : St → Hp → Prop, (∀ σ' H', N σ' H' → ∃ m', m' < m ∧ W (i + 1) m' σ' H') ∧ ∀ x H', J.yld i H x H' → g x σ H' fun σ2 H2 => tb { D with nx := N, ct := N, bk := D.nx } σ2 H2)
section
variable {γ : Type} {J : It} {g : TG} {tb : TS} {D : Ends} {σ : St} {H Z : Hp} {L : List γ} {Y : γ → V → Hp → Hp → Prop}
theorem forK (src : Src J Z L Y) (Pv : List γ → St → Hp → Hp → Prop) (keep : ∀ r σ H' Z', Pv r σ H' Z' → Same Z Z' ∧ Same Z' H') (h0 : ∃ Z', Pv L σ H Z')
    (turn : ∀ a r x σ H' H2 Z', a ∈ L → (∃ d, L = d ++ a :: r) → Pv (a :: r) σ H' Z' → Y a x H' H2 → g x σ H2 fun σ2 H3 => tb { D with nx := fun σ' H' => ∃ Z2, Pv r σ' H' Z2, ct := fun σ' H' => ∃ Z2, Pv r σ' H' Z2, bk := D.nx } σ2 H3)
    (done : ∀ σ H' Z', Pv [] σ H' Z' → D.nx σ H') : forRest J g tb D σ H := by
  refine ⟨fun i m σ H' => i ≤ L.length ∧ m = L.length - i ∧ ∃ Z', Pv (L.drop i) σ H' Z', ⟨L.length, Nat.zero_le _, by omega, h0⟩, ?_⟩
  rintro i m σ H' ⟨hi, rfl, Z', hp⟩
  obtain ⟨k1, k2⟩ := keep _ _ _ _ hp
  have zs : Same Z H' := k1.trans k2
  by_cases hlt : i < L.length
  · have e : L.drop i = L[i] :: L.drop (i + 1) := List.drop_eq_getElem_cons hlt
    have ea : L[i]? = some L[i] := List.getElem?_eq_getElem hlt
    rw [e] at hp
    refine .inr ⟨src.go i _ H' ea zs, fun σ' H' => ∃ Z2, Pv (L.drop (i + 1)) σ' H' Z2, fun σ' H2 q => ⟨L.length - (i + 1), by omega, hlt, rfl, q⟩, fun x H2 y => ?_⟩
    exact turn _ _ x σ H' H2 Z' (List.getElem_mem hlt) ⟨L.take i, by rw [← e, List.take_append_drop]⟩ hp (src.yld i _ H' x H2 ea zs y)
  · have e : i = L.length := by omega
    subst e
    rw [List.drop_length] at hp
    exact .inl ⟨src.stop H' zs, done σ H' Z' hp⟩
end
section
variable {K : Fr} {Z H : Hp}
/-- a list's items -/
theorem src_list {α : Type} [Py α] {a : Addr} {xs : List V} {l : List α} (hz : Z a = some (.lst xs)) (p : Paired (Py.R K Z) xs l) : Src (Itl K a) Z l (fun b x H H' => H' = H ∧ Py.R K Z x b) := by
  refine ⟨fun i b H' e s => ?_, fun i b H' x H2 e s y => ?_, fun H' s => ?_⟩
  · obtain ⟨x, h1, h2⟩ := p.pAt e
    exact ⟨xs, x, SqL.of (s _ _ hz), h1⟩
  · obtain ⟨rfl, y⟩ := y
    obtain ⟨x', h1, h2⟩ := p.pAt e
    have h3 := y xs (SqL.of (s _ _ hz))
    rw [h1] at h3
    cases h3
    exact ⟨rfl, h2⟩
  · exact ⟨xs, SqL.of (s _ _ hz), by rw [p.pLen]; exact Nat.le_refl _⟩
theorem src_scr {a : Addr} {ns : List Int} (hz : SqL K Z a (ns.map V.int)) : Src (Itl K a) Z ns (fun b x H H' => H' = H ∧ x = V.int b) := by
  refine ⟨fun i b H' e s => ?_, fun i b H' x H2 e s y => ?_, fun H' s => ?_⟩
  · exact ⟨_, .int b, s.seq hz, by rw [List.getElem?_map, e]; rfl⟩
  · obtain ⟨rfl, y⟩ := y
    have h3 := y _ (s.seq hz)
    rw [List.getElem?_map, e] at h3
    cases h3
    exact ⟨rfl, rfl⟩
  · exact ⟨_, s.seq hz, by rw [List.length_map]; exact Nat.le_refl _⟩
/-- lo, lo + 1, .. -/
def rangeL (lo : Int) (n : Nat) : List Int := (List.range n).map fun (i : Nat) => lo + (i : Int)
theorem rangeL_len (lo : Int) (n : Nat) : (rangeL lo n).length = n := by unfold rangeL; rw [List.length_map, List.length_range]
theorem rangeL_at {lo : Int} {n i : Nat} {a : Int} (h : (rangeL lo n)[i]? = some a) : i < n ∧ a = lo + (i : Int) := by
  unfold rangeL at h
  rw [List.getElem?_map] at h
  by_cases hi : i < n
  · rw [List.getElem?_range hi] at h
    cases h
    exact ⟨hi, rfl⟩
  · rw [List.getElem?_eq_none (by rw [List.length_range]; omega)] at h
    cases h
theorem mem_rangeL {lo : Int} {n : Nat} {a : Int} : a ∈ rangeL lo n ↔ lo ≤ a ∧ a < lo + (n : Int) := by
  unfold rangeL
  rw [List.mem_map]
  constructor
  · rintro ⟨i, h, rfl⟩
    rw [List.mem_range] at h
    omega
  · intro h
    exact ⟨(a - lo).toNat, by rw [List.mem_range]; omega, by omega⟩
theorem src_range (lo : Int) (n : Nat) : Src (Itr lo n) Z (rangeL lo n) (fun b x H H' => H' = H ∧ x = V.int b) := by
  refine ⟨fun i b H' e s => (rangeL_at e).1, fun i b H' x H2 e s y => ?_, fun H' s => ?_⟩
  · obtain ⟨rfl, rfl⟩ := y
    rw [(rangeL_at e).2]
    exact ⟨rfl, rfl⟩
  · rw [rangeL_len]
    exact Nat.le_refl n
/-- range with a step -/
def rangeC (lo c : Int) (n : Nat) : List Int := (List.range n).map fun (i : Nat) => lo + (i : Int) * c
theorem src_rangeC (lo c : Int) (n : Nat) : Src (Itc lo c n) Z (rangeC lo c n) (fun b x H H' => H' = H ∧ x = V.int b) := by
  have hl : (rangeC lo c n).length = n := by unfold rangeC; rw [List.length_map, List.length_range]
  have hat : ∀ i a, (rangeC lo c n)[i]? = some a → i < n ∧ a = lo + (i : Int) * c := fun i a h => by
    unfold rangeC at h
    rw [List.getElem?_map] at h
    by_cases hi : i < n
    · rw [List.getElem?_range hi] at h
      cases h
      exact ⟨hi, rfl⟩
    · rw [List.getElem?_eq_none (by rw [List.length_range]; omega)] at h
      cases h
  refine ⟨fun i b H' e s => (hat _ _ e).1, fun i b H' x H2 e s y => ?_, fun H' s => ?_⟩
  · obtain ⟨rfl, rfl⟩ := y
    rw [(hat _ _ e).2]
    exact ⟨rfl, rfl⟩
  · rw [hl]
    exact Nat.le_refl n
/-- a text's signs -/
def chars (z : Str) : List Str := z.cps.toList.map fun c => ⟨#[c]⟩
theorem chars_len (z : Str) : (chars z).length = z.cps.size := by unfold chars; rw [List.length_map]; simp
theorem src_str (z : Str) : Src (Its z) Z (chars z) (fun b x H H' => H' = H ∧ x = V.str b) := by
  refine ⟨fun i b H' e s => ?_, fun i b H' x H2 e s y => ?_, fun H' s => ?_⟩
  · have h := (List.getElem?_eq_some_iff.mp e).1
    rw [chars_len] at h
    exact h
  · obtain ⟨rfl, c, hc, rfl⟩ := y
    unfold chars at e
    rw [List.getElem?_map] at e
    have h2 : z.cps.toList[i]? = some c := by rw [← hc]; simp
    rw [h2] at e
    cases e
    exact ⟨rfl, rfl⟩
  · rw [chars_len]
    exact Nat.le_refl _
/-- pairs: a turn lays a new tuple -/
def YP {α β : Type} (RA : V → α → Prop) (RB : V → β → Prop) : (α × β) → V → Hp → Hp → Prop := fun p x H H' => ∃ T u v, x = V.ref T ∧ H T = none ∧ H' = upd H T (.tup [u, v]) ∧ RA u p.1 ∧ RB v p.2
def enumL {α : Type} (k : Int) (l : List α) : List (Int × α) := (rangeL k l.length).zip l
theorem src_enum {α : Type} [Py α] {a : Addr} {xs : List V} {l : List α} (hz : Z a = some (.lst xs)) (p : Paired (Py.R K Z) xs l) : Src (Ite K a) Z (enumL 0 l) (YP (fun u (i : Int) => u = V.int i) (Py.R K Z)) := by
  have hl : (enumL 0 l).length = l.length := by unfold enumL; rw [List.length_zip, rangeL_len]; omega
  have hat : ∀ (i : Nat) (q : Int × α), (enumL 0 l)[i]? = some q → q.1 = (i : Int) ∧ l[i]? = some q.2 := fun i q h => by
    unfold enumL at h
    rw [List.getElem?_zip_eq_some] at h
    obtain ⟨h1, h2⟩ := h
    have h3 := (rangeL_at h1).2
    exact ⟨by rw [h3]; omega, h2⟩
  refine ⟨fun i b H' e s => ?_, fun i b H' x H2 e s y => ?_, fun H' s => ?_⟩
  · obtain ⟨x, h1, h2⟩ := p.pAt (hat _ _ e).2
    exact ⟨xs, x, SqL.of (s _ _ hz), h1⟩
  · obtain ⟨T, u, rfl, hT, rfl, hu⟩ := y
    obtain ⟨e1, e2⟩ := hat _ _ e
    obtain ⟨x', h1, h2⟩ := p.pAt e2
    have h3 := hu xs (SqL.of (s _ _ hz))
    rw [h1] at h3
    cases h3
    exact ⟨T, _, _, rfl, hT, rfl, by rw [e1], h2⟩
  · exact ⟨xs, SqL.of (s _ _ hz), by rw [hl, p.pLen]; exact Nat.le_refl _⟩
theorem src_zip {α β : Type} [Py α] [Py β] {a b : Addr} {xs ys : List V} {l : List α} {m : List β} (hz : Z a = some (.lst xs)) (p : Paired (Py.R K Z) xs l) (hz2 : Z b = some (.lst ys)) (p2 : Paired (Py.R K Z) ys m) :
    Src (Itz K a b) Z (l.zip m) (YP (Py.R K Z) (Py.R K Z)) := by
  have hat : ∀ (i : Nat) (q : α × β), (l.zip m)[i]? = some q → l[i]? = some q.1 ∧ m[i]? = some q.2 := fun i q h => List.getElem?_zip_eq_some.mp h
  refine ⟨fun i q H' e s => ?_, fun i q H' x H2 e s y => ?_, fun H' s => ?_⟩
  · obtain ⟨x, h1, h2⟩ := p.pAt (hat _ _ e).1
    obtain ⟨y, h3, h4⟩ := p2.pAt (hat _ _ e).2
    exact ⟨xs, ys, x, y, SqL.of (s _ _ hz), SqL.of (s _ _ hz2), h1, h3⟩
  · obtain ⟨T, u, v, rfl, hT, rfl, hu, hv⟩ := y
    obtain ⟨x', h1, h2⟩ := p.pAt (hat _ _ e).1
    obtain ⟨y', h3, h4⟩ := p2.pAt (hat _ _ e).2
    have h5 := hu xs (SqL.of (s _ _ hz))
    have h6 := hv ys (SqL.of (s _ _ hz2))
    rw [h1] at h5
    rw [h3] at h6
    cases h5
    cases h6
    exact ⟨T, _, _, rfl, hT, rfl, h2, h4⟩
  · refine ⟨xs, ys, SqL.of (s _ _ hz), SqL.of (s _ _ hz2), ?_⟩
    rw [List.length_zip, p.pLen, p2.pLen]
    omega
/-! ### one turn's target -/
theorem tgt1 {i : Nat} {x : V} {σ : St} {H : Hp} {Q : St → Hp → Prop} (k : Q (σ.set i (some x)) H) : gName i x σ H Q := k
theorem tgt2 {α β : Type} {RA : V → α → Prop} {RB : V → β → Prop} {p : α × β} {i j : Nat} {x : V} {σ : St} {H H' Z : Hp} {Q : St → Hp → Prop} (zh : Same Z H) (y : YP RA RB p x H H') (k : ∀ u v, RA u p.1 → RB v p.2 → Step Z H Z H' → Q ((σ.set i (some u)).set j (some v)) H') :
    gTup K 2 (gCons (gName i) (gCons (gName j) gNil)) x σ H' Q := by
  obtain ⟨T, u, v, rfl, hT, rfl, h1, h2⟩ := y
  exact ⟨T, [u, v], rfl, SqT.of upd_same, rfl, u, [v], rfl, v, [], rfl, rfl, k u v h1 h2 (Step.own zh hT)⟩
end
/-! ### the mirrors' loops -/
inductive LR (S R : Type) where
  | nxt (s : S) | brk (s : S) | ret (r : R)
def LR.bind {S R : Type} (x : LR S R) (k : S → R) : R := match x with
  | .nxt s => k s
  | .brk s => k s
  | .ret r => r
def loopR {α S R : Type} (f : S → α → LR S R) : S → List α → LR S R
  | s, [] => .nxt s
  | s, x :: r => match f s x with
    | .nxt s' => loopR f s' r
    | .brk s' => .brk s'
    | .ret v => .ret v
def loopS {α S : Type} (f : S → α → S) : S → List α → S
  | s, [] => s
  | s, x :: r => loopS f (f s x) r
theorem loopS_foldl {α S : Type} (f : S → α → S) : ∀ (l : List α) (s : S), loopS f s l = l.foldl f s
  | [], _ => rfl
  | x :: r, s => loopS_foldl f r (f s x)
theorem loopR_nxt {α S R : Type} {f : S → α → LR S R} {s s' : S} {x : α} {r : List α} {t : LR S R} (h : loopR f s (x :: r) = t) (e : f s x = .nxt s') : loopR f s' r = t := by
  rw [← h]; show _ = (match f s x with | .nxt s' => loopR f s' r | .brk s' => .brk s' | .ret v => .ret v); rw [e]
theorem loopR_brk {α S R : Type} {f : S → α → LR S R} {s s' : S} {x : α} {r : List α} {t : LR S R} (h : loopR f s (x :: r) = t) (e : f s x = .brk s') : t = .brk s' := by
  rw [← h]; show (match f s x with | .nxt s' => loopR f s' r | .brk s' => .brk s' | .ret v => .ret v) = _; rw [e]
theorem loopR_ret {α S R : Type} {f : S → α → LR S R} {s : S} {v : R} {x : α} {r : List α} {t : LR S R} (h : loopR f s (x :: r) = t) (e : f s x = .ret v) : t = .ret v := by
  rw [← h]; show (match f s x with | .nxt s' => loopR f s' r | .brk s' => .brk s' | .ret v => .ret v) = _; rw [e]
theorem bind_nxt {S R : Type} {x : LR S R} {s : S} {k : S → R} (h : x = .nxt s) : x.bind k = k s := by rw [h]; rfl
theorem bind_brk {S R : Type} {x : LR S R} {s : S} {k : S → R} (h : x = .brk s) : x.bind k = k s := by rw [h]; rfl
theorem bind_ret {S R : Type} {x : LR S R} {r : R} {k : S → R} (h : x = .ret r) : x.bind k = r := by rw [h]; rfl
/-! ### comprehensions -/
section
variable {γ β : Type} [Py β] {K : Fr} {J : It} {g : TG} {tt : TT} {te : TE} {σ : St} {H Z : Hp} {L : List γ} {Y : γ → V → Hp → Hp → Prop} {vs : List Nat} {Q : VK}
theorem lcK (src : Src J Z L Y) (zh : Same Z H) (f : γ → β) (p : γ → Bool) (hs : L.length < sizeLine)
    (el : ∀ a x Z' H' H2 (C : VK) (N : Hp → Prop), a ∈ L → Same Z Z' → Same Z' H' → Y a x H' H2 →
      (∀ y Z2 H3, Step Z' H' Z2 H3 → p a = true → Py.R K Z2 y (f a) → C y H3) → (∀ Z2 H3, Step Z' H' Z2 H3 → p a = false → N H3) →
      g x (wipe σ vs) H2 fun σ2 H3 => wipe σ2 vs = wipe σ vs ∧ tt σ2 H3 fun b H4 => if b = true then te σ2 H4 C else N H4)
    (k : New K Z H Q ((L.filter p).map f)) :
    ∀ D, H D = none → ∃ W : Nat → Nat → Hp → Prop, (∃ m, W 0 m (upd H D (.lst []))) ∧ ∀ i m H, W i m H →
      (J.stop i H ∧ Q (.ref D)  H) ∨ (J.go i H ∧ ∃ Nx : Hp → Prop, (∀ H', Nx H' → ∃ m', m' < m ∧ W (i + 1) m' H') ∧ ∀ x H', J.yld i H x H' → g x (wipe σ vs) H' fun σ2 H2 => wipe σ2 vs = wipe σ vs ∧ tt σ2 H2 fun b H3 =>
        if b = true then te σ2 H3 fun y H4 => ∃ acc, H4 D = some (.lst acc) ∧ acc.length < sizeLine ∧ Nx (upd H4 D (.lst (acc ++ [y]))) else Nx H3) := by
  intro D hD
  let Pv : Nat → Hp → Prop := fun i H' => i ≤ L.length ∧ ∃ Z', Step Z H Z' H' ∧ Own K H Z' H' D (((L.take i).filter p).map f)
  have s0 : Step Z H Z (upd H D (.lst [])) := Step.own zh hD
  refine ⟨fun i m H' => m = L.length - i ∧ Pv i H', ⟨L.length, by omega, Nat.zero_le _, Z, s0, ⟨[], upd_same, .nil⟩, zh.free hD, hD⟩, ?_⟩
  rintro i m H' ⟨rfl, hi, Z', st, ow⟩
  have zs : Same Z H' := st.zz.trans st.zh
  by_cases hlt : i < L.length
  · have ea : L[i]? = some L[i] := List.getElem?_eq_getElem hlt
    refine .inr ⟨src.go i _ H' ea zs, Pv (i + 1), fun H2 q => ⟨L.length - (i + 1), by omega, rfl, q⟩, fun x H2 y => ?_⟩
    have et : L.take (i + 1) = L.take i ++ [L[i]] := by rw [List.take_add_one, ea]; rfl
    refine el L[i] x Z' H' H2 _ _ (List.getElem_mem hlt) st.zz st.zh (src.yld i _ H' x H2 ea zs y) (fun y Z2 H3 st2 hp hr => ?_) (fun Z2 H3 st2 hp => ?_)
    · have ow2 := ow.step st2
      obtain ⟨⟨acc, h1, p1⟩, nz, n0⟩ := ow2
      refine ⟨acc, h1, ?_, hlt, Z2, (st.trans st2).mut nz n0, ⟨acc ++ [y], upd_same, ?_⟩, nz, n0⟩
      · rw [p1.pLen, List.length_map]
        have := List.length_filter_le p (L.take i)
        rw [List.length_take] at this
        omega
      · rw [et, List.filter_append, List.map_append, List.filter_cons_of_pos hp]
        exact p1.pApp (.cons hr .nil)
    · refine ⟨hlt, Z2, st.trans st2, ?_⟩
      have e : ((L.take (i + 1)).filter p).map f = ((L.take i).filter p).map f := by
        rw [et, List.filter_append, List.filter_cons_of_neg (by rw [hp]; exact Bool.false_ne_true)]
        simp
      rw [e]
      exact ow.step st2
  · have e : i = L.length := by omega
    subst e
    rw [List.take_length] at ow
    refine .inl ⟨src.stop H' zs, ?_⟩
    obtain ⟨⟨acc, h1, p1⟩, nz, n0⟩ := ow
    exact k D acc Z' H' st hD h1 nz p1
end
/-! ### a def of the text, as it is called -/
structure Cal (P : Program) (w : World) (K : Fr) (mg : Str → Option Value) (base : Heap) (CX : CXT) (x : Str) (k : Nat) (ps : List Str) (sp : Sp) : Prop where
  ex : ∃ f fd, FnOk P w K mg base CX k f fd ps sp ∧ mg x = some (.ref f) ∧ PySem.W.keepIn K (.ref f) = true ∧ Binds K fd ps []
section
variable {X : Cx} {CX : CXT} {x : Str} {k : Nat} {ps : List Str} {sp : Sp} {E : XK} {t : TA} {e : Expr} {es : List Expr} {p pos : Pos}
theorem pe_cal (c : Cal X.prog X.w X.K X.mg X.base CX x k ps sp) (hr : Room k X.A) (hx : Passes CX X E) (ha : PA X (e :: es) t) (hg : Gl X x := by rfl) (hdb : (x == ("__debug__" : Str)) = false := by decide)
    (he : starEach (e :: es) X.env = (false, eval e X.env) :: starEach es X.env := by rfl) (hpl : (backTo pos (starEach es X.env)).any (·.1) = false := by rfl) : PE X (.Call (.Name x p) (e :: es) [] pos) (tCall sp [] E t) := by
  obtain ⟨f, fd, F, hm, hk, hb⟩ := c.ex
  exact pe_call F hr hg hm hk hb .nil hx ha hdb he hpl
theorem pe_cal0 (c : Cal X.prog X.w X.K X.mg X.base CX x k ps sp) (hr : Room k X.A) (hx : Passes CX X E) (hg : Gl X x := by rfl) (hdb : (x == ("__debug__" : Str)) = false := by decide) :
    PE X (.Call (.Name x p) [] [] pos) (tCall sp [] E tNil) := by
  obtain ⟨f, fd, F, hm, hk, hb⟩ := c.ex
  exact pe_call0 F hr hg hm hk hb .nil hx hdb
end
end Cd

set_option Elab.async false
set_option linter.all false
set_option maxRecDepth 100000
set_option maxHeartbeats 4000000
namespace Cd
open PySem L2
section
variable {K : Fr} {Z H Z0 H0 Z' H' : Hp} {Q : VK}
/-! ### wishes handed on -/
theorem Tel.sc {α : Type} [Sc α] {m : α} (k : ∀ Z' H', Step Z H Z' H' → Q (Sc.emb m) H') : Tel K Z H Q m := fun v Z' H' st h => by
  obtain rfl := (show v = Sc.emb m from h)
  exact k Z' H' st
theorem Tel.gen {α : Type} [Py α] {m : α} (k : ∀ n, n = m → Tel K Z H Q n) : Tel K Z H Q m := k m rfl
theorem Tel.genS {α : Type} [Sc α] {m : α} (k : ∀ n, n = m → ∀ Z' H', Step Z H Z' H' → Q (Sc.emb n) H') : Tel K Z H Q m := Tel.sc (k m rfl)
theorem New.gen {α : Type} [Py α] {m : List α} (k : ∀ n, n = m → New K Z H Q n) : New K Z H Q m := k m rfl
theorem New.after {α : Type} [Py α] {m : List α} (c : Step Z0 H0 Z H) (k : New K Z0 H0 Q m) : New K Z H Q m := fun p xs Z' H' st hp hl hz pr => k p xs Z' H' (c.trans st) (c.hh.free hp) hl hz pr
theorem Own.ret {α : Type} [Py α] {p : Addr} {m : List α} (o : Own K H0 Z H p m) (c : Step Z0 H0 Z H) (k : New K Z0 H0 Q m) : Q (.ref p) H := by
  obtain ⟨⟨xs, hl, pr⟩, nz, n0⟩ := o
  exact k p xs Z H c n0 hl nz pr
theorem augI {i : Nat} {a : Int} {σ : St} {H : Hp} {Q : St → Hp → Prop} (k : ∀ x, x = a → Q (σ.set i (some (.int x))) H) : Q (σ.set i (some (.int a))) H := k a rfl
theorem tgtP {α β : Type} [Py α] [Py β] {v : V} {p : α × β} {i j : Nat} {σ : St} {R : St → Hp → Prop} (zh : Same Z H) (h : Py.R K Z v p) (k : ∀ a, a = p.1 → ∀ b, b = p.2 → ∀ x y, Py.R K Z x a → Py.R K Z y b → R ((σ.set i (some x)).set j (some y)) H) :
    gTup K 2 (gCons (gName i) (gCons (gName j) gNil)) v σ H R := by
  obtain ⟨a, x, y, rfl, hz, hx, hy⟩ := h
  exact ⟨a, [x, y], rfl, SqT.of (zh _ _ hz), rfl, x, [y], rfl, y, [], rfl, rfl, k _ rfl _ rfl x y hx hy⟩
/-- readings that begin with a pair, so that what follows is seen at once -/
def tK (v : V) : TE := fun _ H Q => True ∧ Q v H
theorem pcK {X : Cx} {e : Expr} {v : V} (h : PE X e (tC v)) : PE X e (tK v) := ⟨fun pins s σ H Q I q => h.run pins s σ H Q I q.2⟩
def tNilK : TA := fun _ H Q => True ∧ Q [] H
theorem pnK {X : Cx} : PA X [] tNilK := ⟨fun p pins s σ H Q I q => pa_nil.run p pins s σ H Q I q.2⟩
def tU (t : TE) : TE := fun σ H Q => True ∧ t σ H Q
theorem puK {X : Cx} {e : Expr} {t : TE} (h : PE X e t) : PE X e (tU t) := ⟨fun pins s σ H Q I q => h.run pins s σ H Q I q.2⟩
def tUT (t : TT) : TT := fun σ H Q => True ∧ t σ H Q
theorem ptK {X : Cx} {e : Expr} {t : TT} (h : PT X e t) : PT X e (tUT t) := ⟨fun pins s σ H Q I q => h.run pins s σ H Q I q.2⟩
/-! ### None -/
def optB {α R : Type} (o : Option α) (n : R) (s : α → R) : R := match o with
  | none => n
  | some a => s a
theorem optB_none {α R : Type} {o : Option α} {n : R} {s : α → R} (h : o = none) : optB o n s = n := by rw [h]; rfl
theorem optB_some {α R : Type} {o : Option α} {n : R} {s : α → R} {a : α} (h : o = some a) : optB o n s = s a := by rw [h]; rfl
/-- a value that is not None -/
class Nn (α : Type) [Py α] where
  nn : ∀ {K : Fr} {Z : Hp} {v : V} {a : α}, Py.R K Z v a → v ≠ .non
instance : Nn Int := ⟨fun h e => by cases (show _ = V.int _ from h); cases e⟩
instance : Nn Bool := ⟨fun h e => by cases (show _ = V.bl _ from h); cases e⟩
instance : Nn Str := ⟨fun h e => by cases (show _ = V.str _ from h); cases e⟩
instance {α : Type} [Py α] : Nn (List α) := ⟨fun h e => by obtain ⟨a, xs, e2, _⟩ := h; rw [e2] at e; cases e⟩
instance {α β : Type} [Py α] [Py β] : Nn (α × β) := ⟨fun h e => by obtain ⟨a, xs, y, e2, _⟩ := h; rw [e2] at e; cases e⟩
theorem k_isN {α : Type} [Py α] [Nn α] {v : V} {o : Option α} (h : Py.R K Z v o) (k : Q (.bl o.isNone) H) : Q (.bl (decide (v = .non))) H := by
  have e : decide (v = .non) = o.isNone := by
    cases o with
    | none => cases (show v = .non from h); rfl
    | some a => exact decide_eq_false (Nn.nn (a := a) h)
  rw [e]; exact k
theorem k_notN {α : Type} [Py α] [Nn α] {v : V} {o : Option α} (h : Py.R K Z v o) (k : Q (.bl (!o.isNone)) H) : Q (.bl (!decide (v = .non))) H := by
  have e : decide (v = .non) = o.isNone := by
    cases o with
    | none => cases (show v = .non from h); rfl
    | some a => exact decide_eq_false (Nn.nn (a := a) h)
  rw [e]; exact k
/-! ### comparisons -/
theorem chain2 {b1 b2 : Bool} {A : VK → Prop} (h : b1 = true → ∀ Q' : VK, Q' (.bl b2) H → A Q') (k : Q (.bl (b1 && b2)) H) : if b1 = true then A Q else Q (.bl false) H := by
  cases b1 with
  | true => exact iteT (h rfl Q k)
  | false => exact iteF k
def inS (a b : Str) : Bool := !(Builtin.Str.occurrences b a 0 b.length 1).isEmpty
/-- a list read: told, or one's own -/
def RO {α : Type} [Py α] (K : Fr) (Z H : Hp) (v : V) (l : List α) : Prop := ∃ a xs, v = .ref a ∧ H a = some (.lst xs) ∧ Paired (Py.R K Z) xs l
theorem RO.own {α : Type} [Py α] {p : Addr} {l : List α} (o : Own K H0 Z H p l) : RO K Z H (.ref p) l := let ⟨⟨xs, h, pr⟩, _, _⟩ := o; ⟨p, xs, rfl, h, pr⟩
theorem RO.tell {α : Type} [Py α] {v : V} {l : List α} (zh : Same Z H) (h : Py.R K Z v l) : RO K Z H v l := let ⟨a, xs, e, hz, pr⟩ := h; ⟨a, xs, e, zh _ _ hz, pr⟩
theorem inV_int {ns : List Int} {i : Int} : inV (.int i) (ns.map V.int) = decide (i ∈ ns) := by
  unfold inV
  induction ns with
  | nil => simp
  | cons n r ih =>
    rw [List.map_cons, List.any_cons, ih]
    show ((n == i) || decide (i ∈ r)) = decide (i ∈ n :: r)
    by_cases e : n = i
    · subst e; simp
    · have e2 : ¬ i = n := fun z => e z.symm
      simp [e, e2]
theorem inV_str {ns : List Str} {i : Str} : inV (.str i) (ns.map V.str) = decide (i ∈ ns) := by
  unfold inV
  induction ns with
  | nil => simp
  | cons n r ih =>
    rw [List.map_cons, List.any_cons, ih]
    show ((n == i) || decide (i ∈ r)) = decide (i ∈ n :: r)
    by_cases e : n = i
    · subst e; simp
    · have e2 : ¬ i = n := fun z => e z.symm
      simp [e, e2]
/-- values that stand in lists and are compared plainly -/
class Fl (α : Type) [Sc α] [DecidableEq α] where
  flat : ∀ a : α, flatV (Sc.emb a) = true
  isIn : ∀ (l : List α) (a : α), inV (Sc.emb a) (l.map Sc.emb) = decide (a ∈ l)
instance : Fl Int := ⟨fun _ => rfl, fun l a => inV_int⟩
instance : Fl Str := ⟨fun _ => rfl, fun l a => inV_str⟩
theorem allFlat {α : Type} [Sc α] [DecidableEq α] [Fl α] : ∀ l : List α, (l.map Sc.emb).all flatV = true
  | [] => rfl
  | a :: r => by rw [List.map_cons, List.all_cons, Fl.flat, allFlat r]; rfl
theorem k_inL {α : Type} [Sc α] [DecidableEq α] [Fl α] {v : V} {a : α} {l : List α} (h : RO K Z H v l) (k : Q (.bl (decide (a ∈ l))) H) : rIn K false (Sc.emb a) v H Q := by
  obtain ⟨p, xs, rfl, hl, pr⟩ := h
  obtain rfl := paired_emb pr
  refine ⟨p, _, rfl, .inl (SqL.of hl), Fl.flat a, allFlat l, ?_⟩
  rw [Fl.isIn]
  exact k
theorem k_ninL {α : Type} [Sc α] [DecidableEq α] [Fl α] {v : V} {a : α} {l : List α} (h : RO K Z H v l) (k : Q (.bl (!decide (a ∈ l))) H) : rIn K true (Sc.emb a) v H Q := by
  obtain ⟨p, xs, rfl, hl, pr⟩ := h
  obtain rfl := paired_emb pr
  refine ⟨p, _, rfl, .inl (SqL.of hl), Fl.flat a, allFlat l, ?_⟩
  rw [Fl.isIn]
  exact k
/-! ### == of data -/
class PyD (α : Type) [Py α] [DecidableEq α] where
  d : α → PyData
  dp : ∀ {K : Fr} {Z H : Hp} {v : V} {a : α}, Same Z H → Py.R K Z v a → Dp K H v (d a)
  eqv : ∀ a b : α, PyData.eqv (d a) (d b) = decide (a = b)
  dep : Nat
  depth : ∀ a : α, (d a).depth ≤ dep
instance : PyD Int := ⟨.int, fun _ h => by cases (show _ = V.int _ from h); exact .int _, fun a b => by simp [PyData.eqv]; rfl, 0, fun _ => by simp [PyData.depth]⟩
instance : PyD Bool := ⟨.bool, fun _ h => by cases (show _ = V.bl _ from h); exact .bl _, fun a b => by cases a <;> cases b <;> simp [PyData.eqv], 0, fun _ => by simp [PyData.depth]⟩
instance : PyD Str := ⟨.str, fun _ h => by cases (show _ = V.str _ from h); exact .str _, fun a b => by
  show (a == b) = decide (a = b)
  by_cases e : a = b
  · subst e; simp
  · simp [e], 0, fun _ => by simp [PyData.depth]⟩
theorem dpAll {α : Type} [Py α] [DecidableEq α] [PyD α] (zh : Same Z H) : ∀ {xs : List V} {l : List α}, Paired (Py.R K Z) xs l → DpAll K H xs (l.map PyD.d)
  | _, _, .nil => .nil
  | _, _, .cons r t => .cons (PyD.dp zh r) (dpAll zh t)
theorem eqvAll_map {α : Type} [Py α] [DecidableEq α] [PyD α] : ∀ l m : List α, PyData.eqvAll (l.map PyD.d) (m.map PyD.d) = decide (l = m)
  | [], [] => by simp [PyData.eqvAll]
  | [], _ :: _ => by simp [PyData.eqvAll]
  | _ :: _, [] => by simp [PyData.eqvAll]
  | a :: r, b :: s => by
    rw [List.map_cons, List.map_cons]
    show (PyData.eqv (PyD.d a) (PyD.d b) && PyData.eqvAll (r.map PyD.d) (s.map PyD.d)) = _
    rw [PyD.eqv, eqvAll_map r s]
    by_cases e : a = b
    · subst e; by_cases e2 : r = s
      · subst e2; simp
      · simp [e2]
    · simp [e]
theorem depthAll_map {α : Type} [Py α] [DecidableEq α] [PyD α] : ∀ l : List α, PyData.depthAll (l.map PyD.d) ≤ PyD.dep α
  | [] => Nat.zero_le _
  | a :: r => by
    rw [List.map_cons]
    show max (PyD.d a).depth (PyData.depthAll (r.map PyD.d)) ≤ _
    exact Nat.max_le.mpr ⟨PyD.depth a, depthAll_map r⟩
instance {α : Type} [Py α] [DecidableEq α] [PyD α] : PyD (List α) where
  d l := .list (l.map PyD.d)
  dp := fun zh h => by
    obtain ⟨a, xs, rfl, hz, p⟩ := h
    exact .lst (SqL.of (zh _ _ hz)) (dpAll zh p)
  eqv := fun l m => eqvAll_map l m
  dep := PyD.dep α + 1
  depth := fun l => Nat.succ_le_succ (depthAll_map l)
instance {α β : Type} [Py α] [DecidableEq α] [PyD α] [Py β] [DecidableEq β] [PyD β] : PyD (α × β) where
  d p := .tuple [PyD.d p.1, PyD.d p.2]
  dp := fun zh h => by
    obtain ⟨a, x, y, rfl, hz, hx, hy⟩ := h
    exact .tup (SqT.of (zh _ _ hz)) (.cons (PyD.dp zh hx) (.cons (PyD.dp zh hy) .nil))
  eqv := fun p q => by
    show (PyData.eqv (PyD.d p.1) (PyD.d q.1) && (PyData.eqv (PyD.d p.2) (PyD.d q.2) && PyData.eqvAll [] [])) = _
    rw [PyD.eqv, PyD.eqv]
    obtain ⟨a, b⟩ := p
    obtain ⟨a', b'⟩ := q
    by_cases e : a = a'
    · subst e; by_cases e2 : b = b'
      · subst e2; simp [PyData.eqvAll]
      · simp [e2]
    · simp [e]
  dep := max (PyD.dep α) (PyD.dep β) + 1
  depth := fun p => by
    show max (PyD.d p.1).depth (max (PyD.d p.2).depth 0) + 1 ≤ _
    have h1 := PyD.depth p.1
    have h2 := PyD.depth p.2
    omega
/-- a value that may be None, beside data that is never None -/
class PyN (α : Type) [Py α] [DecidableEq α] [PyD α] where
  n1 : ∀ a : α, PyData.eqv .none (PyD.d a) = false
  n2 : ∀ a : α, PyData.eqv (PyD.d a) .none = false
instance : PyN Int := ⟨fun _ => by simp [PyD.d, PyData.eqv], fun _ => by simp [PyD.d, PyData.eqv]⟩
instance : PyN Bool := ⟨fun _ => by simp [PyD.d, PyData.eqv], fun _ => by simp [PyD.d, PyData.eqv]⟩
instance : PyN Str := ⟨fun _ => by simp [PyD.d, PyData.eqv], fun _ => by simp [PyD.d, PyData.eqv]⟩
instance {α : Type} [Py α] [DecidableEq α] [PyD α] : PyN (List α) := ⟨fun _ => by simp [PyD.d, PyData.eqv], fun _ => by simp [PyD.d, PyData.eqv]⟩
instance {α β : Type} [Py α] [DecidableEq α] [PyD α] [Py β] [DecidableEq β] [PyD β] : PyN (α × β) := ⟨fun _ => by simp [PyD.d, PyData.eqv], fun _ => by simp [PyD.d, PyData.eqv]⟩
instance {α : Type} [Py α] [DecidableEq α] [PyD α] [PyN α] : PyD (Option α) where
  d o := match o with
    | none => .none
    | some a => PyD.d a
  dp := fun {K Z H v a} zh h => by
    cases a with
    | none => cases (show v = V.non from h); exact .non
    | some a => exact PyD.dp zh (show Py.R K Z v a from h)
  eqv := fun a b => by
    cases a with
    | none => cases b with
      | none => simp [PyData.eqv]
      | some b => simp [PyN.n1]
    | some a => cases b with
      | none => simp [PyN.n2]
      | some b => show PyData.eqv (PyD.d a) (PyD.d b) = _; rw [PyD.eqv]; simp
  dep := PyD.dep α
  depth := fun a => by
    cases a with
    | none => simp [PyData.depth]
    | some a => exact PyD.depth a
/-- x tells the data a -/
def Pd {α : Type} [Py α] [DecidableEq α] [PyD α] (K : Fr) (H : Hp) (x : V) (a : α) : Prop := Dp K H x (PyD.d a)
theorem Pd.ref {α : Type} [Py α] [DecidableEq α] [PyD α] {v : V} {a : α} (zh : Same Z H) (h : Py.R K Z v a) : Pd K H v a := PyD.dp zh h
theorem Pd.int (i : Int) : Pd K H (.int i) i := Dp.int i
theorem Pd.str (i : Str) : Pd K H (.str i) i := Dp.str i
theorem Pd.bl (i : Bool) : Pd K H (.bl i) i := Dp.bl i
theorem Pd.none {α : Type} [Py α] [DecidableEq α] [PyD α] [PyN α] : Pd K H .non (none : Option α) := .non
theorem Pd.some {α : Type} [Py α] [DecidableEq α] [PyD α] [PyN α] {v : V} {a : α} (h : Pd K H v a) : Pd K H v (some a) := h
theorem Pd.own {α : Type} [Py α] [DecidableEq α] [PyD α] {p : Addr} {l : List α} (c : Step Z0 H0 Z H) (o : Own K H0 Z H p l) : Pd K H (.ref p) l := by
  obtain ⟨⟨xs, h, pr⟩, _, _⟩ := o
  exact .lst (SqL.of h) (dpAll c.zh pr)
def okD {α : Type} [Py α] [DecidableEq α] [PyD α] (a : α) : Bool := (PyD.d a).canLay0
theorem shaped_of {α : Type} [Py α] [DecidableEq α] [PyD α] {a : α} (h : okD a = true) (hd : PyD.dep α ≤ 64) : SeqAt.shaped (PyD.d a) = true := by
  unfold SeqAt.shaped
  rw [show (PyD.d a).canLay0 = true from h]
  simp
  exact Nat.le_trans (PyD.depth a) hd
theorem k_eqD {α : Type} [Py α] [DecidableEq α] [PyD α] {x y : V} {a b : α} (hx : Pd K H x a) (hy : Pd K H y b) (oa : okD a = true) (ob : okD b = true) (hd : PyD.dep α ≤ 64) (k : Q (.bl (decide (a = b))) H) : rEqD K x y H Q :=
  ⟨_, _, hx, hy, shaped_of oa hd, shaped_of ob hd, by rw [PyD.eqv]; exact k⟩
theorem k_neD {α : Type} [Py α] [DecidableEq α] [PyD α] {x y : V} {a b : α} (hx : Pd K H x a) (hy : Pd K H y b) (oa : okD a = true) (ob : okD b = true) (hd : PyD.dep α ≤ 64) (k : Q (.bl (!decide (a = b))) H) : rNeD K x y H Q :=
  ⟨_, _, hx, hy, shaped_of oa hd, shaped_of ob hd, by rw [PyD.eqv]; exact k⟩
@[simp] theorem okD_int (i : Int) : okD i = true := by simp [okD, PyD.d, PyData.canLay0]
@[simp] theorem okD_bool (i : Bool) : okD i = true := by simp [okD, PyD.d, PyData.canLay0]
theorem okD_str (i : Str) : okD i = i.cps.all (· < 0x110000) := by simp [okD, PyD.d, PyData.canLay0, PyData.strOk]
theorem okD_list {α : Type} [Py α] [DecidableEq α] [PyD α] : ∀ l : List α, okD l = l.all okD
  | [] => by simp [okD, PyD.d, PyData.canLay0, PyData.canLayAll0]
  | a :: r => by
    have ih := okD_list r
    unfold okD at ih ⊢
    show PyData.canLayAll0 (PyD.d a :: r.map PyD.d) = _
    show ((PyD.d a).canLay0 && PyData.canLayAll0 (r.map PyD.d)) = _
    rw [List.all_cons, ← ih]
    rfl
theorem okD_pair {α β : Type} [Py α] [DecidableEq α] [PyD α] [Py β] [DecidableEq β] [PyD β] (p : α × β) : okD p = (okD p.1 && okD p.2) := by
  unfold okD
  show ((PyD.d p.1).canLay0 && ((PyD.d p.2).canLay0 && true)) = _
  rw [Bool.and_true]
@[simp] theorem okD_none {α : Type} [Py α] [DecidableEq α] [PyD α] [PyN α] : okD (none : Option α) = true := by simp [okD, PyD.d, PyData.canLay0]
@[simp] theorem okD_some {α : Type} [Py α] [DecidableEq α] [PyD α] [PyN α] (a : α) : okD (some a) = okD a := rfl
/-! ### isinstance of a built-in class -/
inductive Pt (K : Fr) (H : Hp) : V → String → Prop where
  | of {v : V} {t : String} (h : TyX K H v (.type t)) : Pt K H v t
theorem Pt.int (i : Int) : Pt K H (.int i) "int" := .of (.base (.int i))
theorem Pt.bl (i : Bool) : Pt K H (.bl i) "bool" := .of (.base (.bl i))
theorem Pt.str (i : Str) : Pt K H (.str i) "str" := .of (.base (.str i))
theorem Pt.non (i : Unit) : Pt K H .non "NoneType" := .of (.base .non)
theorem Pt.own {α : Type} [Py α] {p : Addr} {l : List α} (o : Own K H0 Z H p l) : Pt K H (.ref p) "list" := let ⟨⟨_, h, _⟩, _, _⟩ := o; .of (.base (.lst h))
theorem Pt.list {α : Type} [Py α] {v : V} {l : List α} (zh : Same Z H) (h : Py.R K Z v l) : Pt K H v "list" := by
  obtain ⟨a, xs, rfl, hz, p⟩ := h
  exact .of (.base (.lst (zh _ _ hz)))
theorem Pt.tuple {α β : Type} [Py α] [Py β] {v : V} {l : α × β} (zh : Same Z H) (h : Py.R K Z v l) : Pt K H v "tuple" := by
  obtain ⟨a, x, y, rfl, hz, p⟩ := h
  exact .of (.base (.tup (zh _ _ hz)))
theorem k_isi {v : V} {t c : String} {b : Bool} (h : Pt K H v t) (hk : kitB t c = some b) (k : Q (.bl b) H) : rIsi K [v, .ty c] H Q := by
  obtain ⟨h⟩ := h
  exact ⟨v, .ty c, .type t, .type c, b, rfl, .ty c, h, kit_ty hk, k⟩
/-! ### relations by name -/
def rLenQ (K : Fr) : List V → Hp → VK → Prop := fun xs H Q => ∃ p ys, xs = [V.ref p] ∧ (SqL K H p ys ∨ SqT K H p ys) ∧ Q (.int ys.length) H
def rListQ (K : Fr) : List V → Hp → VK → Prop := fun xs H Q => ∃ p ys, xs = [V.ref p] ∧ (SqL K H p ys ∨ SqT K H p ys) ∧ ∀ l, H l = none → Q (.ref l) (upd H l (.lst ys))
def rIntQ : List V → Hp → VK → Prop := fun xs H Q => ∃ a n, xs = [V.str a] ∧ PySem.intText? a = some n ∧ a.length ≤ 640 ∧ Q (.int n) H
def rJoinQ (K : Fr) : V → List V → Hp → VK → Prop := fun x xs H Q => ∃ a p, ∃ ys : List Str, x = .str a ∧ xs = [.ref p] ∧ (SqL K H p (ys.map V.str) ∨ SqT K H p (ys.map V.str)) ∧ (ys.map (·.length)).sum + ys.length * a.length ≤ 16777216 ∧ Q (.str (Txt.join a ys)) H
def rLstQ : List V → Hp → VK → Prop := fun xs H Q => xs.length ≤ sizeLine ∧ ∀ p, H p = none → Q (.ref p) (upd H p (.lst xs))
def rTupQ : List V → Hp → VK → Prop := fun xs H Q => xs.length ≤ sizeLine ∧ ∀ p, H p = none → Q (.ref p) (upd H p (.tup xs))
def tLstQ (t : TA) : TE := fun σ H Q => t σ H fun xs H1 => rLstQ xs H1 Q
def tTupQ (t : TA) : TE := fun σ H Q => t σ H fun xs H1 => rTupQ xs H1 Q
section
variable {X : Cx} {es : List Expr} {t : TA} {pos : Pos}
theorem call_lenQ : CallR X (.builtin "len") (rLenQ X.K) := call_len_seq
theorem call_listQ : CallR X (.type "list") (rListQ X.K) := call_list_of
theorem call_intQ : CallR X (.type "int") rIntQ := call_int_str
theorem mt_joinQ : MtR X "str.join" (rJoinQ X.K) := mt_join
theorem pe_lstQ (h : PA X es t) : PE X (.List es pos) (tLstQ t) := pe_lst h
theorem pe_tupQ {x1} (h : PA X es t) : PE X (.Tuple es x1 pos) (tTupQ t) := pe_tup h
end
theorem k_lenQ {α : Type} [Py α] {v : V} {l : List α} (zh : Same Z H) (h : Py.R K Z v l) (k : Q (.int (l.length : Int)) H) : rLenQ K [v] H Q := k_len zh h k
theorem k_lenOQ {α : Type} [Py α] {p : Addr} {l : List α} (o : Own K H0 Z H p l) (k : Q (.int (l.length : Int)) H) : rLenQ K [.ref p] H Q := k_lenO o k
theorem k_lenRQ {v : V} {l : Scr} (zh : Same Z H) (h : Py.R K Z v l) (k : Q (.int (l.ns.length : Int)) H) : rLenQ K [v] H Q := k_lenR zh h k
theorem k_listQ {α : Type} [Py α] {v : V} {l : List α} (zh : Same Z H) (h : Py.R K Z v l) (k : New K Z H Q l) : rListQ K [v] H Q := k_listL zh h k
theorem k_lst {α : Type} [Py α] {xs : List V} {m : List α} (zh : Same Z H) (pr : Paired (Py.R K Z) xs m) (hs : xs.length ≤ sizeLine) (k : New K Z H Q m) : rLstQ xs H Q := k_list zh pr hs k
theorem k_tup {α β : Type} [Py α] [Py β] {x y : V} {a : α} {b : β} (zh : Same Z H) (hx : Py.R K Z x a) (hy : Py.R K Z y b) (k : Tel K Z H Q (a, b)) : rTupQ [x, y] H Q := k_pair zh hx hy k
/-! ### more operations -/
def min2 (i j : Int) : Int := if j < i then j else i
def max2 (i j : Int) : Int := if j > i then j else i
def intS (s : Str) : Int := (PySem.intText? s).getD 0
theorem k_intS {s : Str} (h : (PySem.intText? s).isSome = true) (hl : s.length ≤ 640) (k : Q (.int (intS s)) H) : rIntQ [V.str s] H Q := by
  obtain ⟨n, hn⟩ := Option.isSome_iff_exists.mp h
  refine ⟨s, n, rfl, hn, hl, ?_⟩
  have e : intS s = n := by unfold intS; rw [hn]; rfl
  rw [← e]; exact k
def toStr (i : Int) : Str := (toString i : String)
theorem k_join {v : V} {a : Str} {l : List Str} (zh : Same Z H) (h : Py.R K Z v l) (hs : (l.map (·.length)).sum + l.length * a.length ≤ 16777216) (k : Q (.str (Txt.join a l)) H) : rJoinQ K (.str a) [v] H Q := by
  obtain ⟨p, xs, rfl, hz, pr⟩ := h
  obtain rfl := paired_emb pr
  exact ⟨a, p, l, rfl, rfl, .inl (SqL.of (zh _ _ hz)), hs, k⟩
theorem k_joinO {p : Addr} {a : Str} {l : List Str} (o : Own K H0 Z H p l) (hs : (l.map (·.length)).sum + l.length * a.length ≤ 16777216) (k : Q (.str (Txt.join a l)) H) : rJoinQ K (.str a) [.ref p] H Q := by
  obtain ⟨⟨xs, hz, pr⟩, _, _⟩ := o
  obtain rfl := paired_emb pr
  exact ⟨a, p, l, rfl, rfl, .inl (SqL.of hz), hs, k⟩
theorem k_listO {α : Type} [Py α] {q : Addr} {l : List α} (zh : Same Z H) (o : Own K H0 Z H q l) (k : New K Z H Q l) : rListQ K [.ref q] H Q := by
  obtain ⟨⟨xs, hz, pr⟩, _, _⟩ := o
  exact ⟨q, xs, rfl, .inl (SqL.of hz), New.lay zh pr k⟩
def insI {α : Type} (l : List α) (i : Int) (a : α) : List α := l.take i.toNat ++ [a] ++ l.drop i.toNat
end
/-! ### loops by their kinds -/
section
variable {K : Fr} {J : It} {tb : TS} {D : Ends} {σ : St} {H Z : Hp}
theorem loop1S {γ : Type} [Sc γ] {L : List γ} {i : Nat} (src : Src J Z L (fun b x H H' => H' = H ∧ x = Sc.emb b)) (Pv : List γ → St → Hp → Hp → Prop) (keep : ∀ r σ H' Z', Pv r σ H' Z' → Same Z Z' ∧ Same Z' H') (h0 : ∃ Z', Pv L σ H Z')
    (turn : ∀ a r σ H' Z', a ∈ L → (∃ d, L = d ++ a :: r) → Pv (a :: r) σ H' Z' → tb { D with nx := fun σ' H' => ∃ Z2, Pv r σ' H' Z2, ct := fun σ' H' => ∃ Z2, Pv r σ' H' Z2, bk := D.nx } (σ.set i (some (Sc.emb a))) H')
    (done : ∀ σ H' Z', Pv [] σ H' Z' → D.nx σ H') : forRest J (gName i) tb D σ H :=
  forK src Pv keep h0 (fun a r x σ H' H2 Z' hm hd hp y => by obtain ⟨rfl, rfl⟩ := y; exact turn a r σ _ Z' hm hd hp) done
theorem loop1 {γ : Type} [Py γ] {L : List γ} {i : Nat} (src : Src J Z L (fun b x H H' => H' = H ∧ Py.R K Z x b)) (Pv : List γ → St → Hp → Hp → Prop) (keep : ∀ r σ H' Z', Pv r σ H' Z' → Same Z Z' ∧ Same Z' H') (h0 : ∃ Z', Pv L σ H Z')
    (turn : ∀ a r y σ H' Z', a ∈ L → (∃ d, L = d ++ a :: r) → Pv (a :: r) σ H' Z' → Py.R K Z y a → tb { D with nx := fun σ' H' => ∃ Z2, Pv r σ' H' Z2, ct := fun σ' H' => ∃ Z2, Pv r σ' H' Z2, bk := D.nx } (σ.set i (some y)) H')
    (done : ∀ σ H' Z', Pv [] σ H' Z' → D.nx σ H') : forRest J (gName i) tb D σ H :=
  forK src Pv keep h0 (fun a r x σ H' H2 Z' hm hd hp y => by obtain ⟨rfl, hy⟩ := y; exact turn a r x σ _ Z' hm hd hp hy) done
theorem loop2 {α β : Type} {RA : V → α → Prop} {RB : V → β → Prop} {L : List (α × β)} {i j : Nat} (src : Src J Z L (YP RA RB)) (Pv : List (α × β) → St → Hp → Hp → Prop) (keep : ∀ r σ H' Z', Pv r σ H' Z' → Same Z Z' ∧ Same Z' H') (h0 : ∃ Z', Pv L σ H Z')
    (turn : ∀ q r u v σ H' H2 Z', q ∈ L → (∃ d, L = d ++ q :: r) → Pv (q :: r) σ H' Z' → RA u q.1 → RB v q.2 → Step Z' H' Z' H2 → tb { D with nx := fun σ' H' => ∃ Z2, Pv r σ' H' Z2, ct := fun σ' H' => ∃ Z2, Pv r σ' H' Z2, bk := D.nx } ((σ.set i (some u)).set j (some v)) H2)
    (done : ∀ σ H' Z', Pv [] σ H' Z' → D.nx σ H') : forRest J (gTup K 2 (gCons (gName i) (gCons (gName j) gNil))) tb D σ H :=
  forK src Pv keep h0 (fun a r x σ H' H2 Z' hm hd hp y => tgt2 (keep _ _ _ _ hp).2 y fun u v hu hv st => turn a r u v σ H' H2 Z' hm hd hp hu hv st) done
end
theorem loopS_nxt {α S : Type} {f : S → α → S} {s s' t : S} {x : α} {r : List α} (h : loopS f s (x :: r) = t) (e : f s x = s') : loopS f s' r = t := by
  rw [← h, ← e]; rfl
end Cd

set_option Elab.async false
set_option linter.all false
set_option maxRecDepth 100000
set_option maxHeartbeats 4000000
/-! ## Plain facts of texts, lists and loops -/
namespace Cd
open PySem L2
def codes (s : Str) : List Nat := s.cps.toList
def sg (c : Nat) : Str := ⟨#[c]⟩
def mk (l : List Nat) : Str := ⟨l.toArray⟩
theorem codes_mk (l : List Nat) : codes (mk l) = l := by simp [codes, mk]
theorem mk_codes (s : Str) : mk (codes s) = s := by simp [codes, mk]
theorem codes_inj {a b : Str} (h : codes a = codes b) : a = b := by rw [← mk_codes a, h, mk_codes]
theorem codes_iff {a b : Str} : a = b ↔ codes a = codes b := ⟨fun h => by rw [h], codes_inj⟩
theorem len_codes (s : Str) : s.length = (codes s).length := by simp [codes, Str.length]
theorem codes_app (a b : Str) : codes (a ++ b) = codes a ++ codes b := by
  show ((a.cps ++ b.cps).toList) = _
  simp [codes]
theorem codes_sg (c : Nat) : codes (sg c) = [c] := rfl
theorem len_app (a b : Str) : (a ++ b).length = a.length + b.length := Str.length_append a b
theorem len_sg (c : Nat) : (sg c).length = 1 := rfl
theorem len_chS (z : Str) (i : Int) : (chS z i).length = 1 := rfl
theorem sg_inj {a b : Nat} (h : sg a = sg b) : a = b := by
  have := congrArg codes h
  simpa [codes_sg] using this
theorem inR_mod {n : Nat} {x : Int} (h : 0 < (n : Int)) : inR n (x % (n : Int)) := ⟨by have := Int.emod_nonneg x (show (n : Int) ≠ 0 by omega); omega, Int.emod_lt_of_pos x h⟩
/-! ### places -/
theorem atI_nat {α : Type} {l : List α} {i : Int} (h0 : 0 ≤ i) (h1 : i < l.length) : atI l i = l[i.toNat]? := by
  unfold atI ixN
  rw [if_pos h0, if_pos h1]
  rfl
theorem getI_nat {α : Type} [Inhabited α] {l : List α} {i : Int} (h0 : 0 ≤ i) (h1 : i < l.length) : getI l i = l[i.toNat]'(by omega) := by
  unfold getI
  rw [atI_nat h0 h1, List.getElem?_eq_getElem (by omega)]
  rfl
theorem getI_eq {α : Type} [Inhabited α] {l : List α} {i : Int} {a : α} (h0 : 0 ≤ i) (h : l[i.toNat]? = some a) : getI l i = a := by
  have h1 := (List.getElem?_eq_some_iff.mp h).1
  rw [getI_nat h0 (by omega)]
  exact (List.getElem?_eq_some_iff.mp h).2
theorem getI_mem {α : Type} [Inhabited α] {l : List α} {i : Int} (h : inR l.length i) : getI l i ∈ l := by
  have e := atI_get h
  unfold atI at e
  obtain ⟨j, hj, hl⟩ := ixN_some h
  rw [hj] at e
  exact List.mem_of_getElem? e
theorem chS_nat {z : Str} {i : Int} (h0 : 0 ≤ i) (h1 : i < (z.length : Int)) : chS z i = sg ((codes z)[i.toNat]'(by rw [← len_codes]; omega)) := by
  have h2 : i < ((codes z).length : Int) := by rw [← len_codes]; exact h1
  unfold chS sg
  rw [show z.cps.toList = codes z from rfl, atI_nat h0 h2, List.getElem?_eq_getElem (by omega)]
  rfl
theorem chS_sg (z : Str) (i : Int) : ∃ c, chS z i = sg c := ⟨_, rfl⟩
theorem chS_mem {z : Str} {i : Int} (h0 : 0 ≤ i) (h1 : i < (z.length : Int)) : ∃ c ∈ codes z, chS z i = sg c := ⟨_, List.getElem_mem _, chS_nat h0 h1⟩
theorem chars_codes (z : Str) : chars z = (codes z).map sg := rfl
theorem mem_chars {z x : Str} (h : x ∈ chars z) : ∃ c ∈ codes z, x = sg c := by
  rw [chars_codes, List.mem_map] at h
  obtain ⟨c, hc, e⟩ := h
  exact ⟨c, hc, e.symm⟩
theorem chars_len1 {z x : Str} (h : x ∈ chars z) : x.length = 1 := by
  obtain ⟨c, _, rfl⟩ := mem_chars h
  rfl
theorem mem_rangeC1 {lo : Int} {n : Nat} {a : Int} (h : a ∈ rangeC lo (-(1 : Int)) n) : a ≤ lo ∧ lo - (n : Int) < a := by
  unfold rangeC at h
  rw [List.mem_map] at h
  obtain ⟨i, h, rfl⟩ := h
  rw [List.mem_range] at h
  omega
theorem min2_eq (i j : Int) : min2 i j = min i j := by unfold min2; omega
theorem max2_eq (i j : Int) : max2 i j = max i j := by unfold max2; omega
/-! ### pieces -/
theorem sIx_some {n d : Nat} {i : Int} (h : 0 ≤ i) : HT.sIx n d (some i) = min i.toNat n := by
  obtain ⟨k, rfl⟩ := Int.eq_ofNat_of_zero_le h
  rw [HT.sIx_nat]
  rfl
theorem codes_cut (z : Str) (lo hi : Option Int) : codes (cutS z lo hi) = cutL (codes z) lo hi := by
  unfold cutS cutL codes
  simp [Str.length]
theorem cutL_some {α : Type} {l : List α} {i j : Int} (hi : 0 ≤ i) (hj : 0 ≤ j) : cutL l (some i) (some j) = (l.take j.toNat).drop i.toNat := by
  unfold cutL
  rw [sIx_some hi, sIx_some hj]
  apply List.ext_getElem?
  intro k
  simp only [List.getElem?_take, List.getElem?_drop]
  by_cases h1 : i.toNat ≤ l.length
  · rw [Nat.min_eq_left h1]
    by_cases h2 : j.toNat ≤ l.length
    · rw [Nat.min_eq_left h2]
      by_cases h3 : k < j.toNat - i.toNat
      · rw [if_pos h3, if_pos (by omega)]
      · rw [if_neg h3, if_neg (by omega)]
    · rw [Nat.min_eq_right (by omega)]
      by_cases h3 : k < l.length - i.toNat
      · rw [if_pos h3, if_pos (by omega)]
      · rw [if_neg h3, List.getElem?_eq_none (show l.length ≤ i.toNat + k by omega)]
        simp
  · rw [Nat.min_eq_right (show l.length ≤ i.toNat by omega)]
    rw [List.getElem?_eq_none (show l.length ≤ l.length + k by omega), List.getElem?_eq_none (show l.length ≤ i.toNat + k by omega)]
    simp
theorem cutL_from {α : Type} {l : List α} {i : Int} (hi : 0 ≤ i) : cutL l (some i) none = l.drop i.toNat := by
  unfold cutL
  rw [sIx_some hi, HT.sIx_none]
  by_cases h1 : i.toNat ≤ l.length
  · rw [Nat.min_eq_left h1, List.take_of_length_le (by rw [List.length_drop]; exact Nat.le_refl _)]
  · rw [Nat.min_eq_right (by omega), List.drop_length, List.drop_eq_nil_of_le (by omega)]
    simp
theorem cutL_to {α : Type} {l : List α} {j : Int} (hj : 0 ≤ j) : cutL l none (some j) = l.take j.toNat := by
  unfold cutL
  rw [sIx_some hj, HT.sIx_none]
  show (l.drop 0).take (min j.toNat l.length - 0) = _
  rw [List.drop_zero, Nat.sub_zero]
  by_cases h1 : j.toNat ≤ l.length
  · rw [Nat.min_eq_left h1]
  · rw [Nat.min_eq_right (by omega), List.take_length, List.take_of_length_le (by omega)]
theorem cutL_len_le {α : Type} (l : List α) (lo hi : Option Int) : (cutL l lo hi).length ≤ l.length := by
  unfold cutL
  rw [List.length_take, List.length_drop]
  omega
theorem cutL_mem {α : Type} {l : List α} {lo hi : Option Int} {x : α} (h : x ∈ cutL l lo hi) : x ∈ l := List.mem_of_mem_drop (List.mem_of_mem_take h)
theorem len_cut_le (z : Str) (lo hi : Option Int) : (cutS z lo hi).length ≤ z.length := by
  rw [len_codes, codes_cut, len_codes]
  exact cutL_len_le _ _ _
theorem cutL_nil {α : Type} (lo hi : Option Int) : cutL ([] : List α) lo hi = [] := List.eq_nil_of_length_eq_zero (Nat.le_zero.mp (cutL_len_le _ lo hi))
/-! ### one sign in a text -/
theorem inS_sg (c : Nat) (z : Str) : inS (sg c) z = decide (c ∈ codes z) := PySem.StrLaws.found_one z c
theorem idxOf_first {c : Nat} : ∀ {l : List Nat} {i : Nat}, l[i]? = some c → (∀ k, k < i → ¬ l[k]? = some c) → l.idxOf c = i
  | [], _, h, _ => by simp at h
  | a :: r, 0, h, _ => by
    have e : a = c := by simpa using h
    subst e
    exact List.idxOf_cons_self
  | a :: r, i + 1, h, hn => by
    have h0 : ¬ a = c := fun e => hn 0 (Nat.succ_pos i) (by simp [e])
    rw [List.idxOf_cons, show (a == c) = false by simpa using h0]
    show r.idxOf c + 1 = i + 1
    rw [idxOf_first (l := r) (i := i) (by simpa using h) fun k hk => by simpa using hn (k + 1) (Nat.succ_lt_succ hk)]
theorem find_sg (z : Str) (c : Nat) : Txt.find z (sg c) = if c ∈ codes z then (((codes z).idxOf c : Nat) : Int) else -1 := by
  have key : ∀ i, PySem.StrLaws.At z (sg c) z.length i ↔ (codes z)[i]? = some c := fun i => PySem.StrLaws.subAt_one z c i
  unfold Txt.find
  rcases PySem.StrLaws.occ_head z (sg c) 1 (Nat.le_refl 1) with ⟨h0, hn⟩ | ⟨i, r, h0, hi, hn⟩
  · rw [h0, if_neg]
    intro hm
    obtain ⟨k, hk⟩ := List.getElem?_of_mem hm
    exact hn k ((key k).mpr hk)
  · rw [h0]
    have hi2 := (key i).mp hi
    rw [if_pos (List.mem_of_getElem? hi2)]
    have hlt := (List.getElem?_eq_some_iff.mp hi2).1
    rw [idxOf_first hi2 fun k hk z => hn k hk ((key k).mpr z)]
theorem cutL_to_len {α : Type} (l : List α) {j : Int} (h : 0 ≤ j) : (cutL l none (some j)).length ≤ j.toNat := by
  rw [cutL_to h, List.length_take]
  omega
theorem cutL_lit_len {α : Type} (l : List α) {i j : Int} (hi : 0 ≤ i) (h : 0 ≤ j) : (cutL l (some i) (some j)).length ≤ j.toNat - i.toNat := by
  rw [cutL_some hi h, List.length_drop, List.length_take]
  omega
/-! ### loops -/
theorem rangeL_zero (lo : Int) : rangeL lo 0 = [] := rfl
theorem rangeL_succ (lo : Int) (n : Nat) : rangeL lo (n + 1) = lo :: rangeL (lo + 1) n := by
  unfold rangeL
  rw [List.range_succ_eq_map, List.map_cons, List.map_map]
  congr 1
  · omega
  · apply List.map_congr_left
    intro i _
    show lo + ((i + 1 : Nat) : Int) = lo + 1 + (i : Int)
    omega
theorem enumL_cons {α : Type} (k : Int) (a : α) (r : List α) : enumL k (a :: r) = (k, a) :: enumL (k + 1) r := by
  unfold enumL
  rw [List.length_cons, rangeL_succ]
  rfl
theorem enumL_nil {α : Type} (k : Int) : enumL k ([] : List α) = [] := rfl
theorem enumL_len {α : Type} (k : Int) (l : List α) : (enumL k l).length = l.length := by
  unfold enumL
  rw [List.length_zip, rangeL_len]
  omega
theorem mem_enumL {α : Type} {k : Int} {l : List α} {q : Int × α} (h : q ∈ enumL k l) : k ≤ q.1 ∧ q.1 < k + l.length ∧ q.2 ∈ l := by
  unfold enumL at h
  obtain ⟨a, b⟩ := q
  have h1 := mem_rangeL.mp (List.of_mem_zip h).1
  exact ⟨h1.1, h1.2, (List.of_mem_zip h).2⟩
theorem loopS_inv {α S : Type} {f : S → α → S} {l : List α} {s : S} (I : Nat → S → Prop) (h0 : I 0 s) (hs : ∀ i s x, x ∈ l → I i s → I (i + 1) (f s x)) : I l.length (loopS f s l) := by
  have key : ∀ (r : List α) (i : Nat) (s : S), (∀ x ∈ r, x ∈ l) → I i s → I (i + r.length) (loopS f s r) := by
    intro r
    induction r with
    | nil => intro i s _ h; exact h
    | cons x r ih =>
      intro i s hm h
      have h1 := ih (i + 1) (f s x) (fun y hy => hm y (List.mem_cons_of_mem _ hy)) (hs i s x (hm x List.mem_cons_self) h)
      rw [List.length_cons, show i + (r.length + 1) = i + 1 + r.length by omega]
      exact h1
  have h := key l 0 s (fun _ h => h) h0
  rw [Nat.zero_add] at h
  exact h
theorem loopS_congr {α S : Type} {f g : S → α → S} : ∀ {l : List α} {s : S}, (∀ x ∈ l, ∀ s, f s x = g s x) → loopS f s l = loopS g s l
  | [], _, _ => rfl
  | x :: r, s, h => by
    show loopS f (f s x) r = loopS g (g s x) r
    rw [h x List.mem_cons_self s]
    exact loopS_congr fun y hy => h y (List.mem_cons_of_mem _ hy)
theorem loopS_app {α S : Type} {f : S → α → S} : ∀ {l m : List α} {s : S}, loopS f s (l ++ m) = loopS f (loopS f s l) m
  | [], _, _ => rfl
  | x :: r, m, s => loopS_app (l := r) (m := m) (s := f s x)
/-- every turn goes on -/
theorem loopR_go {α S R : Type} {f : S → α → LR S R} (I : S → Prop) : ∀ {l : List α} {s : S}, (∀ s x, x ∈ l → I s → ∃ s', f s x = .nxt s' ∧ I s') → I s → ∃ s', loopR f s l = .nxt s' ∧ I s'
  | [], s, _, h => ⟨s, rfl, h⟩
  | x :: r, s, hs, h => by
    obtain ⟨s1, e, h1⟩ := hs s x List.mem_cons_self h
    obtain ⟨s2, e2, h2⟩ := loopR_go I (l := r) (fun s y hy => hs s y (List.mem_cons_of_mem _ hy)) h1
    refine ⟨s2, ?_, h2⟩
    show (match f s x with | .nxt s' => loopR f s' r | .brk s' => .brk s' | .ret v => .ret v) = _
    rw [e]
    exact e2
theorem loopR_unit {α R : Type} {f : Unit → α → LR Unit R} {l : List α} {s : Unit} (h : ∀ x ∈ l, f () x = .nxt ()) : loopR f s l = .nxt () := by
  obtain ⟨s', e, _⟩ := loopR_go (f := f) (fun _ => True) (l := l) (s := s) (fun s x hx _ => ⟨(), h x hx, trivial⟩) trivial
  exact e
/-- a text grown by the signs at rising places is a piece -/
theorem grow_cut (z : Str) : ∀ (n : Nat) (a : Int) (d : Str), 1 ≤ a → a - 1 + (n : Int) ≤ (z.length : Int) → codes (loopS (fun d c => d ++ chS z (c - 1)) d (rangeL a n)) = codes d ++ ((codes z).drop (a - 1).toNat).take n
  | 0, a, d, _, _ => by
    rw [rangeL_zero, List.take_zero, List.append_nil]
    rfl
  | n + 1, a, d, h0, h1 => by
    rw [rangeL_succ]
    show codes (loopS _ (d ++ chS z (a - 1)) (rangeL (a + 1) n)) = _
    rw [grow_cut z n (a + 1) _ (by omega) (by omega), codes_app, chS_nat (by omega) (by omega), codes_sg]
    have hlt : (a - 1).toNat < (codes z).length := by rw [← len_codes]; omega
    rw [List.drop_eq_getElem_cons hlt, List.take_succ_cons, show (a + 1 - 1).toNat = (a - 1).toNat + 1 by omega, List.append_assoc]
    rfl
/-- one sign among the figures -/
theorem fig_int {c : Nat} (h : 48 ≤ c ∧ c ≤ 57) : PySem.intText? (sg c) = some ((c - 48 : Nat) : Int) := by
  have : c = 48 ∨ c = 49 ∨ c = 50 ∨ c = 51 ∨ c = 52 ∨ c = 53 ∨ c = 54 ∨ c = 55 ∨ c = 56 ∨ c = 57 := by omega
  rcases this with rfl | rfl | rfl | rfl | rfl | rfl | rfl | rfl | rfl | rfl <;> decide +kernel
theorem fig_mem {c : Nat} : c ∈ [48, 49, 50, 51, 52, 53, 54, 55, 56, 57] ↔ 48 ≤ c ∧ c ≤ 57 := by
  simp only [List.mem_cons, List.not_mem_nil, or_false]
  omega
theorem fig_idx {c : Nat} (h : 48 ≤ c ∧ c ≤ 57) : [48, 49, 50, 51, 52, 53, 54, 55, 56, 57].idxOf c = c - 48 := by
  have : c = 48 ∨ c = 49 ∨ c = 50 ∨ c = 51 ∨ c = 52 ∨ c = 53 ∨ c = 54 ∨ c = 55 ∨ c = 56 ∨ c = 57 := by omega
  rcases this with rfl | rfl | rfl | rfl | rfl | rfl | rfl | rfl | rfl | rfl <;> decide
theorem fig_some {x z : Str} (h : x ∈ chars z) (hs : inS x "0123456789" = true) : (PySem.intText? x).isSome = true := by
  obtain ⟨c, _, rfl⟩ := mem_chars h
  rw [inS_sg, show codes "0123456789" = [48, 49, 50, 51, 52, 53, 54, 55, 56, 57] by decide +kernel] at hs
  rw [fig_int (fig_mem.mp (of_decide_eq_true hs))]
  rfl
theorem intS_fig {c : Nat} (h : 48 ≤ c ∧ c ≤ 57) : intS (sg c) = ((c - 48 : Nat) : Int) := by
  unfold intS
  rw [fig_int h]
  rfl
end Cd

set_option Elab.async false
set_option linter.all false
set_option maxRecDepth 100000
set_option maxHeartbeats 4000000
namespace Cd
open PySem L2
def topS (i : Nat) : Stmt := PySem.Challenge.pw_cardshop_k04_parts_and_numbers.main.body.getD i (.Pass ⟨0, 0, 0, 0⟩)

/-! ### mirrors -/
def m_part_of (a_card : Str) (a_field : (Int × Int)) : Str :=
  (cutS a_card (some ((a_field).1 - (1 : Int))) (some (a_field).2))
def m_number_of_b0 (ls7 : Int) (sign_10 : Str) : (Int) :=
  let total_3 := ls7
  let total_22 : Int := ((10 : Int) * total_3)
  if (inS sign_10 ("0123456789" : Str)) = true then (
  let total_26 : Int := (total_22 + (intS sign_10))
  total_26)
  else (
  total_22)
def m_number_of (a_card : Str) (a_field : (Int × Int)) : Int :=
  let total_1 : Int := (0 : Int)
  let total_3 : Int := loopS m_number_of_b0 total_1 (chars (m_part_of a_card a_field))
  total_3
def m_law_cell_at (a_law_script : Scr) (a_law_k : Int) : Int :=
  if (decide (a_law_k < ((a_law_script).ns.length : Int))) = true then (
  (getI a_law_script.ns a_law_k))
  else (
  (0 : Int))
def m_law_whole (a_law_found : Int) : Bool :=
  (true && (!false))
def m_law_mixed (a_law_cell : Int) (a_law_k : Int) : Int :=
  ((((((a_law_cell % (2147483647 : Int)) + (((7 : Int) * a_law_k) * a_law_k)) + ((11 : Int) * a_law_k)) + (1 : Int)) * (48271 : Int)) % (2147483647 : Int))
def m_law_card_b0 (a_law_script : Scr) (ls7 : Str) (k_10 : Int) : (Str) :=
  let card_here_3 := ls7
  let cell_22 : Int := (0 : Int)
  let cell_24 : Int := (if (decide ((0 : Int) < ((a_law_script).ns.length : Int))) = true then (
  let cell_30 : Int := (getI a_law_script.ns (k_10 % ((a_law_script).ns.length : Int)))
  cell_30)
  else (
  cell_22))
  let number_here_35 : Int := (m_law_mixed cell_24 k_10)
  if ((decide ((0 : Int) < ((m_law_cell_at a_law_script (0 : Int)) % (3 : Int)))) && (decide ((0 : Int) < (number_here_35 % (5 : Int))))) = true then (
  let card_here_39 : Str := (card_here_3 ++ (chS ("0123456789" : Str) ((number_here_35 / (5 : Int)) % (10 : Int))))
  card_here_39)
  else (
  let card_here_43 : Str := (card_here_3 ++ (chS (" 0123456789ABCDEFGHIJKLMNOPQRSTUVWXYZ" : Str) ((number_here_35 / (5 : Int)) % (37 : Int))))
  card_here_43)
def m_law_card (a_law_script : Scr) : Str :=
  let card_here_1 : Str := ("" : Str)
  let card_here_3 : Str := loopS (m_law_card_b0 a_law_script) card_here_1 (rangeL 0 ((40 : Int)).toNat)
  card_here_3
def m_law_field (a_law_cell : Int) (a_law_k : Int) : (Int × Int) :=
  let number_here_1 : Int := (m_law_mixed a_law_cell ((40 : Int) + a_law_k))
  let first_3 : Int := ((1 : Int) + ((number_here_1 / (8 : Int)) % (36 : Int)))
  if (decide ((number_here_1 % (8 : Int)) = (0 : Int))) = true then (
  (first_3, first_3))
  else (
  if (decide ((number_here_1 % (8 : Int)) = (1 : Int))) = true then (
  ((1 : Int), (36 : Int)))
  else (
  let last_19 : Int := ((1 : Int) + (((number_here_1 * number_here_1) % (2147483629 : Int)) % (36 : Int)))
  ((min2 first_3 last_19), (max2 first_3 last_19))))
def m_law_number_b0 (ls7 : Int) (sign_10 : Str) : (Int) :=
  let total_3 := ls7
  let total_22 : Int := (((10 : Int) * total_3) + (max2 (0 : Int) (Txt.find ("0123456789" : Str) sign_10)))
  total_22
def m_law_number (a_law_signs : Str) : Int :=
  let total_1 : Int := (0 : Int)
  let total_3 : Int := loopS m_law_number_b0 total_1 (chars a_law_signs)
  total_3
def m_law_b1 (card_here_1 : Str) (ls58 : Str) (column_61 : Int) : (Str) :=
  let due_54 := ls58
  let due_73 : Str := (due_54 ++ (chS card_here_1 (column_61 - (1 : Int))))
  due_73
def m_law_b0 (card_here_1 : Str) (ls23 : Unit) (q35 : (Int × Int)) : (LR (Unit) Bool) :=
  let k_42 := q35.1
  let cell_44 := q35.2
  let field_here_46 : (Int × Int) := (m_law_field cell_44 k_42)
  let due_52 : Str := ("" : Str)
  let due_54 : Str := loopS (m_law_b1 card_here_1) due_52 (rangeL (field_here_46).1 (((field_here_46).2 + (1 : Int)) - (field_here_46).1).toNat)
  let found_88 : Str := (m_part_of card_here_1 field_here_46)
  if ((!true) || (!decide (found_88 = due_54))) = true then (
  (.ret false))
  else (
  let number_here_95 : Int := (m_number_of card_here_1 field_here_46)
  if ((!(m_law_whole number_here_95)) || (!decide (number_here_95 = (m_law_number due_54)))) = true then (
  (.ret false))
  else (
  (.nxt ())))
def m_law (a_law_script : Scr) : Bool :=
  let card_here_1 : Str := (m_law_card a_law_script)
  LR.bind (loopR (m_law_b0 card_here_1) () (enumL 0 ([(0 : Int)] ++ (cutL a_law_script.ns none (some (84 : Int)))))) (fun ls113 : Unit => (
  true))
/-! ### the plain law -/
theorem len_lit2 : (("0123456789" : Str)).length = 10 := by decide +kernel
theorem cd_lit2 : codes (("0123456789" : Str)) = [48, 49, 50, 51, 52, 53, 54, 55, 56, 57] := by decide +kernel
theorem len_lit1 : ((" 0123456789ABCDEFGHIJKLMNOPQRSTUVWXYZ" : Str)).length = 37 := by decide +kernel
theorem cd_lit1 : codes ((" 0123456789ABCDEFGHIJKLMNOPQRSTUVWXYZ" : Str)) = [32, 48, 49, 50, 51, 52, 53, 54, 55, 56, 57, 65, 66, 67, 68, 69, 70, 71, 72, 73, 74, 75, 76, 77, 78, 79, 80, 81, 82, 83, 84, 85, 86, 87, 88, 89, 90] := by decide +kernel
theorem len_lit0 : (("" : Str)).length = 0 := by decide +kernel
theorem cd_lit0 : codes (("" : Str)) = [] := by decide +kernel

theorem mixed_rng (c k : Int) : 0 ≤ m_law_mixed c k ∧ m_law_mixed c k < 2147483647 := by
  unfold m_law_mixed
  omega
theorem field_rng (c k : Int) : 1 ≤ (m_law_field c k).1 ∧ (m_law_field c k).1 ≤ (m_law_field c k).2 ∧ (m_law_field c k).2 ≤ 36 := by
  unfold m_law_field
  dsimp only
  have h := mixed_rng c (40 + k)
  generalize m_law_mixed c (40 + k) = n at h
  have hb : 0 ≤ n * n % 2147483629 := Int.emod_nonneg _ (by decide)
  generalize n * n % 2147483629 = m at hb
  split
  · dsimp only; omega
  · split
    · decide
    · dsimp only
      rw [min2_eq, max2_eq]
      omega
theorem card_len (s : Scr) : (m_law_card s).length = 40 := by
  unfold m_law_card
  have h := loopS_inv (f := m_law_card_b0 s) (l := rangeL 0 (40 : Int).toNat) (s := ("" : Str)) (fun i z => z.length = i) (by decide +kernel) (fun i z x _ e => by
    unfold m_law_card_b0
    dsimp only
    split <;> split <;> rw [len_app, len_chS, e])
  rw [rangeL_len] at h
  exact h
theorem due_eq (z : Str) (a b : Int) (h1 : 1 ≤ a) (h2 : a ≤ b) (h3 : b ≤ z.length) : loopS (m_law_b1 z) "" (rangeL a (b + 1 - a).toNat) = cutS z (some (a - 1)) (some b) := by
  apply codes_inj
  have e : m_law_b1 z = fun d c => d ++ chS z (c - 1) := rfl
  rw [e, grow_cut z _ a _ h1 (by omega), codes_cut, cutL_some (by omega) (by omega), show codes "" = [] from cd_lit0, List.nil_append, List.take_drop]
  congr 1
  rw [show (a - 1).toNat + (b + 1 - a).toNat = b.toNat by omega]
theorem num_eq (p : Str) : loopS m_number_of_b0 0 (chars p) = m_law_number p := by
  unfold m_law_number
  refine loopS_congr fun x hx t => ?_
  obtain ⟨c, _, rfl⟩ := mem_chars hx
  unfold m_number_of_b0 m_law_number_b0
  dsimp only
  rw [inS_sg, find_sg, max2_eq]
  rw [show codes "0123456789" = [48, 49, 50, 51, 52, 53, 54, 55, 56, 57] by decide +kernel]
  by_cases h : 48 ≤ c ∧ c ≤ 57
  · rw [if_pos (decide_eq_true (fig_mem.mpr h)), if_pos (fig_mem.mpr h), intS_fig h, fig_idx h]
    omega
  · rw [if_neg (fun z => h (fig_mem.mp (of_decide_eq_true z))), if_neg (fun z => h (fig_mem.mp z))]
    omega
theorem law_true (s : Scr) (h : s.ns.length ≤ 63) : m_law s = true := by
  unfold m_law
  dsimp only
  refine bind_nxt (s := ()) (loopR_unit fun q hq => ?_)
  have hc := card_len s
  generalize m_law_card s = z at hc
  unfold m_law_b0
  dsimp only
  have hf := field_rng q.2 q.1
  generalize m_law_field q.2 q.1 = f at hf
  rw [due_eq z f.1 f.2 hf.1 hf.2.1 (by omega)]
  have e1 : m_part_of z f = cutS z (some (f.1 - 1)) (some f.2) := rfl
  rw [← e1, if_neg (by simp), if_neg]
  have e2 : m_number_of z f = loopS m_number_of_b0 0 (chars (m_part_of z f)) := rfl
  rw [e2, num_eq]
  simp [m_law_whole]

/-! ### promises -/
def sp_part_of (K : Fr) : Sp := fun vs H Q _ => ∃ (Z : Hp) (a_card : Str) (a_field : (Int × Int)) (v_field : V), vs = [(.str a_card), v_field] ∧ Same Z H ∧ Py.R K Z v_field a_field ∧ a_card.length ≤ 1000 ∧ Q (.str (m_part_of a_card a_field)) H
def sp_number_of (K : Fr) : Sp := fun vs H Q _ => ∃ (Z : Hp) (a_card : Str) (a_field : (Int × Int)) (v_field : V), vs = [(.str a_card), v_field] ∧ Same Z H ∧ Py.R K Z v_field a_field ∧ a_card.length ≤ 1000 ∧ Q (.int (m_number_of a_card a_field)) H
def sp_law_cell_at (K : Fr) : Sp := fun vs H Q _ => ∃ (Z : Hp) (a_law_script : Scr) (v_law_script : V) (a_law_k : Int), vs = [v_law_script, (.int a_law_k)] ∧ Same Z H ∧ Py.R K Z v_law_script a_law_script ∧ 0 ≤ a_law_k ∧ Q (.int (m_law_cell_at a_law_script a_law_k)) H
def sp_law_whole (K : Fr) : Sp := fun vs H Q _ => ∃ (Z : Hp) (a_law_found : Int), vs = [(.int a_law_found)] ∧ Same Z H ∧ Q (.bl (m_law_whole a_law_found)) H
def sp_law_mixed (K : Fr) : Sp := fun vs H Q _ => ∃ (Z : Hp) (a_law_cell : Int) (a_law_k : Int), vs = [(.int a_law_cell), (.int a_law_k)] ∧ Same Z H ∧ 0 ≤ a_law_k ∧ a_law_k ≤ 1000 ∧ Q (.int (m_law_mixed a_law_cell a_law_k)) H
def sp_law_card (K : Fr) : Sp := fun vs H Q _ => ∃ (Z : Hp) (a_law_script : Scr) (v_law_script : V), vs = [v_law_script] ∧ Same Z H ∧ Py.R K Z v_law_script a_law_script ∧ Q (.str (m_law_card a_law_script)) H
def sp_law_field (K : Fr) : Sp := fun vs H Q _ => ∃ (Z : Hp) (a_law_cell : Int) (a_law_k : Int), vs = [(.int a_law_cell), (.int a_law_k)] ∧ Same Z H ∧ 0 ≤ a_law_k ∧ a_law_k ≤ 100 ∧ Tel K Z H Q (m_law_field a_law_cell a_law_k)
def sp_law_number (K : Fr) : Sp := fun vs H Q _ => ∃ (Z : Hp) (a_law_signs : Str), vs = [(.str a_law_signs)] ∧ Same Z H ∧ Q (.int (m_law_number a_law_signs)) H
def sp_law (K : Fr) : Sp := fun vs H Q _ => ∃ (Z : Hp) (a_law_script : Scr) (v_law_script : V), vs = [v_law_script] ∧ Same Z H ∧ Py.R K Z v_law_script a_law_script ∧ Tel K Z H Q (m_law a_law_script)
structure Txt (K : Fr) (mg : Str → Option Value) : Prop where
  b_bool : mg "bool" = none
  b_enumerate : mg "enumerate" = none
  b_int : mg "int" = none
  b_isinstance : mg "isinstance" = none
  b_len : mg "len" = none
  b_max : mg "max" = none
  b_min : mg "min" = none
  b_range : mg "range" = none
  b_str : mg "str" = none
  g_FIGURES : ∃ t, mg "FIGURES" = some (.str ("0123456789" : Str) t)
section
variable {P : Program} {w : World} {K : Fr} {mg : Str → Option Value} {base : Heap}

local macro_rules | `(tactic| walk_at "vcx") => `(tactic| fail "vcx")
local macro_rules | `(tactic| walk_at "vc") => `(tactic| first | omega | (unfold inR; (try simp only [len_app, len_chS, len_sg, sizeLine_eq, List.length_append, List.length_cons, List.length_nil, len_lit0, len_lit1, len_lit2]); omega) | ((try simp only [len_app, len_chS, len_sg, sizeLine_eq, List.length_append, List.length_cons, List.length_nil, len_lit0, len_lit1, len_lit2]); omega) | (simp only [decide_eq_true_eq, Bool.and_eq_true, Bool.not_eq_true', decide_eq_false_iff_not, inR, len_app, len_chS, len_sg, sizeLine_eq, List.length_append, List.length_cons, List.length_nil, len_lit0, len_lit1, len_lit2] at *; omega) | assumption | decide | exact inR_mod (by omega) | walk_at "vcx")
local macro_rules | `(tactic| walk_at "vcm") => `(tactic| first | exact .inr ⟨by decide, by decide⟩ | exact .inl ⟨by decide, by decide⟩ | exact .inr ⟨by omega, by omega⟩ | exact .inl ⟨by omega, by omega⟩ | walk_at "vcx")
local macro_rules | `(tactic| walk_at "vcint") => `(tactic| first | exact fig_some (by assumption) (by assumption) | walk_at "vcx")
local macro_rules | `(tactic| walk_at "vcstr") => `(tactic| walk_at "vcx")
local macro_rules | `(tactic| walk_at "vcok") => `(tactic| first | rfl | walk_at "vcx")
local macro_rules | `(tactic| walk_at "inv") => `(tactic| first | omega | (simp only [rangeL_len, enumL_len, chars_len, len_app, len_chS, len_sg, sizeLine_eq, List.length_append, List.length_cons, List.length_nil, len_lit0, len_lit1, len_lit2]; omega) | (simp only [rangeL_len, enumL_len, chars_len, List.length_cons, len_app, len_chS, len_sg, sizeLine_eq, List.length_append, List.length_cons, List.length_nil, len_lit0, len_lit1, len_lit2] at *; omega) | walk_at "vcx")


theorem sc_part_of : FnScope ["card", "field"] ["card", "field"] (defScope (topS 2)) := ⟨rfl, rfl, rfl, by decide +kernel, rfl, by decide +kernel, by decide +kernel⟩
theorem okf_part_of {f : Addr} {fd : FuncData} (F : Fun K "part_of" "part_of" (topS 2) f fd) (T : Txt K mg) : FnOk P w K mg base CX0 1 f fd ["card", "field"] (sp_part_of K) := by
  refine F.ok sc_part_of (fun vs H0 Q E h => ?_) (fun cdv A outer s H0 vs Q E hr h => ?_)
  · obtain ⟨Z0, a_card, a_field, v_field, rfl, _⟩ := h
    rfl
  · obtain ⟨Z0, a_card, a_field, v_field, rfl, zh, h_field, pre0, k⟩ := h
    have nd := sc_part_of.nd
    have c : Step Z0 H0 Z0 H0 := Step.refl zh
    refine ⟨_, (pss_one (ps_ret (pe_slice sl_str (pv 0) (po_some (pe_op op_sub (pe_ix ix_tup (pv 1) (pcK pe_int) (fun _ _ => rfl)) (pcK pe_int))) (po_some (pe_ix ix_tup (pv 1) (pcK pe_int) (fun _ _ => rfl)))))), ?_⟩
    have e1 : (m_part_of a_card a_field) = (cutS a_card (some ((a_field).1 - (1 : Int))) (some (a_field).2)) := (by exact rfl)
    rw [e1] at k
    refine ⟨_, rfl, ⟨_, rfl, ⟨trivial, (k_fstS c.zh h_field ⟨trivial, ⟨_, _, rfl, rfl, ⟨_, rfl, ⟨_, rfl, ⟨trivial, (k_sndS c.zh h_field ⟨_, rfl, ⟨_, rfl, (by walk_at "vc"), k⟩⟩)⟩⟩⟩⟩⟩)⟩⟩⟩
theorem ok_part_of {f : Addr} {fd : FuncData} (F : Fun K "part_of" "part_of" (topS 2) f fd) (gm : mg "part_of" = some (.ref f)) (T : Txt K mg) : Cal P w K mg base CX0 "part_of" 1 ["card", "field"] (sp_part_of K) :=
  ⟨⟨f, fd, okf_part_of F T, gm, F.kp, F.binds (ps := ["card", "field"]) fun _ _ _ _ _ _ us hl => match us, hl with | [_, _], _ => rfl⟩⟩
theorem sc_number_of : FnScope ["card", "field", "total", "sign"] ["card", "field"] (defScope (topS 3)) := ⟨rfl, rfl, rfl, by decide +kernel, rfl, by decide +kernel, by decide +kernel⟩
theorem okf_number_of {f : Addr} {fd : FuncData} (F : Fun K "number_of" "number_of" (topS 3) f fd) (T : Txt K mg) (C_part_of : Cal P w K mg base CX0 "part_of" 1 ["card", "field"] (sp_part_of K)) : FnOk P w K mg base CX0 2 f fd ["card", "field"] (sp_number_of K) := by
  refine F.ok sc_number_of (fun vs H0 Q E h => ?_) (fun cdv A outer s H0 vs Q E hr h => ?_)
  · obtain ⟨Z0, a_card, a_field, v_field, rfl, _⟩ := h
    rfl
  · obtain ⟨Z0, a_card, a_field, v_field, rfl, zh, h_field, pre0, k⟩ := h
    obtain ⟨t_FIGURES, g_FIGURES⟩ := T.g_FIGURES
    have nd := sc_number_of.nd
    have c : Step Z0 H0 Z0 H0 := Step.refl zh
    refine ⟨_, (pss_cons (ps_set (i := 2) nd rfl (Or.inl rfl) (pcK pe_int)) (pss_cons (ps_for PassesOwn.never rfl (pi_str (pe_cal C_part_of (hr.mono (by decide)) pass0 (pa_cons (pv 0) (pa_cons (pv 1) pnK)))) (pg_name (i := 3) nd rfl (Or.inl rfl)) (pss_cons (ps_set (i := 2) nd rfl (Or.inl rfl) (pe_op op_mul (pcK pe_int) (pv 2))) (pss_one (ps_if (pt_cmpR op_in_str (pv 3) (pcK (pe_glob (v := .str ("0123456789" : Str)) rfl g_FIGURES ⟨_, rfl⟩)) (by rfl)) (pss_one (ps_set (i := 2) nd rfl (Or.inl rfl) (pe_op op_add (pv 2) (pe_callTy call_intQ (by rfl) T.b_int PyProof.Rows.boot_int (pa_cons (pv 3) pnK))))) pss_nil)))) (pss_one (ps_ret (pv 2))))), ?_⟩
    refine ⟨trivial, (storeI fun total_1 en2 => ?_)⟩
    refine ⟨_, rfl, ⟨_, rfl, ⟨trivial, ⟨_, _, _, _, rfl, c.zh, h_field, (by walk_at "vc"), ⟨_, rfl, (loop1S (Z := Z0) (src_str _) (fun rr σr Hr Zr => ∃ (total_3 : Int) (w_sign : Option V), σr = [some (.str a_card), some v_field, some (.int total_3), w_sign] ∧ H0 = Hr ∧ Step Z0 H0 Zr Hr ∧ Same Z0 Zr ∧ (loopS m_number_of_b0 total_3 rr = loopS m_number_of_b0 total_1 (chars (m_part_of a_card a_field)))) ?_ ?_ ?_ ?_)⟩⟩⟩⟩⟩
    · rintro rr σr Hr Zr hk
      obtain ⟨total_3, w_sign, rfl, eH34, c, sm4, hl32⟩ := hk
      subst eH34
      have h_field := Py.mono sm4 h_field
      exact ⟨sm4, c.zh⟩
    · have sm4 := Same.refl Z0
      exact ⟨Z0, total_1, (none), rfl, rfl, c, sm4, rfl⟩
    · skip
      intro sign_10 r11 sg13 H14 Z16 mem17 dec18 hp19
      obtain ⟨total_3, w_sign, rfl, eH21, c, sm4, hl9⟩ := hp19
      subst eH21
      have h_field := Py.mono sm4 h_field
      have ls_sign_10 := chars_len1 mem17
      refine ⟨trivial, ⟨_, rfl, ⟨_, _, rfl, rfl, (by walk_at "vcm"), (storeI fun total_22 en23 => ?_)⟩⟩⟩
      refine ⟨_, rfl, ⟨trivial, ⟨_, _, rfl, rfl, ⟨_, rfl, (ite2 (fun e24 => ?_) (fun e25 => ?_))⟩⟩⟩⟩
      · skip
        have de24 := e24; (try simp only [decide_eq_true_eq, Bool.and_eq_true, Bool.or_eq_true, Bool.not_eq_true', decide_eq_false_iff_not, Bool.not_eq_true, Bool.true_and, Bool.and_true, Bool.not_true, Bool.not_false, Bool.false_or, Bool.or_false, Bool.not_or, Bool.and_eq_false_iff, Bool.or_eq_false_iff, decide_not] at de24)
        refine ⟨_, rfl, ⟨_, rfl, ⟨trivial, (k_intS (by walk_at "vcint") (by walk_at "vc") ⟨_, _, rfl, rfl, (storeI fun total_26 en27 => ?_)⟩)⟩⟩⟩
        have es28 : m_number_of_b0 total_3 sign_10 = total_26 := (by subst en27 en23; exact (if_pos e24).trans (rfl))
        have hn29 := loopS_nxt hl9 es28
        exact ⟨Z16, total_26, (some (.str sign_10)), rfl, rfl, c, sm4, hn29⟩
      · skip
        have de25 := e25; (try simp only [decide_eq_true_eq, Bool.and_eq_true, Bool.or_eq_true, Bool.not_eq_true', decide_eq_false_iff_not, Bool.not_eq_true, Bool.true_and, Bool.and_true, Bool.not_true, Bool.not_false, Bool.false_or, Bool.or_false, Bool.not_or, Bool.and_eq_false_iff, Bool.or_eq_false_iff, decide_not] at de25)
        have es30 : m_number_of_b0 total_3 sign_10 = total_22 := (by subst en23; exact (if_neg e25).trans (rfl))
        have hn31 := loopS_nxt hl9 es30
        exact ⟨Z16, total_22, (some (.str sign_10)), rfl, rfl, c, sm4, hn31⟩
    · intro sg35 H36 Z37 hp38
      obtain ⟨total_3, w_sign, rfl, eH41, c, sm4, hl39⟩ := hp38
      subst eH41
      have h_field := Py.mono sm4 h_field
      have hl42 : total_3 = loopS m_number_of_b0 total_1 (chars (m_part_of a_card a_field)) := hl39
      have e43 : (m_number_of a_card a_field) = total_3 := (by subst hl42 en2; exact rfl)
      rw [e43] at k
      refine ⟨_, rfl, k⟩
theorem ok_number_of {f : Addr} {fd : FuncData} (F : Fun K "number_of" "number_of" (topS 3) f fd) (gm : mg "number_of" = some (.ref f)) (T : Txt K mg) (C_part_of : Cal P w K mg base CX0 "part_of" 1 ["card", "field"] (sp_part_of K)) : Cal P w K mg base CX0 "number_of" 2 ["card", "field"] (sp_number_of K) :=
  ⟨⟨f, fd, okf_number_of F T C_part_of, gm, F.kp, F.binds (ps := ["card", "field"]) fun _ _ _ _ _ _ us hl => match us, hl with | [_, _], _ => rfl⟩⟩
theorem sc_law_cell_at : FnScope ["_law_script", "_law_k"] ["_law_script", "_law_k"] (defScope (topS 5)) := ⟨rfl, rfl, rfl, by decide +kernel, rfl, by decide +kernel, by decide +kernel⟩
theorem okf_law_cell_at {f : Addr} {fd : FuncData} (F : Fun K "_law_cell_at" "_law_cell_at" (topS 5) f fd) (T : Txt K mg) : FnOk P w K mg base CX0 1 f fd ["_law_script", "_law_k"] (sp_law_cell_at K) := by
  refine F.ok sc_law_cell_at (fun vs H0 Q E h => ?_) (fun cdv A outer s H0 vs Q E hr h => ?_)
  · obtain ⟨Z0, a_law_script, v_law_script, a_law_k, rfl, _⟩ := h
    rfl
  · obtain ⟨Z0, a_law_script, v_law_script, a_law_k, rfl, zh, h_law_script, pre0, k⟩ := h
    have nd := sc_law_cell_at.nd
    have c : Step Z0 H0 Z0 H0 := Step.refl zh
    refine ⟨_, (pss_cons (ps_if (pt_cmpR op_lt (pv 1) (pe_callB call_lenQ (by rfl) T.b_len PySem.boot_len (pa_cons (pv 0) pnK)) (nomark _)) (pss_one (ps_ret (pe_ix ix_list (pv 0) (pv 1) (fun _ _ => rfl)))) pss_nil) (pss_one (ps_ret (pcK pe_int)))), ?_⟩
    refine ⟨_, rfl, ⟨_, rfl, ⟨trivial, (k_lenRQ c.zh h_law_script ⟨_, _, rfl, rfl, ⟨_, rfl, (ite2 (fun e1 => ?_) (fun e2 => ?_))⟩⟩)⟩⟩⟩
    · skip
      have de1 := e1; (try simp only [decide_eq_true_eq, Bool.and_eq_true, Bool.or_eq_true, Bool.not_eq_true', decide_eq_false_iff_not, Bool.not_eq_true, Bool.true_and, Bool.and_true, Bool.not_true, Bool.not_false, Bool.false_or, Bool.or_false, Bool.not_or, Bool.and_eq_false_iff, Bool.or_eq_false_iff, decide_not] at de1)
      have e3 : (m_law_cell_at a_law_script a_law_k) = (getI a_law_script.ns a_law_k) := (by exact (if_pos e1).trans (rfl))
      rw [e3] at k
      refine ⟨_, rfl, ⟨_, rfl, (k_ixR c.zh h_law_script (by walk_at "vc") k)⟩⟩
    · skip
      have de2 := e2; (try simp only [decide_eq_true_eq, Bool.and_eq_true, Bool.or_eq_true, Bool.not_eq_true', decide_eq_false_iff_not, Bool.not_eq_true, Bool.true_and, Bool.and_true, Bool.not_true, Bool.not_false, Bool.false_or, Bool.or_false, Bool.not_or, Bool.and_eq_false_iff, Bool.or_eq_false_iff, decide_not] at de2)
      have e4 : (m_law_cell_at a_law_script a_law_k) = (0 : Int) := (by exact (if_neg e2).trans (rfl))
      rw [e4] at k
      refine ⟨trivial, k⟩
theorem ok_law_cell_at {f : Addr} {fd : FuncData} (F : Fun K "_law_cell_at" "_law_cell_at" (topS 5) f fd) (gm : mg "_law_cell_at" = some (.ref f)) (T : Txt K mg) : Cal P w K mg base CX0 "_law_cell_at" 1 ["_law_script", "_law_k"] (sp_law_cell_at K) :=
  ⟨⟨f, fd, okf_law_cell_at F T, gm, F.kp, F.binds (ps := ["_law_script", "_law_k"]) fun _ _ _ _ _ _ us hl => match us, hl with | [_, _], _ => rfl⟩⟩
theorem sc_law_whole : FnScope ["_law_found"] ["_law_found"] (defScope (topS 6)) := ⟨rfl, rfl, rfl, by decide +kernel, rfl, by decide +kernel, by decide +kernel⟩
theorem okf_law_whole {f : Addr} {fd : FuncData} (F : Fun K "_law_whole" "_law_whole" (topS 6) f fd) (T : Txt K mg) : FnOk P w K mg base CX0 1 f fd ["_law_found"] (sp_law_whole K) := by
  refine F.ok sc_law_whole (fun vs H0 Q E h => ?_) (fun cdv A outer s H0 vs Q E hr h => ?_)
  · obtain ⟨Z0, a_law_found, rfl, _⟩ := h
    rfl
  · obtain ⟨Z0, a_law_found, rfl, zh, k⟩ := h
    have nd := sc_law_whole.nd
    have c : Step Z0 H0 Z0 H0 := Step.refl zh
    refine ⟨_, (pss_one (ps_ret (puK (pe_and (pe_callB call_isi (by rfl) T.b_isinstance (by decide +kernel) (pa_cons (pv 0) (pa_cons (pcK (pe_bltn (v := .ty "int") (by rfl) T.b_int (by decide +kernel) rfl)) pnK))) (pe_one (pe_not (pe_callB call_isi (by rfl) T.b_isinstance (by decide +kernel) (pa_cons (pv 0) (pa_cons (pcK (pe_bltn (v := .ty "bool") (by rfl) T.b_bool (by decide +kernel) rfl)) pnK))))))))), ?_⟩
    have e1 : (m_law_whole a_law_found) = (true && (!false)) := (by exact rfl)
    rw [e1] at k
    refine ⟨trivial, (valAnd (fun _ q => ⟨_, rfl, ⟨trivial, ⟨trivial, (k_isi (b := true) (Pt.int _) (by decide +kernel) q)⟩⟩⟩) (fun _ _ q => ⟨_, rfl, ⟨trivial, ⟨trivial, (k_isi (b := false) (Pt.int _) (by decide +kernel) ⟨_, rfl, q⟩)⟩⟩⟩) k)⟩
theorem ok_law_whole {f : Addr} {fd : FuncData} (F : Fun K "_law_whole" "_law_whole" (topS 6) f fd) (gm : mg "_law_whole" = some (.ref f)) (T : Txt K mg) : Cal P w K mg base CX0 "_law_whole" 1 ["_law_found"] (sp_law_whole K) :=
  ⟨⟨f, fd, okf_law_whole F T, gm, F.kp, F.binds (ps := ["_law_found"]) fun _ _ _ _ _ _ us hl => match us, hl with | [_], _ => rfl⟩⟩
theorem sc_law_mixed : FnScope ["_law_cell", "_law_k"] ["_law_cell", "_law_k"] (defScope (topS 7)) := ⟨rfl, rfl, rfl, by decide +kernel, rfl, by decide +kernel, by decide +kernel⟩
theorem okf_law_mixed {f : Addr} {fd : FuncData} (F : Fun K "_law_mixed" "_law_mixed" (topS 7) f fd) (T : Txt K mg) : FnOk P w K mg base CX0 1 f fd ["_law_cell", "_law_k"] (sp_law_mixed K) := by
  refine F.ok sc_law_mixed (fun vs H0 Q E h => ?_) (fun cdv A outer s H0 vs Q E hr h => ?_)
  · obtain ⟨Z0, a_law_cell, a_law_k, rfl, _⟩ := h
    rfl
  · obtain ⟨Z0, a_law_cell, a_law_k, rfl, zh, pre0, pre1, k⟩ := h
    have nd := sc_law_mixed.nd
    have c : Step Z0 H0 Z0 H0 := Step.refl zh
    refine ⟨_, (pss_one (ps_ret (pe_op op_mod (pe_op op_mul (pe_op op_add (pe_op op_add (pe_op op_add (pe_op op_mod (pv 0) (pcK pe_int)) (pe_op op_mul (pe_op op_mul (pcK pe_int) (pv 1)) (pv 1))) (pe_op op_mul (pcK pe_int) (pv 1))) (pcK pe_int)) (pcK pe_int)) (pcK pe_int)))), ?_⟩
    have e1 : (m_law_mixed a_law_cell a_law_k) = ((((((a_law_cell % (2147483647 : Int)) + (((7 : Int) * a_law_k) * a_law_k)) + ((11 : Int) * a_law_k)) + (1 : Int)) * (48271 : Int)) % (2147483647 : Int)) := (by exact rfl)
    rw [e1] at k
    refine ⟨_, rfl, ⟨trivial, ⟨_, _, rfl, rfl, (by walk_at "vc"), ⟨trivial, ⟨_, rfl, ⟨_, _, rfl, rfl, (by walk_at "vcm"), ⟨_, rfl, ⟨_, _, rfl, rfl, (by walk_at "vcm"), ⟨_, _, rfl, rfl, ⟨trivial, ⟨_, rfl, ⟨_, _, rfl, rfl, (by walk_at "vcm"), ⟨_, _, rfl, rfl, ⟨trivial, ⟨_, _, rfl, rfl, ⟨trivial, ⟨_, _, rfl, rfl, (by walk_at "vcm"), ⟨trivial, ⟨_, _, rfl, rfl, (by walk_at "vc"), k⟩⟩⟩⟩⟩⟩⟩⟩⟩⟩⟩⟩⟩⟩⟩⟩⟩⟩⟩
theorem ok_law_mixed {f : Addr} {fd : FuncData} (F : Fun K "_law_mixed" "_law_mixed" (topS 7) f fd) (gm : mg "_law_mixed" = some (.ref f)) (T : Txt K mg) : Cal P w K mg base CX0 "_law_mixed" 1 ["_law_cell", "_law_k"] (sp_law_mixed K) :=
  ⟨⟨f, fd, okf_law_mixed F T, gm, F.kp, F.binds (ps := ["_law_cell", "_law_k"]) fun _ _ _ _ _ _ us hl => match us, hl with | [_, _], _ => rfl⟩⟩
theorem sc_law_card : FnScope ["_law_script", "_law_card_here", "_law_k", "_law_cell", "_law_number_here"] ["_law_script"] (defScope (topS 8)) := ⟨rfl, rfl, rfl, by decide +kernel, rfl, by decide +kernel, by decide +kernel⟩
theorem okf_law_card {f : Addr} {fd : FuncData} (F : Fun K "_law_card" "_law_card" (topS 8) f fd) (T : Txt K mg) (C_law_cell_at : Cal P w K mg base CX0 "_law_cell_at" 1 ["_law_script", "_law_k"] (sp_law_cell_at K)) (C_law_mixed : Cal P w K mg base CX0 "_law_mixed" 1 ["_law_cell", "_law_k"] (sp_law_mixed K)) : FnOk P w K mg base CX0 2 f fd ["_law_script"] (sp_law_card K) := by
  refine F.ok sc_law_card (fun vs H0 Q E h => ?_) (fun cdv A outer s H0 vs Q E hr h => ?_)
  · obtain ⟨Z0, a_law_script, v_law_script, rfl, _⟩ := h
    rfl
  · obtain ⟨Z0, a_law_script, v_law_script, rfl, zh, h_law_script, k⟩ := h
    have nd := sc_law_card.nd
    have c : Step Z0 H0 Z0 H0 := Step.refl zh
    refine ⟨_, (pss_cons (ps_set (i := 1) nd rfl (Or.inl rfl) (pcK pe_str)) (pss_cons (ps_for PassesOwn.never rfl (pi_range1 rfl T.b_range (pa_cons (pcK pe_int) pnK)) (pg_name (i := 2) nd rfl (Or.inl rfl)) (pss_cons (ps_set (i := 3) nd rfl (Or.inl rfl) (pcK pe_int)) (Evl.pss_cut (ps_if (pt_cmpR op_gt (pe_callB call_lenQ (by rfl) T.b_len PySem.boot_len (pa_cons (pv 0) pnK)) (pcK pe_int) (nomark _)) (pss_one (ps_set (i := 3) nd rfl (Or.inl rfl) (pe_ix ix_list (pv 0) (pe_op op_mod (pv 2) (pe_callB call_lenQ (by rfl) T.b_len PySem.boot_len (pa_cons (pv 0) pnK))) (fun _ _ => rfl)))) pss_nil) (pss_cons (ps_set (i := 4) nd rfl (Or.inl rfl) (pe_cal C_law_mixed (hr.mono (by decide)) pass0 (pa_cons (pv 3) (pa_cons (pv 2) pnK)))) (pss_one (ps_if (ptK (PW.pt (pw_and (pt_cmpR op_gt (pe_op op_mod (pe_cal C_law_cell_at (hr.mono (by decide)) pass0 (pa_cons (pv 0) (pa_cons (pcK pe_int) pnK))) (pcK pe_int)) (pcK pe_int) (nomark _)) (pw_and1 (pt_cmpR op_gt (pe_op op_mod (pv 4) (pcK pe_int)) (pcK pe_int) (nomark _)))))) (pss_one (ps_set (i := 1) nd rfl (Or.inl rfl) (pe_op op_add_str (pv 1) (pe_ix ix_str (pcK pe_str) (pe_op op_mod (pe_op op_fdiv (pv 4) (pcK pe_int)) (pcK pe_int)) (fun _ _ => rfl))))) (pss_one (ps_set (i := 1) nd rfl (Or.inl rfl) (pe_op op_add_str (pv 1) (pe_ix ix_str (pcK pe_str) (pe_op op_mod (pe_op op_fdiv (pv 4) (pcK pe_int)) (pcK pe_int)) (fun _ _ => rfl))))))))))) (pss_one (ps_ret (pv 1))))), ?_⟩
    refine ⟨trivial, (storeS fun card_here_1 en2 => ?_)⟩
    have ln_card_here_1 := congrArg Str.length en2; (try simp only [len_app, len_chS, len_sg, sizeLine_eq, List.length_append, List.length_cons, List.length_nil, len_lit0, len_lit1, len_lit2] at ln_card_here_1)
    refine ⟨trivial, ⟨trivial, ⟨_, rfl, (by walk_at "vc"), (by walk_at "vc"), (loop1S (Z := Z0) (src_range _ _) (fun rr σr Hr Zr => ∃ (card_here_3 : Str) (w_law_k : Option V) (w_law_cell : Option V) (w_law_number_here : Option V), σr = [some v_law_script, some (.str card_here_3), w_law_k, w_law_cell, w_law_number_here] ∧ H0 = Hr ∧ Step Z0 H0 Zr Hr ∧ Same Z0 Zr ∧ (card_here_3.length + rr.length = 40) ∧ (loopS (m_law_card_b0 a_law_script) card_here_3 rr = loopS (m_law_card_b0 a_law_script) card_here_1 (rangeL 0 ((40 : Int)).toNat))) ?_ ?_ ?_ ?_)⟩⟩⟩
    · rintro rr σr Hr Zr hk
      obtain ⟨card_here_3, w_law_k, w_law_cell, w_law_number_here, rfl, eH49, c, sm4, iv0, hl47⟩ := hk
      subst eH49
      have h_law_script := Py.mono sm4 h_law_script
      exact ⟨sm4, c.zh⟩
    · have sm4 := Same.refl Z0
      exact ⟨Z0, card_here_1, (none), (none), (none), rfl, rfl, c, sm4, (by walk_at "inv"), rfl⟩
    · skip
      intro k_10 r11 sg13 H14 Z16 mem17 dec18 hp19
      obtain ⟨card_here_3, w_law_k, w_law_cell, w_law_number_here, rfl, eH21, c, sm4, iv0, hl9⟩ := hp19
      subst eH21
      have h_law_script := Py.mono sm4 h_law_script
      have lr_k_10 := mem_rangeL.mp mem17
      refine ⟨trivial, (storeI fun cell_22 en23 => ?_)⟩
      refine ⟨fun σj Hj => ∃ Zj26 : Hp, ∃ (cell_24 : Int), σj = [some v_law_script, some (.str card_here_3), some (.int k_10), some (.int cell_24), w_law_number_here] ∧ H0 = Hj ∧ Step Z0 H0 Zj26 Hj ∧ Same Z16 Zj26 ∧ (cell_24 = (if (decide ((0 : Int) < ((a_law_script).ns.length : Int))) = true then (
  let cell_30 : Int := (getI a_law_script.ns (k_10 % ((a_law_script).ns.length : Int)))
  cell_30)
  else (
  cell_22) : Int)), ?_, fun σj Hj hj => ?_⟩
      · skip
        have sm25 := Same.refl Z16
        refine ⟨_, rfl, ⟨trivial, (k_lenRQ c.zh h_law_script ⟨trivial, ⟨_, _, rfl, rfl, ⟨_, rfl, (ite2 (fun e28 => ?_) (fun e29 => ?_))⟩⟩⟩)⟩⟩
        · skip
          have de28 := e28; (try simp only [decide_eq_true_eq, Bool.and_eq_true, Bool.or_eq_true, Bool.not_eq_true', decide_eq_false_iff_not, Bool.not_eq_true, Bool.true_and, Bool.and_true, Bool.not_true, Bool.not_false, Bool.false_or, Bool.or_false, Bool.not_or, Bool.and_eq_false_iff, Bool.or_eq_false_iff, decide_not] at de28)
          refine ⟨_, rfl, ⟨_, rfl, ⟨_, rfl, ⟨trivial, (k_lenRQ c.zh h_law_script ⟨_, _, rfl, rfl, (by walk_at "vc"), (k_ixR c.zh h_law_script (by walk_at "vc") (storeI fun cell_30 en31 => ?_))⟩)⟩⟩⟩⟩
          exact ⟨Z16, cell_30, rfl, rfl, c, sm25, (by subst en31; exact ((if_pos e28).trans (rfl)).symm)⟩
        · skip
          have de29 := e29; (try simp only [decide_eq_true_eq, Bool.and_eq_true, Bool.or_eq_true, Bool.not_eq_true', decide_eq_false_iff_not, Bool.not_eq_true, Bool.true_and, Bool.and_true, Bool.not_true, Bool.not_false, Bool.false_or, Bool.or_false, Bool.not_or, Bool.and_eq_false_iff, Bool.or_eq_false_iff, decide_not] at de29)
          exact ⟨Z16, cell_22, rfl, rfl, c, sm25, (by exact ((if_neg e29).trans (rfl)).symm)⟩
      · skip
        obtain ⟨Zj26, cell_24, rfl, eH34, c, sm25, ej32⟩ := hj
        subst eH34
        have h_law_script := Py.mono sm25 h_law_script
        have sm4 := sm4.trans sm25
        refine ⟨_, rfl, ⟨_, rfl, ⟨trivial, ⟨_, _, _, rfl, c.zh, (by walk_at "vc"), (by walk_at "vc"), (storeI fun number_here_35 en36 => ?_)⟩⟩⟩⟩
        refine ⟨trivial, (ansAnd (fun _ q => ⟨_, rfl, ⟨trivial, ⟨trivial, ⟨_, _, _, _, rfl, c.zh, h_law_script, (by walk_at "vc"), ⟨trivial, ⟨_, _, rfl, rfl, (by walk_at "vc"), ⟨trivial, ⟨_, _, rfl, rfl, ⟨_, rfl, q⟩⟩⟩⟩⟩⟩⟩⟩⟩) (fun _ _ q => ⟨_, rfl, ⟨trivial, ⟨_, _, rfl, rfl, (by walk_at "vc"), ⟨trivial, ⟨_, _, rfl, rfl, ⟨_, rfl, q⟩⟩⟩⟩⟩⟩) (ite2 (fun e37 => ?_) (fun e38 => ?_)))⟩
        · skip
          have de37 := e37; (try simp only [decide_eq_true_eq, Bool.and_eq_true, Bool.or_eq_true, Bool.not_eq_true', decide_eq_false_iff_not, Bool.not_eq_true, Bool.true_and, Bool.and_true, Bool.not_true, Bool.not_false, Bool.false_or, Bool.or_false, Bool.not_or, Bool.and_eq_false_iff, Bool.or_eq_false_iff, decide_not] at de37)
          refine ⟨_, rfl, ⟨trivial, ⟨_, rfl, ⟨trivial, ⟨_, _, rfl, rfl, ⟨(by walk_at "vc"), (by walk_at "vc")⟩, ⟨trivial, ⟨_, _, rfl, rfl, (by walk_at "vc"), (k_ixS (by walk_at "vc") (by walk_at "vc") ⟨_, _, rfl, rfl, (by walk_at "vc"), (storeS fun card_here_39 en40 => ?_)⟩)⟩⟩⟩⟩⟩⟩⟩
          have ln_card_here_39 := congrArg Str.length en40; (try simp only [len_app, len_chS, len_sg, sizeLine_eq, List.length_append, List.length_cons, List.length_nil, len_lit0, len_lit1, len_lit2] at ln_card_here_39)
          have es41 : (m_law_card_b0 a_law_script) card_here_3 k_10 = card_here_39 := (by subst en40 en36 ej32 en23; exact (if_pos e37).trans (rfl))
          have hn42 := loopS_nxt hl9 es41
          exact ⟨Zj26, card_here_39, (some (.int k_10)), (some (.int cell_24)), (some (.int number_here_35)), rfl, rfl, c, sm4, (by walk_at "inv"), hn42⟩
        · skip
          have de38 := e38; (try simp only [decide_eq_true_eq, Bool.and_eq_true, Bool.or_eq_true, Bool.not_eq_true', decide_eq_false_iff_not, Bool.not_eq_true, Bool.true_and, Bool.and_true, Bool.not_true, Bool.not_false, Bool.false_or, Bool.or_false, Bool.not_or, Bool.and_eq_false_iff, Bool.or_eq_false_iff, decide_not] at de38)
          refine ⟨_, rfl, ⟨trivial, ⟨_, rfl, ⟨trivial, ⟨_, _, rfl, rfl, ⟨(by walk_at "vc"), (by walk_at "vc")⟩, ⟨trivial, ⟨_, _, rfl, rfl, (by walk_at "vc"), (k_ixS (by walk_at "vc") (by walk_at "vc") ⟨_, _, rfl, rfl, (by walk_at "vc"), (storeS fun card_here_43 en44 => ?_)⟩)⟩⟩⟩⟩⟩⟩⟩
          have ln_card_here_43 := congrArg Str.length en44; (try simp only [len_app, len_chS, len_sg, sizeLine_eq, List.length_append, List.length_cons, List.length_nil, len_lit0, len_lit1, len_lit2] at ln_card_here_43)
          have es45 : (m_law_card_b0 a_law_script) card_here_3 k_10 = card_here_43 := (by subst en44 en36 ej32 en23; exact (if_neg e38).trans (rfl))
          have hn46 := loopS_nxt hl9 es45
          exact ⟨Zj26, card_here_43, (some (.int k_10)), (some (.int cell_24)), (some (.int number_here_35)), rfl, rfl, c, sm4, (by walk_at "inv"), hn46⟩
    · intro sg50 H51 Z52 hp53
      obtain ⟨card_here_3, w_law_k, w_law_cell, w_law_number_here, rfl, eH56, c, sm4, iv0, hl54⟩ := hp53
      subst eH56
      have h_law_script := Py.mono sm4 h_law_script
      have hl57 : card_here_3 = loopS (m_law_card_b0 a_law_script) card_here_1 (rangeL 0 ((40 : Int)).toNat) := hl54
      have e58 : (m_law_card a_law_script) = card_here_3 := (by subst hl57 en2; exact rfl)
      rw [e58] at k
      refine ⟨_, rfl, k⟩
theorem ok_law_card {f : Addr} {fd : FuncData} (F : Fun K "_law_card" "_law_card" (topS 8) f fd) (gm : mg "_law_card" = some (.ref f)) (T : Txt K mg) (C_law_cell_at : Cal P w K mg base CX0 "_law_cell_at" 1 ["_law_script", "_law_k"] (sp_law_cell_at K)) (C_law_mixed : Cal P w K mg base CX0 "_law_mixed" 1 ["_law_cell", "_law_k"] (sp_law_mixed K)) : Cal P w K mg base CX0 "_law_card" 2 ["_law_script"] (sp_law_card K) :=
  ⟨⟨f, fd, okf_law_card F T C_law_cell_at C_law_mixed, gm, F.kp, F.binds (ps := ["_law_script"]) fun _ _ _ _ _ _ us hl => match us, hl with | [_], _ => rfl⟩⟩
theorem sc_law_field : FnScope ["_law_cell", "_law_k", "_law_number_here", "_law_first", "_law_last"] ["_law_cell", "_law_k"] (defScope (topS 9)) := ⟨rfl, rfl, rfl, by decide +kernel, rfl, by decide +kernel, by decide +kernel⟩
theorem okf_law_field {f : Addr} {fd : FuncData} (F : Fun K "_law_field" "_law_field" (topS 9) f fd) (T : Txt K mg) (C_law_mixed : Cal P w K mg base CX0 "_law_mixed" 1 ["_law_cell", "_law_k"] (sp_law_mixed K)) : FnOk P w K mg base CX0 2 f fd ["_law_cell", "_law_k"] (sp_law_field K) := by
  refine F.ok sc_law_field (fun vs H0 Q E h => ?_) (fun cdv A outer s H0 vs Q E hr h => ?_)
  · obtain ⟨Z0, a_law_cell, a_law_k, rfl, _⟩ := h
    rfl
  · obtain ⟨Z0, a_law_cell, a_law_k, rfl, zh, pre0, pre1, k⟩ := h
    have nd := sc_law_field.nd
    have c : Step Z0 H0 Z0 H0 := Step.refl zh
    refine ⟨_, (pss_cons (ps_set (i := 2) nd rfl (Or.inl rfl) (pe_cal C_law_mixed (hr.mono (by decide)) pass0 (pa_cons (pv 0) (pa_cons (pe_op op_add (pcK pe_int) (pv 1)) pnK)))) (pss_cons (ps_set (i := 3) nd rfl (Or.inl rfl) (pe_op op_add (pcK pe_int) (pe_op op_mod (pe_op op_fdiv (pv 2) (pcK pe_int)) (pcK pe_int)))) (pss_cons (ps_if (pt_cmpR op_eq (pe_op op_mod (pv 2) (pcK pe_int)) (pcK pe_int) (nomark _)) (pss_one (ps_ret (pe_tupQ (pa_cons (pv 3) (pa_cons (pv 3) pnK))))) pss_nil) (pss_cons (ps_if (pt_cmpR op_eq (pe_op op_mod (pv 2) (pcK pe_int)) (pcK pe_int) (nomark _)) (pss_one (ps_ret (pe_tupQ (pa_cons (pcK pe_int) (pa_cons (pcK pe_int) pnK))))) pss_nil) (pss_cons (ps_set (i := 4) nd rfl (Or.inl rfl) (pe_op op_add (pcK pe_int) (pe_op op_mod (pe_op op_mod (pe_op op_mul (pv 2) (pv 2)) (pcK pe_int)) (pcK pe_int)))) (pss_one (ps_ret (pe_tupQ (pa_cons (pe_callB (call_min2 rfl) (by rfl) T.b_min (by decide +kernel) (pa_cons (pv 3) (pa_cons (pv 4) pnK))) (pa_cons (pe_callB (call_max2 rfl) (by rfl) T.b_max (by decide +kernel) (pa_cons (pv 3) (pa_cons (pv 4) pnK))) pnK)))))))))), ?_⟩
    refine ⟨_, rfl, ⟨trivial, ⟨_, rfl, ⟨_, _, rfl, rfl, ⟨trivial, ⟨_, _, _, rfl, c.zh, (by walk_at "vc"), (by walk_at "vc"), (storeI fun number_here_1 en2 => ?_)⟩⟩⟩⟩⟩⟩
    have rn := mixed_rng a_law_cell (40 + a_law_k)
    refine ⟨trivial, ⟨_, rfl, ⟨trivial, ⟨_, _, rfl, rfl, ⟨(by walk_at "vc"), (by walk_at "vc")⟩, ⟨trivial, ⟨_, _, rfl, rfl, (by walk_at "vc"), ⟨_, _, rfl, rfl, (storeI fun first_3 en4 => ?_)⟩⟩⟩⟩⟩⟩⟩
    refine ⟨_, rfl, ⟨trivial, ⟨_, _, rfl, rfl, (by walk_at "vc"), ⟨trivial, (k_eqI ⟨_, rfl, (ite2 (fun e5 => ?_) (fun e6 => ?_))⟩)⟩⟩⟩⟩
    · skip
      have de5 := e5; (try simp only [decide_eq_true_eq, Bool.and_eq_true, Bool.or_eq_true, Bool.not_eq_true', decide_eq_false_iff_not, Bool.not_eq_true, Bool.true_and, Bool.and_true, Bool.not_true, Bool.not_false, Bool.false_or, Bool.or_false, Bool.not_or, Bool.and_eq_false_iff, Bool.or_eq_false_iff, decide_not] at de5)
      refine ⟨_, rfl, ⟨_, rfl, ⟨trivial, (k_tup (K := K) (a := first_3) (b := first_3) c.zh rfl rfl (fun v10 Z7 H8 st9 hv10 => ?_))⟩⟩⟩
      have c := c.trans st9
      have e11 : (m_law_field a_law_cell a_law_k) = (first_3, first_3) := (by subst en4 en2; exact (if_pos e5).trans (rfl))
      rw [e11] at k
      refine (k _ _ _ c hv10)
    · skip
      have de6 := e6; (try simp only [decide_eq_true_eq, Bool.and_eq_true, Bool.or_eq_true, Bool.not_eq_true', decide_eq_false_iff_not, Bool.not_eq_true, Bool.true_and, Bool.and_true, Bool.not_true, Bool.not_false, Bool.false_or, Bool.or_false, Bool.not_or, Bool.and_eq_false_iff, Bool.or_eq_false_iff, decide_not] at de6)
      refine ⟨_, rfl, ⟨trivial, ⟨_, _, rfl, rfl, (by walk_at "vc"), ⟨trivial, (k_eqI ⟨_, rfl, (ite2 (fun e12 => ?_) (fun e13 => ?_))⟩)⟩⟩⟩⟩
      · skip
        have de12 := e12; (try simp only [decide_eq_true_eq, Bool.and_eq_true, Bool.or_eq_true, Bool.not_eq_true', decide_eq_false_iff_not, Bool.not_eq_true, Bool.true_and, Bool.and_true, Bool.not_true, Bool.not_false, Bool.false_or, Bool.or_false, Bool.not_or, Bool.and_eq_false_iff, Bool.or_eq_false_iff, decide_not] at de12)
        refine ⟨trivial, ⟨trivial, ⟨trivial, (k_tup (K := K) (a := (1 : Int)) (b := (36 : Int)) c.zh rfl rfl (fun v17 Z14 H15 st16 hv17 => ?_))⟩⟩⟩
        have c := c.trans st16
        have e18 : (m_law_field a_law_cell a_law_k) = ((1 : Int), (36 : Int)) := (by subst en4 en2; exact (if_neg e6).trans ((if_pos e12).trans (rfl)))
        rw [e18] at k
        refine (k _ _ _ c hv17)
      · skip
        have de13 := e13; (try simp only [decide_eq_true_eq, Bool.and_eq_true, Bool.or_eq_true, Bool.not_eq_true', decide_eq_false_iff_not, Bool.not_eq_true, Bool.true_and, Bool.and_true, Bool.not_true, Bool.not_false, Bool.false_or, Bool.or_false, Bool.not_or, Bool.and_eq_false_iff, Bool.or_eq_false_iff, decide_not] at de13)
        refine ⟨trivial, ⟨_, rfl, ⟨_, rfl, ⟨_, _, rfl, rfl, (by walk_at "vcm"), ⟨trivial, ⟨_, _, rfl, rfl, (by walk_at "vc"), ⟨trivial, ⟨_, _, rfl, rfl, (by walk_at "vc"), ⟨_, _, rfl, rfl, (storeI fun last_19 en20 => ?_)⟩⟩⟩⟩⟩⟩⟩⟩⟩
        refine ⟨_, rfl, ⟨_, rfl, ⟨trivial, ⟨_, _, rfl, ⟨_, rfl, ⟨_, rfl, ⟨trivial, ⟨_, _, rfl, ⟨trivial, (k_tup (K := K) (a := (min2 first_3 last_19)) (b := (max2 first_3 last_19)) c.zh rfl rfl (fun v24 Z21 H22 st23 hv24 => ?_))⟩⟩⟩⟩⟩⟩⟩⟩⟩
        have c := c.trans st23
        have e25 : (m_law_field a_law_cell a_law_k) = ((min2 first_3 last_19), (max2 first_3 last_19)) := (by subst en20 en4 en2; exact (if_neg e6).trans ((if_neg e13).trans (rfl)))
        rw [e25] at k
        refine (k _ _ _ c hv24)
theorem ok_law_field {f : Addr} {fd : FuncData} (F : Fun K "_law_field" "_law_field" (topS 9) f fd) (gm : mg "_law_field" = some (.ref f)) (T : Txt K mg) (C_law_mixed : Cal P w K mg base CX0 "_law_mixed" 1 ["_law_cell", "_law_k"] (sp_law_mixed K)) : Cal P w K mg base CX0 "_law_field" 2 ["_law_cell", "_law_k"] (sp_law_field K) :=
  ⟨⟨f, fd, okf_law_field F T C_law_mixed, gm, F.kp, F.binds (ps := ["_law_cell", "_law_k"]) fun _ _ _ _ _ _ us hl => match us, hl with | [_, _], _ => rfl⟩⟩
theorem sc_law_number : FnScope ["_law_signs", "_law_total", "_law_sign"] ["_law_signs"] (defScope (topS 10)) := ⟨rfl, rfl, rfl, by decide +kernel, rfl, by decide +kernel, by decide +kernel⟩
theorem okf_law_number {f : Addr} {fd : FuncData} (F : Fun K "_law_number" "_law_number" (topS 10) f fd) (T : Txt K mg) : FnOk P w K mg base CX0 1 f fd ["_law_signs"] (sp_law_number K) := by
  refine F.ok sc_law_number (fun vs H0 Q E h => ?_) (fun cdv A outer s H0 vs Q E hr h => ?_)
  · obtain ⟨Z0, a_law_signs, rfl, _⟩ := h
    rfl
  · obtain ⟨Z0, a_law_signs, rfl, zh, k⟩ := h
    have nd := sc_law_number.nd
    have c : Step Z0 H0 Z0 H0 := Step.refl zh
    refine ⟨_, (pss_cons (ps_set (i := 1) nd rfl (Or.inl rfl) (pcK pe_int)) (pss_cons (ps_for PassesOwn.never rfl (pi_str (pv 0)) (pg_name (i := 2) nd rfl (Or.inl rfl)) (pss_one (ps_set (i := 1) nd rfl (Or.inl rfl) (pe_op op_add (pe_op op_mul (pcK pe_int) (pv 1)) (pe_callB (call_max2 rfl) (by rfl) T.b_max (by decide +kernel) (pa_cons (pcK pe_int) (pa_cons (pe_bm PySem.F.plainAttrs_str PySem.F.slot_str_find PySem.F.type_str_find mt_find (pcK pe_str) (pa_cons (pv 2) pnK)) pnK))))))) (pss_one (ps_ret (pv 1))))), ?_⟩
    refine ⟨trivial, (storeI fun total_1 en2 => ?_)⟩
    refine ⟨_, rfl, ⟨_, rfl, (loop1S (Z := Z0) (src_str _) (fun rr σr Hr Zr => ∃ (total_3 : Int) (w_law_sign : Option V), σr = [some (.str a_law_signs), some (.int total_3), w_law_sign] ∧ H0 = Hr ∧ Step Z0 H0 Zr Hr ∧ Same Z0 Zr ∧ (loopS m_law_number_b0 total_3 rr = loopS m_law_number_b0 total_1 (chars a_law_signs))) ?_ ?_ ?_ ?_)⟩⟩
    · rintro rr σr Hr Zr hk
      obtain ⟨total_3, w_law_sign, rfl, eH28, c, sm4, hl26⟩ := hk
      subst eH28
      exact ⟨sm4, c.zh⟩
    · have sm4 := Same.refl Z0
      exact ⟨Z0, total_1, (none), rfl, rfl, c, sm4, rfl⟩
    · skip
      intro sign_10 r11 sg13 H14 Z16 mem17 dec18 hp19
      obtain ⟨total_3, w_law_sign, rfl, eH21, c, sm4, hl9⟩ := hp19
      subst eH21
      have ls_sign_10 := chars_len1 mem17
      refine ⟨trivial, ⟨_, rfl, ⟨_, _, rfl, rfl, (by walk_at "vcm"), ⟨trivial, ⟨trivial, ⟨rfl, ⟨_, rfl, ⟨trivial, ⟨_, _, rfl, rfl, ⟨trivial, ⟨_, _, rfl, ⟨_, _, rfl, rfl, (storeI fun total_22 en23 => ?_)⟩⟩⟩⟩⟩⟩⟩⟩⟩⟩⟩⟩
      have es24 : m_law_number_b0 total_3 sign_10 = total_22 := (by subst en23; exact rfl)
      have hn25 := loopS_nxt hl9 es24
      exact ⟨Z16, total_22, (some (.str sign_10)), rfl, rfl, c, sm4, hn25⟩
    · intro sg29 H30 Z31 hp32
      obtain ⟨total_3, w_law_sign, rfl, eH35, c, sm4, hl33⟩ := hp32
      subst eH35
      have hl36 : total_3 = loopS m_law_number_b0 total_1 (chars a_law_signs) := hl33
      have e37 : (m_law_number a_law_signs) = total_3 := (by subst hl36 en2; exact rfl)
      rw [e37] at k
      refine ⟨_, rfl, k⟩
theorem ok_law_number {f : Addr} {fd : FuncData} (F : Fun K "_law_number" "_law_number" (topS 10) f fd) (gm : mg "_law_number" = some (.ref f)) (T : Txt K mg) : Cal P w K mg base CX0 "_law_number" 1 ["_law_signs"] (sp_law_number K) :=
  ⟨⟨f, fd, okf_law_number F T, gm, F.kp, F.binds (ps := ["_law_signs"]) fun _ _ _ _ _ _ us hl => match us, hl with | [_], _ => rfl⟩⟩
theorem sc_law : FnScope ["_law_script", "_law_card_here", "_law_k", "_law_cell", "_law_field_here", "_law_due", "_law_column", "_law_found", "_law_number_here"] ["_law_script"] (defScope (topS 11)) := ⟨rfl, rfl, rfl, by decide +kernel, rfl, by decide +kernel, by decide +kernel⟩
theorem okf_law {f : Addr} {fd : FuncData} (F : Fun K "law" "law" (topS 11) f fd) (T : Txt K mg) (C_part_of : Cal P w K mg base CX0 "part_of" 1 ["card", "field"] (sp_part_of K)) (C_number_of : Cal P w K mg base CX0 "number_of" 2 ["card", "field"] (sp_number_of K)) (C_law_whole : Cal P w K mg base CX0 "_law_whole" 1 ["_law_found"] (sp_law_whole K)) (C_law_card : Cal P w K mg base CX0 "_law_card" 2 ["_law_script"] (sp_law_card K)) (C_law_field : Cal P w K mg base CX0 "_law_field" 2 ["_law_cell", "_law_k"] (sp_law_field K)) (C_law_number : Cal P w K mg base CX0 "_law_number" 1 ["_law_signs"] (sp_law_number K)) : FnOk P w K mg base CX0 3 f fd ["_law_script"] (sp_law K) := by
  refine F.ok sc_law (fun vs H0 Q E h => ?_) (fun cdv A outer s H0 vs Q E hr h => ?_)
  · obtain ⟨Z0, a_law_script, v_law_script, rfl, _⟩ := h
    rfl
  · obtain ⟨Z0, a_law_script, v_law_script, rfl, zh, h_law_script, k⟩ := h
    have nd := sc_law.nd
    have c : Step Z0 H0 Z0 H0 := Step.refl zh
    refine ⟨_, (pss_cons (ps_set (i := 1) nd rfl (Or.inl rfl) (pe_cal C_law_card (hr.mono (by decide)) pass0 (pa_cons (pv 0) pnK))) (pss_cons (ps_for PassesOwn.never rfl (pi_enum rfl T.b_enumerate (pa_cons (pe_op op_cat (pe_lstQ (pa_cons (pcK pe_int) pnK)) (pe_slice sl_list (pv 0) po_none (po_some (pcK pe_int)))) pnK)) (pg_tup rfl (pgs_cons (pg_name (i := 2) nd rfl (Or.inl rfl)) (pgs_cons (pg_name (i := 3) nd rfl (Or.inl rfl)) pgs_nil))) (pss_cons (ps_set (i := 4) nd rfl (Or.inl rfl) (pe_cal C_law_field (hr.mono (by decide)) pass0 (pa_cons (pv 3) (pa_cons (pv 2) pnK)))) (pss_cons (ps_set (i := 5) nd rfl (Or.inl rfl) (pcK pe_str)) (pss_cons (ps_for PassesOwn.never rfl (pi_range2 rfl T.b_range (pa_cons (pe_ix ix_tup (pv 4) (pcK pe_int) (fun _ _ => rfl)) (pa_cons (pe_op op_add (pe_ix ix_tup (pv 4) (pcK pe_int) (fun _ _ => rfl)) (pcK pe_int)) pnK))) (pg_name (i := 6) nd rfl (Or.inl rfl)) (pss_one (ps_set (i := 5) nd rfl (Or.inl rfl) (pe_op op_add_str (pv 5) (pe_ix ix_str (pv 1) (pe_op op_sub (pv 6) (pcK pe_int)) (fun _ _ => rfl)))))) (pss_cons (ps_set (i := 7) nd rfl (Or.inl rfl) (pe_cal C_part_of (hr.mono (by decide)) pass0 (pa_cons (pv 1) (pa_cons (pv 4) pnK)))) (pss_cons (ps_if (ptK (PW.pt (pw_or (pt_not (pt_val (pe_callB call_isi (by rfl) T.b_isinstance (by decide +kernel) (pa_cons (pv 7) (pa_cons (pcK (pe_bltn (v := .ty "str") (by rfl) T.b_str (by decide +kernel) rfl)) pnK))))) (pw_or1 (pt_cmpR op_ne (pv 7) (pv 5) (nomark _)))))) (pss_one (ps_ret (pcK pe_bl))) pss_nil) (pss_cons (ps_set (i := 8) nd rfl (Or.inl rfl) (pe_cal C_number_of (hr.mono (by decide)) pass0 (pa_cons (pv 1) (pa_cons (pv 4) pnK)))) (pss_one (ps_if (ptK (PW.pt (pw_or (pt_not (pt_val (pe_cal C_law_whole (hr.mono (by decide)) pass0 (pa_cons (pv 8) pnK)))) (pw_or1 (pt_cmpR op_ne (pv 8) (pe_cal C_law_number (hr.mono (by decide)) pass0 (pa_cons (pv 5) pnK)) (nomark _)))))) (pss_one (ps_ret (pcK pe_bl))) pss_nil))))))))) (pss_one (ps_ret (pcK pe_bl))))), ?_⟩
    refine ⟨_, rfl, ⟨trivial, ⟨_, _, _, rfl, c.zh, h_law_script, (storeS fun card_here_1 en2 => ?_)⟩⟩⟩
    have ln_card_here_1 := congrArg Str.length en2; (try simp only [len_app, len_chS, len_sg, sizeLine_eq, List.length_append, List.length_cons, List.length_nil, len_lit0, len_lit1, len_lit2] at ln_card_here_1)
    have lc : card_here_1.length = 40 := by rw [en2]; exact card_len _
    refine ⟨trivial, ⟨trivial, (k_lst (K := K) (m := [(0 : Int)]) c.zh (.cons rfl .nil) (by decide) (New.tel fun v6 Z3 H4 st5 hv6 => ?_))⟩⟩
    have c := c.trans st5
    have h_law_script := Py.mono st5.zz h_law_script
    have lsl7 := cutL_to_len a_law_script.ns (show (0 : Int) ≤ (84 : Int) by decide)
    refine ⟨_, rfl, ⟨trivial, ⟨_, rfl, (k_slR c.zh h_law_script (New.tel fun v11 Z8 H9 st10 hv11 => ?_))⟩⟩⟩
    have c := c.trans st10
    have h_law_script := Py.mono st10.zz h_law_script
    have hv6 := Py.mono st10.zz hv6
    refine (k_cat c.zh hv6 hv11 (by walk_at "vc") (New.tel fun v15 Z12 H13 st14 hv15 => ?_))
    have c := c.trans st14
    have h_law_script := Py.mono st14.zz h_law_script
    have hv6 := Py.mono st14.zz hv6
    have hv11 := Py.mono st14.zz hv11
    obtain ⟨a16, xs17, ev18, hz19, pr20⟩ := hv15
    refine ⟨trivial, ⟨_, _, by rw [ev18], SqL.of (c.zh _ _ hz19), (loop2 (Z := Z12) (src_enum hz19 pr20) (fun rr σr Hr Zr => ∃ (w_law_k : Option V) (w_law_cell : Option V) (w_law_field_here : Option V) (w_law_due : Option V) (w_law_column : Option V) (w_law_found : Option V) (w_law_number_here : Option V), σr = [some v_law_script, some (.str card_here_1), w_law_k, w_law_cell, w_law_field_here, w_law_due, w_law_column, w_law_found, w_law_number_here] ∧ Step Z0 H0 Zr Hr ∧ Same Z12 Zr ∧ (loopR (m_law_b0 card_here_1) () rr = loopR (m_law_b0 card_here_1) () (enumL 0 ([(0 : Int)] ++ (cutL a_law_script.ns none (some (84 : Int))))))) ?_ ?_ ?_ ?_)⟩⟩
    · rintro rr σr Hr Zr hk
      obtain ⟨w_law_k, w_law_cell, w_law_field_here, w_law_due, w_law_column, w_law_found, w_law_number_here, rfl, c, sm21, hl104⟩ := hk
      have h_law_script := Py.mono sm21 h_law_script
      exact ⟨sm21, c.zh⟩
    · have sm21 := Same.refl Z12
      exact ⟨Z12, (none), (none), (none), (none), (none), (none), (none), rfl, c, sm21, rfl⟩
    · skip
      intro q35 r26 v36 v37 sg28 H29 H30 Z31 mem32 dec33 hp34 h38 h39 st40
      obtain ⟨w_law_k, w_law_cell, w_law_field_here, w_law_due, w_law_column, w_law_found, w_law_number_here, rfl, c, sm21, hl25⟩ := hp34
      have h_law_script := Py.mono sm21 h_law_script
      have c := c.trans st40
      have h_law_script := Py.mono st40.zz h_law_script
      have le_q35 := mem_enumL mem32; (try simp only [len_app, len_chS, len_sg, sizeLine_eq, List.length_append, List.length_cons, List.length_nil, len_lit0, len_lit1, len_lit2] at le_q35)
      cases h38
      obtain ⟨k_42, en43⟩ : ∃ z, z = q35.1 := ⟨_, rfl⟩
      rw [← en43]
      cases h39
      obtain ⟨cell_44, en45⟩ : ∃ z, z = q35.2 := ⟨_, rfl⟩
      rw [← en45]
      refine ⟨_, rfl, ⟨_, rfl, ⟨trivial, ⟨_, _, _, rfl, c.zh, (by walk_at "vc"), (by walk_at "vc"), (Tel.gen fun field_here_46 en47 => fun v51 Z48 H49 st50 hv51 => ?_)⟩⟩⟩⟩
      have c := c.trans st50
      have sm21 := sm21.trans st50.zz
      have h_law_script := Py.mono st50.zz h_law_script
      refine (tgt1 ?_)
      have rf := field_rng cell_44 k_42
      rw [← en47] at rf
      refine ⟨trivial, (storeS fun due_52 en53 => ?_)⟩
      have ln_due_52 := congrArg Str.length en53; (try simp only [len_app, len_chS, len_sg, sizeLine_eq, List.length_append, List.length_cons, List.length_nil, len_lit0, len_lit1, len_lit2] at ln_due_52)
      refine ⟨_, rfl, ⟨trivial, (k_fstS c.zh hv51 ⟨_, rfl, ⟨trivial, (k_sndS c.zh hv51 ⟨trivial, ⟨_, _, rfl, rfl, ⟨trivial, ⟨_, _, rfl, ⟨(by walk_at "vc"), (by walk_at "vc"), (by walk_at "vc"), (by walk_at "vc")⟩, (loop1S (Z := Z48) (src_range _ _) (fun rr σr Hr Zr => ∃ (due_54 : Str) (w_law_column : Option V), σr = [some v_law_script, some (.str card_here_1), some (.int k_42), some (.int cell_44), some v51, some (.str due_54), w_law_column, w_law_found, w_law_number_here] ∧ Step Z0 H0 Zr Hr ∧ Same Z48 Zr ∧ (due_54.length + rr.length ≤ 36) ∧ (loopS (m_law_b1 card_here_1) due_54 rr = loopS (m_law_b1 card_here_1) due_52 (rangeL (field_here_46).1 (((field_here_46).2 + (1 : Int)) - (field_here_46).1).toNat))) ?_ ?_ ?_ ?_)⟩⟩⟩⟩)⟩⟩)⟩⟩
      · rintro rr σr Hr Zr hk
        obtain ⟨due_54, w_law_column, rfl, c, sm55, iv0, hl77⟩ := hk
        have h_law_script := Py.mono sm55 h_law_script
        have hv51 := Py.mono sm55 hv51
        have sm21 := sm21.trans sm55
        exact ⟨sm55, c.zh⟩
      · have sm55 := Same.refl Z48
        exact ⟨Z48, due_52, (w_law_column), rfl, c, sm55, (by walk_at "inv"), rfl⟩
      · skip
        intro column_61 r62 sg64 H65 Z67 mem68 dec69 hp70
        obtain ⟨due_54, w_law_column, rfl, c, sm55, iv0, hl60⟩ := hp70
        have h_law_script := Py.mono sm55 h_law_script
        have hv51 := Py.mono sm55 hv51
        have sm21 := sm21.trans sm55
        have lr_column_61 := mem_rangeL.mp mem68
        refine ⟨_, rfl, ⟨_, rfl, ⟨_, rfl, ⟨trivial, ⟨_, _, rfl, rfl, (k_ixS (by walk_at "vc") (by walk_at "vc") ⟨_, _, rfl, rfl, (by walk_at "vc"), (storeS fun due_73 en74 => ?_)⟩)⟩⟩⟩⟩⟩
        have ln_due_73 := congrArg Str.length en74; (try simp only [len_app, len_chS, len_sg, sizeLine_eq, List.length_append, List.length_cons, List.length_nil, len_lit0, len_lit1, len_lit2] at ln_due_73)
        have es75 : (m_law_b1 card_here_1) due_54 column_61 = due_73 := (by subst en74; exact rfl)
        have hn76 := loopS_nxt hl60 es75
        exact ⟨Z67, due_73, (some (.int column_61)), rfl, c, sm55, (by walk_at "inv"), hn76⟩
      · intro sg80 H81 Z82 hp83
        obtain ⟨due_54, w_law_column, rfl, c, sm55, iv0, hl84⟩ := hp83
        have h_law_script := Py.mono sm55 h_law_script
        have hv51 := Py.mono sm55 hv51
        have sm21 := sm21.trans sm55
        have hl87 : due_54 = loopS (m_law_b1 card_here_1) due_52 (rangeL (field_here_46).1 (((field_here_46).2 + (1 : Int)) - (field_here_46).1).toNat) := hl84
        refine ⟨_, rfl, ⟨_, rfl, ⟨trivial, ⟨_, _, _, _, rfl, c.zh, hv51, (by walk_at "vc"), (storeS fun found_88 en89 => ?_)⟩⟩⟩⟩
        have ln_found_88 := congrArg Str.length en89; (try simp only [len_app, len_chS, len_sg, sizeLine_eq, List.length_append, List.length_cons, List.length_nil, len_lit0, len_lit1, len_lit2] at ln_found_88)
        refine ⟨trivial, (ansOr (fun _ q => ⟨_, rfl, ⟨trivial, ⟨trivial, (k_isi (b := true) (Pt.str _) (by decide +kernel) ⟨_, rfl, q⟩)⟩⟩⟩) (fun _ _ q => ⟨_, rfl, ⟨_, rfl, (k_neS ⟨_, rfl, q⟩)⟩⟩) (ite2 (fun e90 => ?_) (fun e91 => ?_)))⟩
        · skip
          have de90 := e90; (try simp only [decide_eq_true_eq, Bool.and_eq_true, Bool.or_eq_true, Bool.not_eq_true', decide_eq_false_iff_not, Bool.not_eq_true, Bool.true_and, Bool.and_true, Bool.not_true, Bool.not_false, Bool.false_or, Bool.or_false, Bool.not_or, Bool.and_eq_false_iff, Bool.or_eq_false_iff, decide_not] at de90)
          have es92 : (m_law_b0 card_here_1) () q35 = (.ret false) := (by subst en89 hl87 en53 en47 en45 en43; exact (if_pos e90).trans (rfl))
          have hr93 := loopR_ret hl25 es92
          have e94 : (m_law a_law_script) = false := (by subst en2; exact (bind_ret hr93).trans (rfl))
          rw [e94] at k
          refine ⟨trivial, (k _ _ _ c rfl)⟩
        · skip
          have de91 := e91; (try simp only [decide_eq_true_eq, Bool.and_eq_true, Bool.or_eq_true, Bool.not_eq_true', decide_eq_false_iff_not, Bool.not_eq_true, Bool.true_and, Bool.and_true, Bool.not_true, Bool.not_false, Bool.false_or, Bool.or_false, Bool.not_or, Bool.and_eq_false_iff, Bool.or_eq_false_iff, decide_not] at de91)
          refine ⟨_, rfl, ⟨_, rfl, ⟨trivial, ⟨_, _, _, _, rfl, c.zh, hv51, (by walk_at "vc"), (storeI fun number_here_95 en96 => ?_)⟩⟩⟩⟩
          refine ⟨trivial, (ansOr (fun _ q => ⟨_, rfl, ⟨trivial, ⟨_, _, rfl, c.zh, ⟨_, rfl, q⟩⟩⟩⟩) (fun _ _ q => ⟨_, rfl, ⟨_, rfl, ⟨trivial, ⟨_, _, rfl, c.zh, (k_neI ⟨_, rfl, q⟩)⟩⟩⟩⟩) (ite2 (fun e97 => ?_) (fun e98 => ?_)))⟩
          · skip
            have de97 := e97; (try simp only [decide_eq_true_eq, Bool.and_eq_true, Bool.or_eq_true, Bool.not_eq_true', decide_eq_false_iff_not, Bool.not_eq_true, Bool.true_and, Bool.and_true, Bool.not_true, Bool.not_false, Bool.false_or, Bool.or_false, Bool.not_or, Bool.and_eq_false_iff, Bool.or_eq_false_iff, decide_not] at de97)
            have es99 : (m_law_b0 card_here_1) () q35 = (.ret false) := (by subst en96 en89 hl87 en53 en47 en45 en43; exact (if_neg e91).trans ((if_pos e97).trans (rfl)))
            have hr100 := loopR_ret hl25 es99
            have e101 : (m_law a_law_script) = false := (by subst en2; exact (bind_ret hr100).trans (rfl))
            rw [e101] at k
            refine ⟨trivial, (k _ _ _ c rfl)⟩
          · skip
            have de98 := e98; (try simp only [decide_eq_true_eq, Bool.and_eq_true, Bool.or_eq_true, Bool.not_eq_true', decide_eq_false_iff_not, Bool.not_eq_true, Bool.true_and, Bool.and_true, Bool.not_true, Bool.not_false, Bool.false_or, Bool.or_false, Bool.not_or, Bool.and_eq_false_iff, Bool.or_eq_false_iff, decide_not] at de98)
            have es102 : (m_law_b0 card_here_1) () q35 = (.nxt ()) := (by subst en96 en89 hl87 en53 en47 en45 en43; exact (if_neg e91).trans ((if_neg e98).trans (rfl)))
            have hn103 := loopR_nxt hl25 es102
            exact ⟨Z82, (some (.int k_42)), (some (.int cell_44)), (some v51), (some (.str due_54)), (w_law_column), (some (.str found_88)), (some (.int number_here_95)), rfl, c, sm21, hn103⟩
    · intro sg106 H107 Z108 hp109
      obtain ⟨w_law_k, w_law_cell, w_law_field_here, w_law_due, w_law_column, w_law_found, w_law_number_here, rfl, c, sm21, hl110⟩ := hp109
      have h_law_script := Py.mono sm21 h_law_script
      have hl112 : loopR (m_law_b0 card_here_1) () (enumL 0 ([(0 : Int)] ++ (cutL a_law_script.ns none (some (84 : Int))))) = .nxt () := hl110.symm
      have e114 : (m_law a_law_script) = true := (by subst en2; exact (bind_nxt hl112).trans (rfl))
      rw [e114] at k
      refine ⟨trivial, (k _ _ _ c rfl)⟩
theorem ok_law {f : Addr} {fd : FuncData} (F : Fun K "law" "law" (topS 11) f fd) (gm : mg "law" = some (.ref f)) (T : Txt K mg) (C_part_of : Cal P w K mg base CX0 "part_of" 1 ["card", "field"] (sp_part_of K)) (C_number_of : Cal P w K mg base CX0 "number_of" 2 ["card", "field"] (sp_number_of K)) (C_law_whole : Cal P w K mg base CX0 "_law_whole" 1 ["_law_found"] (sp_law_whole K)) (C_law_card : Cal P w K mg base CX0 "_law_card" 2 ["_law_script"] (sp_law_card K)) (C_law_field : Cal P w K mg base CX0 "_law_field" 2 ["_law_cell", "_law_k"] (sp_law_field K)) (C_law_number : Cal P w K mg base CX0 "_law_number" 1 ["_law_signs"] (sp_law_number K)) : Cal P w K mg base CX0 "law" 3 ["_law_script"] (sp_law K) :=
  ⟨⟨f, fd, okf_law F T C_part_of C_number_of C_law_whole C_law_card C_law_field C_law_number, gm, F.kp, F.binds (ps := ["_law_script"]) fun _ _ _ _ _ _ us hl => match us, hl with | [_], _ => rfl⟩⟩
end
theorem all_mk {l : PySem.W.OpenLaw} {w : World} {K : PySem.W.Frag} {h : Heap} {mg : Str → Option Value} {fa : Addr} (X : K.In h) (G : h.Ns mainGlobals mg) (hfa : mg "law" = some (.ref fa))
    {od1 an1 : Option Addr} {sl1 : Array (Option Value)} {oc1 kV1 dc1 pm1 cd1 ct1 : Value} {f1 : Addr}
    {od2 an2 : Option Addr} {sl2 : Array (Option Value)} {oc2 kV2 dc2 pm2 cd2 ct2 : Value} {f2 : Addr}
    {od3 an3 : Option Addr} {sl3 : Array (Option Value)} {oc3 kV3 dc3 pm3 cd3 ct3 : Value} {f3 : Addr}
    {od4 an4 : Option Addr} {sl4 : Array (Option Value)} {oc4 kV4 dc4 pm4 cd4 ct4 : Value} {f4 : Addr}
    {od5 an5 : Option Addr} {sl5 : Array (Option Value)} {oc5 kV5 dc5 pm5 cd5 ct5 : Value} {f5 : Addr}
    {od6 an6 : Option Addr} {sl6 : Array (Option Value)} {oc6 kV6 dc6 pm6 cd6 ct6 : Value} {f6 : Addr}
    {od7 an7 : Option Addr} {sl7 : Array (Option Value)} {oc7 kV7 dc7 pm7 cd7 ct7 : Value} {f7 : Addr}
    {od8 an8 : Option Addr} {sl8 : Array (Option Value)} {oc8 kV8 dc8 pm8 cd8 ct8 : Value} {f8 : Addr}
    {od9 an9 : Option Addr} {sl9 : Array (Option Value)} {oc9 kV9 dc9 pm9 cd9 ct9 : Value} {f9 : Addr}
    {t_FIGURES : Tok}
    (a1 : PySem.W.nsIn K mainGlobals "part_of" = some (some (.ref f1))) (l1 : K.lookup f1 = some ⟨oc1, od1, .func (PySem.W.fnOf "part_of" "part_of" (defArgs (topS 2)) (defBody (topS 2)) (defScope (topS 2)) .none kV1 dc1 pm1 an1 cd1 ct1), sl1⟩) (c1 : PySem.W.codeIn K cd1 "part_of" = true) (k1 : PySem.W.keepIn K (.ref f1) = true)
    (a2 : PySem.W.nsIn K mainGlobals "number_of" = some (some (.ref f2))) (l2 : K.lookup f2 = some ⟨oc2, od2, .func (PySem.W.fnOf "number_of" "number_of" (defArgs (topS 3)) (defBody (topS 3)) (defScope (topS 3)) .none kV2 dc2 pm2 an2 cd2 ct2), sl2⟩) (c2 : PySem.W.codeIn K cd2 "number_of" = true) (k2 : PySem.W.keepIn K (.ref f2) = true)
    (a3 : PySem.W.nsIn K mainGlobals "_law_cell_at" = some (some (.ref f3))) (l3 : K.lookup f3 = some ⟨oc3, od3, .func (PySem.W.fnOf "_law_cell_at" "_law_cell_at" (defArgs (topS 5)) (defBody (topS 5)) (defScope (topS 5)) .none kV3 dc3 pm3 an3 cd3 ct3), sl3⟩) (c3 : PySem.W.codeIn K cd3 "_law_cell_at" = true) (k3 : PySem.W.keepIn K (.ref f3) = true)
    (a4 : PySem.W.nsIn K mainGlobals "_law_whole" = some (some (.ref f4))) (l4 : K.lookup f4 = some ⟨oc4, od4, .func (PySem.W.fnOf "_law_whole" "_law_whole" (defArgs (topS 6)) (defBody (topS 6)) (defScope (topS 6)) .none kV4 dc4 pm4 an4 cd4 ct4), sl4⟩) (c4 : PySem.W.codeIn K cd4 "_law_whole" = true) (k4 : PySem.W.keepIn K (.ref f4) = true)
    (a5 : PySem.W.nsIn K mainGlobals "_law_mixed" = some (some (.ref f5))) (l5 : K.lookup f5 = some ⟨oc5, od5, .func (PySem.W.fnOf "_law_mixed" "_law_mixed" (defArgs (topS 7)) (defBody (topS 7)) (defScope (topS 7)) .none kV5 dc5 pm5 an5 cd5 ct5), sl5⟩) (c5 : PySem.W.codeIn K cd5 "_law_mixed" = true) (k5 : PySem.W.keepIn K (.ref f5) = true)
    (a6 : PySem.W.nsIn K mainGlobals "_law_card" = some (some (.ref f6))) (l6 : K.lookup f6 = some ⟨oc6, od6, .func (PySem.W.fnOf "_law_card" "_law_card" (defArgs (topS 8)) (defBody (topS 8)) (defScope (topS 8)) .none kV6 dc6 pm6 an6 cd6 ct6), sl6⟩) (c6 : PySem.W.codeIn K cd6 "_law_card" = true) (k6 : PySem.W.keepIn K (.ref f6) = true)
    (a7 : PySem.W.nsIn K mainGlobals "_law_field" = some (some (.ref f7))) (l7 : K.lookup f7 = some ⟨oc7, od7, .func (PySem.W.fnOf "_law_field" "_law_field" (defArgs (topS 9)) (defBody (topS 9)) (defScope (topS 9)) .none kV7 dc7 pm7 an7 cd7 ct7), sl7⟩) (c7 : PySem.W.codeIn K cd7 "_law_field" = true) (k7 : PySem.W.keepIn K (.ref f7) = true)
    (a8 : PySem.W.nsIn K mainGlobals "_law_number" = some (some (.ref f8))) (l8 : K.lookup f8 = some ⟨oc8, od8, .func (PySem.W.fnOf "_law_number" "_law_number" (defArgs (topS 10)) (defBody (topS 10)) (defScope (topS 10)) .none kV8 dc8 pm8 an8 cd8 ct8), sl8⟩) (c8 : PySem.W.codeIn K cd8 "_law_number" = true) (k8 : PySem.W.keepIn K (.ref f8) = true)
    (a9 : PySem.W.nsIn K mainGlobals "law" = some (some (.ref f9))) (l9 : K.lookup f9 = some ⟨oc9, od9, .func (PySem.W.fnOf "law" "law" (defArgs (topS 11)) (defBody (topS 11)) (defScope (topS 11)) .none kV9 dc9 pm9 an9 cd9 ct9), sl9⟩) (c9 : PySem.W.codeIn K cd9 "law" = true) (k9 : PySem.W.keepIn K (.ref f9) = true)
    (z_bool : PySem.W.nsIn K mainGlobals "bool" = some none)
    (z_enumerate : PySem.W.nsIn K mainGlobals "enumerate" = some none)
    (z_int : PySem.W.nsIn K mainGlobals "int" = some none)
    (z_isinstance : PySem.W.nsIn K mainGlobals "isinstance" = some none)
    (z_len : PySem.W.nsIn K mainGlobals "len" = some none)
    (z_max : PySem.W.nsIn K mainGlobals "max" = some none)
    (z_min : PySem.W.nsIn K mainGlobals "min" = some none)
    (z_range : PySem.W.nsIn K mainGlobals "range" = some none)
    (z_str : PySem.W.nsIn K mainGlobals "str" = some none)
    (u_FIGURES : PySem.W.nsIn K mainGlobals "FIGURES" = some (some (.str ("0123456789" : Str) t_FIGURES)))
    : ∃ fd : FuncData, (∀ (s : Shared) (v : Value), BindsTo s fd ⟨[v], []⟩ [("_law_script", v)]) ∧ ∀ base : Heap, K.In base → base.Ns mainGlobals mg → FnOk l.prog w K mg base CX0 3 fa fd ["_law_script"] (sp_law K) := by
  have e := hfa.symm.trans (PySem.W.mg_of X G a9)
  cases e
  have T : Txt K mg := ⟨PySem.W.mg_none_of X G z_bool, PySem.W.mg_none_of X G z_enumerate, PySem.W.mg_none_of X G z_int, PySem.W.mg_none_of X G z_isinstance, PySem.W.mg_none_of X G z_len, PySem.W.mg_none_of X G z_max, PySem.W.mg_none_of X G z_min, PySem.W.mg_none_of X G z_range, PySem.W.mg_none_of X G z_str, ⟨_, PySem.W.mg_of X G u_FIGURES⟩⟩
  refine ⟨PySem.W.fnOf "law" "law" (defArgs (topS 11)) (defBody (topS 11)) (defScope (topS 11)) .none kV9 dc9 pm9 an9 cd9 ct9, fun s v => .of_eq rfl, fun base _ _ => ?_⟩
  have C_part_of := ok_part_of (P := l.prog) (w := w) (base := base) (fun_mk (st := topS 2) l1 c1 k1) (PySem.W.mg_of X G a1) T
  have C_number_of := ok_number_of (P := l.prog) (w := w) (base := base) (fun_mk (st := topS 3) l2 c2 k2) (PySem.W.mg_of X G a2) T C_part_of
  have C_law_cell_at := ok_law_cell_at (P := l.prog) (w := w) (base := base) (fun_mk (st := topS 5) l3 c3 k3) (PySem.W.mg_of X G a3) T
  have C_law_whole := ok_law_whole (P := l.prog) (w := w) (base := base) (fun_mk (st := topS 6) l4 c4 k4) (PySem.W.mg_of X G a4) T
  have C_law_mixed := ok_law_mixed (P := l.prog) (w := w) (base := base) (fun_mk (st := topS 7) l5 c5 k5) (PySem.W.mg_of X G a5) T
  have C_law_card := ok_law_card (P := l.prog) (w := w) (base := base) (fun_mk (st := topS 8) l6 c6 k6) (PySem.W.mg_of X G a6) T C_law_cell_at C_law_mixed
  have C_law_field := ok_law_field (P := l.prog) (w := w) (base := base) (fun_mk (st := topS 9) l7 c7 k7) (PySem.W.mg_of X G a7) T C_law_mixed
  have C_law_number := ok_law_number (P := l.prog) (w := w) (base := base) (fun_mk (st := topS 10) l8 c8 k8) (PySem.W.mg_of X G a8) T
  exact okf_law (P := l.prog) (w := w) (base := base) (fun_mk (st := topS 11) l9 c9 k9) T C_part_of C_number_of C_law_whole C_law_card C_law_field C_law_number
theorem law_end {K : Fr} {H : Hp} {a : Addr} {ns : List Int} {E : XK} (hl : ns.length ≤ 63) (hS : SqL K H a (ns.map V.int)) : sp_law K [.ref a] H (fun v _ => v = .bl true) E :=
  ⟨H, ⟨ns⟩, .ref a, rfl, Same.refl _, ⟨a, rfl, hS⟩, fun v Z2 H2 st h => by rw [show v = V.bl _ from h, law_true _ hl]⟩

end Cd
open PySem PySem.W PyProof.Rows
set_option maxRecDepth 100000 in
set_option maxHeartbeats 0 in
theorem PySem.Challenge.cw_cardshop_k04_parts_and_numbers_holds : PySem.Challenge.rw_cardshop_k04_parts_and_numbers.Holds := by
  w_on; o_law; k_head; (case hw => w_witness2)
  k_fill
  refine L2.walk_of (l := PySem.Challenge.rw_cardshop_k04_parts_and_numbers) (n := 63) (k := 3) (x := "_law_script") (CX := fun _ => L2.CX0) (sp := fun w => Cd.sp_law _) rfl (by decide) rfl ⟨rfl, by decide, by decide⟩ (fun w h Y => PySem.W.kIn_of Y) ?F (fun _ H a ns hl _ hS => Cd.law_end hl hS) (fun _ _ _ _ _ z => z)
  case F =>
    intro w mg fa h KX G hmg
    refine' Cd.all_mk KX G hmg ?a1 ?l1 ?c1 ?k1 ?a2 ?l2 ?c2 ?k2 ?a3 ?l3 ?c3 ?k3 ?a4 ?l4 ?c4 ?k4 ?a5 ?l5 ?c5 ?k5 ?a6 ?l6 ?c6 ?k6 ?a7 ?l7 ?c7 ?k7 ?a8 ?l8 ?c8 ?k8 ?a9 ?l9 ?c9 ?k9 ?z_bool ?z_enumerate ?z_int ?z_isinstance ?z_len ?z_max ?z_min ?z_range ?z_str ?u_FIGURES
    (case a1 => k_is)
    (case l1 => k_is)
    (case c1 => k_is)
    (case k1 => k_is)
    (case a2 => k_is)
    (case l2 => k_is)
    (case c2 => k_is)
    (case k2 => k_is)
    (case a3 => k_is)
    (case l3 => k_is)
    (case c3 => k_is)
    (case k3 => k_is)
    (case a4 => k_is)
    (case l4 => k_is)
    (case c4 => k_is)
    (case k4 => k_is)
    (case a5 => k_is)
    (case l5 => k_is)
    (case c5 => k_is)
    (case k5 => k_is)
    (case a6 => k_is)
    (case l6 => k_is)
    (case c6 => k_is)
    (case k6 => k_is)
    (case a7 => k_is)
    (case l7 => k_is)
    (case c7 => k_is)
    (case k7 => k_is)
    (case a8 => k_is)
    (case l8 => k_is)
    (case c8 => k_is)
    (case k8 => k_is)
    (case a9 => k_is)
    (case l9 => k_is)
    (case c9 => k_is)
    (case k9 => k_is)
    (case z_bool => k_is)
    (case z_enumerate => k_is)
    (case z_int => k_is)
    (case z_isinstance => k_is)
    (case z_len => k_is)
    (case z_max => k_is)
    (case z_min => k_is)
    (case z_range => k_is)
    (case z_str => k_is)
    (case u_FIGURES => k_is)
#print axioms PySem.Challenge.cw_cardshop_k04_parts_and_numbers_holds
