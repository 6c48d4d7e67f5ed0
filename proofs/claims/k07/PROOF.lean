import PyProof.Rows.All
import Wide.All
import OpenK.AllK
import Wide.FinOn
import HandS.ForMost
import HandS.ForExc
import HandS.Style
import HandS.Flow
import HandS.TupAny
import HandS.TupMul
import HandS.TupLe
import HandS.Zip
import HandS.IsInst
import HandS.Wide
import HandS.Deep
import KE.DataEq
import PySem.Challenge.RW_ropecabins_k07_plans_by_hand
set_option Elab.async false
set_option linter.all false
set_option maxRecDepth 100000
set_option maxHeartbeats 1000000
/-! Sy0: data that stands for ever, own objects by their addresses; what a reading does at that level. -/
namespace Sy
open PySem L2

abbrev D := PyData
/-- what a slot (or a place in an own object) holds: nothing known, data, an own object, a bare value -/
inductive Sl where
  | un | d (x : PyData) | o (a : Addr) | v (x : V) | s (ns : List Int)
/-- an own object -/
inductive Cell where
  | lst (xs : List Sl) | tup (xs : List Sl) | ins (C : Addr) (fs : List (Str × Sl)) | dic (kvs : List (Key × Sl))
abbrev Ce := Addr → Option Cell
def cu (c : Ce) (a : Addr) (x : Cell) : Ce := fun b => if b = a then some x else c b
def cd (c : Ce) (a : Addr) : Ce := fun b => if b = a then none else c b
theorem cu_same {c : Ce} {a : Addr} {x : Cell} : cu c a x a = some x := if_pos rfl
theorem cu_ne {c : Ce} {a b : Addr} {x : Cell} (h : b ≠ a) : cu c a x b = c b := if_neg h
theorem cu_to {c : Ce} {a b : Addr} {x y : Cell} (h : b ≠ a) (e : c b = some y) : cu c a x b = some y := (cu_ne h).trans e
theorem cd_same {c : Ce} {a : Addr} : cd c a a = none := if_pos rfl
theorem cd_ne {c : Ce} {a b : Addr} (h : b ≠ a) : cd c a b = c b := if_neg h
theorem ce_ne {c : Ce} {a b : Addr} {x : Cell} (h : c a = some x) (h' : c b = none) : a ≠ b := by
  intro e
  subst e
  rw [h] at h'
  cases h'
theorem cu_old {c : Ce} {a b : Addr} {x y : Cell} (e : c b = some y) (h : c a = none) : cu c a x b = some y := cu_to (ce_ne e h) e

/-! data that stands at a value: lists and tuples of the heap own -/
mutual
inductive Td (B : Hp) : V → PyData → Prop
  | non : Td B .non .none
  | bl (b : Bool) : Td B (.bl b) (.bool b)
  | int (i : Int) : Td B (.int i) (.int i)
  | str (x : Str) : Td B (.str x) (.str x)
  | lst {a : Addr} {xs : List V} {ds : List PyData} : B a = some (.lst xs) → TdAll B xs ds → Td B (.ref a) (.list ds)
  | tup {a : Addr} {xs : List V} {ds : List PyData} : B a = some (.tup xs) → TdAll B xs ds → Td B (.ref a) (.tuple ds)
  | dic {a : Addr} : B a = some (.dK []) → Td B (.ref a) (.dict [])
inductive TdAll (B : Hp) : List V → List PyData → Prop
  | nil : TdAll B [] []
  | cons {v : V} {vs : List V} {d : PyData} {ds : List PyData} : Td B v d → TdAll B vs ds → TdAll B (v :: vs) (d :: ds)
end
section
variable {K : PySem.W.Frag} {B B' B1 H H' : Hp} {v : V} {c c' : Ce} {a p : Addr} {e e' : List Sl}
theorem sqt_same {xs : List V} (e : Same B B') (h : SqT K B a xs) : SqT K B' a xs := by
  rcases h with (h | ⟨o, h⟩) | h
  · exact .inl (.inl (e _ _ h))
  · exact .inl (.inr ⟨o, e _ _ h⟩)
  · exact .inr h
mutual
theorem dp_mono (s : Same B B') : ∀ (d : PyData) (v : V), Td B v d → Td B' v d
  | .none, _, h => by cases h; exact .non
  | .bool _, _, h => by cases h; exact .bl _
  | .int _, _, h => by cases h; exact .int _
  | .str _, _, h => by cases h; exact .str _
  | .list ds, _, h => by
    cases h with
    | lst h1 h2 => exact .lst (s _ _ h1) (dpa_mono s ds _ h2)
  | .tuple ds, _, h => by
    cases h with
    | tup h1 h2 => exact .tup (s _ _ h1) (dpa_mono s ds _ h2)
  | .dict _, _, h => by
    cases h with
    | dic h1 => exact .dic (s _ _ h1)
theorem dpa_mono (s : Same B B') : ∀ (ds : List PyData) (vs : List V), TdAll B vs ds → TdAll B' vs ds
  | [], _, h => by cases h; exact .nil
  | d :: ds, _, h => by
    cases h with
    | cons h1 h2 => exact .cons (dp_mono s d _ h1) (dpa_mono s ds _ h2)
end
def VOk (K : PySem.W.Frag) (B : Hp) (v : V) : Sl → Prop
  | .un => False
  | .d x => Td B v x
  | .o a => v = .ref a
  | .v x => v = x
  | .s ns => ∃ a, v = .ref a ∧ SqL K B a (ns.map V.int)
def SOk (K : PySem.W.Frag) (B : Hp) (ov : Option V) (sl : Sl) : Prop := sl = .un ∨ ∃ v, ov = some v ∧ VOk K B v sl
abbrev VOks (K : PySem.W.Frag) (B : Hp) : List V → List Sl → Prop := Paired (VOk K B)
abbrev SOks (K : PySem.W.Frag) (B : Hp) : List (Option V) → List Sl → Prop := Paired (SOk K B)
abbrev FOks (K : PySem.W.Frag) (B : Hp) : List (Str × V) → List (Str × Sl) → Prop := Paired fun p q => p.1 = q.1 ∧ VOk K B p.2 q.2
abbrev KOks (K : PySem.W.Frag) (B : Hp) : List (Key × V) → List (Key × Sl) → Prop := Paired fun p q => p.1 = q.1 ∧ VOk K B p.2 q.2
theorem VOk.mono {sl : Sl} (sm : Same B B') (h : VOk K B v sl) : VOk K B' v sl := by
  cases sl with
  | un => exact h
  | d x => exact dp_mono sm x v h
  | o a => exact h
  | v x => exact h
  | s ns => obtain ⟨a, h1, h2⟩ := h; exact ⟨a, h1, sm.seq h2⟩
theorem SOk.mono {sl : Sl} {ov : Option V} (s : Same B B') (h : SOk K B ov sl) : SOk K B' ov sl := by
  rcases h with h | ⟨v, h1, h2⟩
  · exact .inl h
  · exact .inr ⟨v, h1, h2.mono s⟩
/-! data as the hand layer reads it -/
mutual
theorem td_dp : ∀ (d : PyData) (v : V), d.hasDict = false → Td B v d → Dp K B v d
  | .none, _, _, h => by cases h; exact .non
  | .bool _, _, _, h => by cases h; exact .bl _
  | .int _, _, _, h => by cases h; exact .int _
  | .str _, _, _, h => by cases h; exact .str _
  | .list ds, _, n, h => by
    cases h with
    | lst h1 h2 => exact .lst (SqL.of h1) (tda_dp ds _ (by simpa only [PyData.hasDict] using n) h2)
  | .tuple ds, _, n, h => by
    cases h with
    | tup h1 h2 => exact .tup (SqT.of h1) (tda_dp ds _ (by simpa only [PyData.hasDict] using n) h2)
  | .dict _, _, n, h => by simp only [PyData.hasDict] at n; cases n
theorem tda_dp : ∀ (ds : List PyData) (vs : List V), PyData.hasDictAll ds = false → TdAll B vs ds → DpAll K B vs ds
  | [], _, _, h => by cases h; exact .nil
  | d :: ds, _, n, h => by
    cases h with
    | cons h1 h2 =>
      simp only [PyData.hasDictAll, Bool.or_eq_false_iff] at n
      exact .cons (td_dp d _ n.1 h1) (tda_dp ds _ n.2 h2)
end
theorem VOks.mono {vs : List V} {xs : List Sl} (s : Same B B') (h : VOks K B vs xs) : VOks K B' vs xs := Paired.mapP h fun _ _ q => q.mono s
theorem SOks.mono {vs : List (Option V)} {xs : List Sl} (s : Same B B') (h : SOks K B vs xs) : SOks K B' vs xs := Paired.mapP h fun _ _ q => q.mono s
theorem FOks.mono {vs : List (Str × V)} {xs : List (Str × Sl)} (s : Same B B') (h : FOks K B vs xs) : FOks K B' vs xs := Paired.mapP h fun _ _ q => ⟨q.1, q.2.mono s⟩
theorem KOks.mono {vs : List (Key × V)} {xs : List (Key × Sl)} (s : Same B B') (h : KOks K B vs xs) : KOks K B' vs xs := Paired.mapP h fun _ _ q => ⟨q.1, q.2.mono s⟩
theorem VOks.data : ∀ {vs : List V} {ds : List PyData}, VOks K B vs (ds.map Sl.d) → TdAll B vs ds
  | _, [], h => by cases h; exact .nil
  | _, d :: ds, h => by
    cases h with
    | cons h1 h2 => exact .cons h1 (VOks.data h2)
theorem VOks.ofData : ∀ {vs : List V} {ds : List PyData}, TdAll B vs ds → VOks K B vs (ds.map Sl.d)
  | _, [], h => by cases h; exact .nil
  | _, d :: ds, h => by
    cases h with
    | cons h1 h2 => exact .cons h1 (VOks.ofData h2)
theorem paired_get {α β : Type} {R : α → β → Prop} : ∀ {l : List α} {r : List β} {i : Nat} {y : β}, Paired R l r → r[i]? = some y → ∃ x, l[i]? = some x ∧ R x y
  | _, _, _, _, .nil, e => by simp at e
  | _, _, 0, _, .cons h _, e => by simp at e; subst e; exact ⟨_, rfl, h⟩
  | _, _, i + 1, y, .cons _ t, e => by
    obtain ⟨x, h1, h2⟩ := paired_get (i := i) (y := y) t (by simpa using e)
    exact ⟨x, by simpa using h1, h2⟩
theorem paired_get' {α β : Type} {R : α → β → Prop} : ∀ {l : List α} {r : List β} {i : Nat} {x : α}, Paired R l r → l[i]? = some x → ∃ y, r[i]? = some y ∧ R x y
  | _, _, _, _, .nil, e => by simp at e
  | _, _, 0, _, .cons h _, e => by simp at e; subst e; exact ⟨_, rfl, h⟩
  | _, _, i + 1, y, .cons _ t, e => by
    obtain ⟨x, h1, h2⟩ := paired_get' (i := i) (x := y) t (by simpa using e)
    exact ⟨x, by simpa using h1, h2⟩
theorem paired_set {α β : Type} {R : α → β → Prop} {x : α} {y : β} (r : R x y) : ∀ {xs : List α} {us : List β} (i : Nat), Paired R xs us → Paired R (xs.set i x) (us.set i y)
  | _, _, _, .nil => .nil
  | _, _, 0, .cons _ t => .cons r t
  | _, _, i + 1, .cons q t => .cons q (paired_set r i t)
theorem paired_append {α β : Type} {R : α → β → Prop} : ∀ {xs ys : List α} {us ws : List β}, Paired R xs us → Paired R ys ws → Paired R (xs ++ ys) (us ++ ws)
  | _, _, _, _, .nil, s => s
  | _, _, _, _, .cons r t, s => .cons r (paired_append t s)
theorem paired_drop {α β : Type} {R : α → β → Prop} : ∀ {xs : List α} {us : List β} (n : Nat), Paired R xs us → Paired R (xs.drop n) (us.drop n)
  | _, _, 0, r => r
  | _, _, _ + 1, .nil => .nil
  | _, _, n + 1, .cons _ t => paired_drop n t
theorem paired_take {α β : Type} {R : α → β → Prop} : ∀ {xs : List α} {us : List β} (n : Nat), Paired R xs us → Paired R (xs.take n) (us.take n)
  | _, _, 0, r => .nil
  | _, _, _ + 1, .nil => .nil
  | _, _, n + 1, .cons r t => .cons r (paired_take n t)
theorem paired_len {α β : Type} {R : α → β → Prop} {xs : List α} {us : List β} (h : Paired R xs us) : xs.length = us.length := Paired.length h

/-- what is held of an own object -/
def CellOk (K : PySem.W.Frag) (B H : Hp) (a : Addr) : Cell → Prop
  | .lst xs => ∃ vs, H a = some (.lst vs) ∧ VOks K B vs xs
  | .tup xs => ∃ vs, H a = some (.tup vs) ∧ VOks K B vs xs
  | .ins C fs => ∃ dx gs, H a = some (.ins C dx gs) ∧ FOks K B gs fs
  | .dic kvs => ∃ ws, H a = some (.dK ws) ∧ KOks K B ws kvs
theorem CellOk.mono {x : Cell} (s : Same B B') (e : H a = H' a) (h : CellOk K B H a x) : CellOk K B' H' a x := by
  cases x with
  | lst xs => obtain ⟨vs, h1, h2⟩ := h; exact ⟨vs, e ▸ h1, VOks.mono s h2⟩
  | tup xs => obtain ⟨vs, h1, h2⟩ := h; exact ⟨vs, e ▸ h1, VOks.mono s h2⟩
  | ins C fs => obtain ⟨dx, gs, h1, h2⟩ := h; exact ⟨dx, gs, e ▸ h1, FOks.mono s h2⟩
  | dic kvs => obtain ⟨ws, h1, h2⟩ := h; exact ⟨ws, e ▸ h1, KOks.mono s h2⟩
theorem CellOk.there {x : Cell} (h : CellOk K B H a x) : ∃ o, H a = some o := by
  cases x with
  | lst xs => obtain ⟨vs, h1, h2⟩ := h; exact ⟨_, h1⟩
  | tup xs => obtain ⟨vs, h1, h2⟩ := h; exact ⟨_, h1⟩
  | ins C fs => obtain ⟨dx, gs, h1, h2⟩ := h; exact ⟨_, h1⟩
  | dic kvs => obtain ⟨ws, h1, h2⟩ := h; exact ⟨_, h1⟩
structure RepC (K : PySem.W.Frag) (B H : Hp) (c : Ce) : Prop where
  bh : Same B H
  ce : ∀ a x, c a = some x → B a = none ∧ CellOk K B H a x
structure Rep (K : PySem.W.Frag) (B H : Hp) (e : List Sl) (c : Ce) (σ : L2.St) : Prop where
  c : RepC K B H c
  e : SOks K B σ e
theorem RepC.fresh (R : RepC K B H c) (hp : H p = none) : B p = none ∧ c p = none := by
  refine ⟨R.bh.free hp, ?_⟩
  cases q : c p with
  | none => rfl
  | some x =>
    obtain ⟨o, h⟩ := (R.ce p x q).2.there
    rw [hp] at h
    cases h
theorem same_upd {o : HO} (h : B p = none) : Same B (upd B p o) := fun b u e => by
  rw [upd_ne (ne_of_none e h)]
  exact e
/-- a new object that stands for ever -/
theorem RepC.frz (R : RepC K B H c) (hp : H p = none) (o : HO) : RepC K (upd B p o) (upd H p o) c := by
  obtain ⟨hb, hc⟩ := R.fresh hp
  refine ⟨fun b u e => ?_, fun b x e => ?_⟩
  · by_cases q : b = p
    · subst q; rw [upd_same] at e ⊢; exact e
    · rw [upd_ne q] at e ⊢; exact R.bh b u e
  · have q : b ≠ p := ce_ne e hc
    rw [upd_ne q]
    exact ⟨(R.ce b x e).1, (R.ce b x e).2.mono (same_upd hb) (upd_ne q).symm⟩
/-- a new own object -/
theorem RepC.own {o : HO} {x : Cell} (R : RepC K B H c) (hp : H p = none) (hx : CellOk K B (upd H p o) p x) : RepC K B (upd H p o) (cu c p x) := by
  obtain ⟨hb, hc⟩ := R.fresh hp
  refine ⟨fun b u e => ?_, fun b y e => ?_⟩
  · rw [upd_ne (ne_of_none e hb)]; exact R.bh b u e
  · by_cases q : b = p
    · subst q; rw [cu_same] at e; cases e; exact ⟨hb, hx⟩
    · rw [cu_ne q] at e
      exact ⟨(R.ce b y e).1, (R.ce b y e).2.mono (Same.refl _) (upd_ne q).symm⟩
/-- an own object is changed -/
theorem RepC.set {o : HO} {x y : Cell} (R : RepC K B H c) (ha : c a = some y) (hx : CellOk K B (upd H a o) a x) : RepC K B (upd H a o) (cu c a x) := by
  obtain ⟨hb, _⟩ := R.ce a y ha
  refine ⟨fun b u e => ?_, fun b z e => ?_⟩
  · rw [upd_ne (ne_of_none e hb)]; exact R.bh b u e
  · by_cases q : b = a
    · subst q; rw [cu_same] at e; cases e; exact ⟨hb, hx⟩
    · rw [cu_ne q] at e
      exact ⟨(R.ce b z e).1, (R.ce b z e).2.mono (Same.refl _) (upd_ne q).symm⟩
/-- an own object stands for ever from here on -/
theorem RepC.fix {o : HO} {y : Cell} (R : RepC K B H c) (ha : c a = some y) (ho : H a = some o) : RepC K (upd B a o) H (cd c a) ∧ Same B (upd B a o) := by
  obtain ⟨hb, _⟩ := R.ce a y ha
  refine ⟨⟨fun b u e => ?_, fun b x e => ?_⟩, same_upd hb⟩
  · by_cases q : b = a
    · subst q; rw [upd_same] at e; cases e; exact ho
    · rw [upd_ne q] at e; exact R.bh b u e
  · by_cases q : b = a
    · subst q; rw [cd_same] at e; cases e
    · rw [cd_ne q] at e
      rw [upd_ne q]
      exact ⟨(R.ce b x e).1, (R.ce b x e).2.mono (same_upd hb) rfl⟩
theorem RepC.fixL {ds : List PyData} (R : RepC K B H c) (ha : c a = some (.lst (ds.map Sl.d))) : ∃ B', Same B B' ∧ RepC K B' H (cd c a) ∧ Td B' (.ref a) (.list ds) := by
  obtain ⟨hb, vs, h1, h2⟩ := R.ce a _ ha
  obtain ⟨q1, q2⟩ := R.fix ha h1
  exact ⟨_, q2, q1, .lst upd_same (dpa_mono q2 _ _ (VOks.data h2))⟩
theorem RepC.fixT {ds : List PyData} (R : RepC K B H c) (ha : c a = some (.tup (ds.map Sl.d))) : ∃ B', Same B B' ∧ RepC K B' H (cd c a) ∧ Td B' (.ref a) (.tuple ds) := by
  obtain ⟨hb, vs, h1, h2⟩ := R.ce a _ ha
  obtain ⟨q1, q2⟩ := R.fix ha h1
  exact ⟨_, q2, q1, .tup upd_same (dpa_mono q2 _ _ (VOks.data h2))⟩
end

/-! ### what a reading does -/
/-- the wish about exceptions, told at this level -/
def EX (K : PySem.W.Frag) (B : Hp) (E : XK) (QX : Value → Ce → Prop) : Prop := ∀ B' H' c' cls d, Same B B' → RepC K B' H' c' → QX cls c' → E cls d H'
theorem EX.mono {K : PySem.W.Frag} {B B' : Hp} {E : XK} {QX : Value → Ce → Prop} (s : Same B B') (h : EX K B E QX) : EX K B' E QX := fun B1 H1 c1 cls d s1 => h B1 H1 c1 cls d (s.trans s1)
abbrev SK := Sl → Ce → Prop
abbrev XQ := Value → Ce → Prop
section
variable (K : PySem.W.Frag) (E : XK) (QX : XQ)
def RE (te : TE) (e : List Sl) (c : Ce) (Q : SK) : Prop := ∀ B H σ, Rep K B H e c σ → EX K B E QX → ∀ Qr : VK,
  (∀ v B' H' sl c', Same B B' → Rep K B' H' e c' σ → VOk K B' v sl → Q sl c' → Qr v H') → te σ H Qr
/-- it gives a new list -/
def RN (te : TE) (e : List Sl) (c : Ce) (Q : List Sl → Ce → Prop) : Prop := ∀ B H σ, Rep K B H e c σ → EX K B E QX → ∀ Qr : VK,
  (∀ p B' H' vs xs c', Same B B' → Rep K B' H' e c' σ → B' p = none → c' p = none → H' p = some (.lst vs) → VOks K B' vs xs → Q xs c' → Qr (.ref p) H') → te σ H Qr
def RT (tt : TT) (e : List Sl) (c : Ce) (Q : Bool → Ce → Prop) : Prop := ∀ B H σ, Rep K B H e c σ → EX K B E QX → ∀ Qr : Bool → Hp → Prop,
  (∀ b B' H' c', Same B B' → Rep K B' H' e c' σ → Q b c' → Qr b H') → tt σ H Qr
def RA (ta : TA) (e : List Sl) (c : Ce) (Q : List Sl → Ce → Prop) : Prop := ∀ B H σ, Rep K B H e c σ → EX K B E QX → ∀ Qr : List V → Hp → Prop,
  (∀ vs B' H' xs c', Same B B' → Rep K B' H' e c' σ → VOks K B' vs xs → Q xs c' → Qr vs H') → ta σ H Qr
def RO (to : TO) (e : List Sl) (c : Ce) (Q : Option Int → Ce → Prop) : Prop := ∀ B H σ, Rep K B H e c σ → EX K B E QX → ∀ Qr : Option Int → Hp → Prop,
  (∀ i B' H' c', Same B B' → Rep K B' H' e c' σ → Q i c' → Qr i H') → to σ H Qr
end
section
variable (K : PySem.W.Frag)
def R1 (r : V → Hp → VK → Prop) (x : Sl) (c : Ce) (Q : SK) : Prop := ∀ B H v, RepC K B H c → VOk K B v x → ∀ Qr : VK,
  (∀ w B' H' sl c', Same B B' → RepC K B' H' c' → VOk K B' w sl → Q sl c' → Qr w H') → r v H Qr
def R2 (r : L2.R2) (x y : Sl) (c : Ce) (Q : SK) : Prop := ∀ B H v u, RepC K B H c → VOk K B v x → VOk K B u y → ∀ Qr : VK,
  (∀ w B' H' sl c', Same B B' → RepC K B' H' c' → VOk K B' w sl → Q sl c' → Qr w H') → r v u H Qr
def RL (r : List V → Hp → VK → Prop) (xs : List Sl) (c : Ce) (Q : SK) : Prop := ∀ B H vs, RepC K B H c → VOks K B vs xs → ∀ Qr : VK,
  (∀ w B' H' sl c', Same B B' → RepC K B' H' c' → VOk K B' w sl → Q sl c' → Qr w H') → r vs H Qr
/-- they give a new list -/
def R2N (r : L2.R2) (x y : Sl) (c : Ce) (Q : List Sl → Ce → Prop) : Prop := ∀ B H v u, RepC K B H c → VOk K B v x → VOk K B u y → ∀ Qr : VK,
  (∀ p B' H' vs xs c', Same B B' → RepC K B' H' c' → B' p = none → c' p = none → H' p = some (.lst vs) → VOks K B' vs xs → Q xs c' → Qr (.ref p) H') → r v u H Qr
def RLN (r : List V → Hp → VK → Prop) (zs : List Sl) (c : Ce) (Q : List Sl → Ce → Prop) : Prop := ∀ B H us, RepC K B H c → VOks K B us zs → ∀ Qr : VK,
  (∀ p B' H' vs xs c', Same B B' → RepC K B' H' c' → B' p = none → c' p = none → H' p = some (.lst vs) → VOks K B' vs xs → Q xs c' → Qr (.ref p) H') → r us H Qr
end
structure KS where
  nx : List Sl → Ce → Prop
  rt : Sl → Ce → Prop
  bk : List Sl → Ce → Prop := fun _ _ => False
  ct : List Sl → Ce → Prop := fun _ _ => False
structure KOk (K : PySem.W.Frag) (B : Hp) (k : KS) (D : Ends) : Prop where
  nx : ∀ B' H' σ' e' c', Same B B' → Rep K B' H' e' c' σ' → k.nx e' c' → D.nx σ' H'
  rt : ∀ v B' H' sl c', Same B B' → RepC K B' H' c' → VOk K B' v sl → k.rt sl c' → D.rt v H'
  bk : ∀ B' H' σ' e' c', Same B B' → Rep K B' H' e' c' σ' → k.bk e' c' → D.bk σ' H'
  ct : ∀ B' H' σ' e' c', Same B B' → Rep K B' H' e' c' σ' → k.ct e' c' → D.ct σ' H'
theorem KOk.mono {K : PySem.W.Frag} {B B' : Hp} {k : KS} {D : Ends} (s : Same B B') (h : KOk K B k D) : KOk K B' k D :=
  ⟨fun _ _ _ _ _ s1 => h.nx _ _ _ _ _ (s.trans s1), fun _ _ _ _ _ s1 => h.rt _ _ _ _ _ (s.trans s1), fun _ _ _ _ _ s1 => h.bk _ _ _ _ _ (s.trans s1), fun _ _ _ _ _ s1 => h.ct _ _ _ _ _ (s.trans s1)⟩
def RS (K : PySem.W.Frag) (E : XK) (QX : XQ) (ts : TS) (e : List Sl) (c : Ce) (k : KS) : Prop := ∀ B H σ, Rep K B H e c σ → EX K B E QX → ∀ D : Ends, KOk K B k D → ts D σ H
/-- a target -/
def RG (K : PySem.W.Frag) (E : XK) (QX : XQ) (tg : TG) (x : Sl) (e : List Sl) (c : Ce) (Q : List Sl → Ce → Prop) : Prop := ∀ B H σ v, Rep K B H e c σ → EX K B E QX → VOk K B v x → ∀ Qr : L2.St → Hp → Prop,
  (∀ B' H' σ' e' c', Same B B' → Rep K B' H' e' c' σ' → Q e' c' → Qr σ' H') → tg v σ H Qr

section
variable {K : PySem.W.Frag} {E : XK} {QX : XQ} {te ta tb tc : TE} {tt tu : TT} {e e' : List Sl} {c c' : Ce} {Q : SK} {i : Nat} {sl : Sl}
theorem Rep.to {B B' H H' : Hp} {σ : L2.St} (R : Rep K B H e c σ) (s : Same B B') (R' : RepC K B' H' c') : Rep K B' H' e c' σ := ⟨R', R.e.mono s⟩
/-! #### names, constants -/
theorem re_var (h : e[i]? = some sl) (hn : sl ≠ .un) (q : Q sl c) : RE K E QX (tVar i) e c Q := fun B H σ R X Qr k => by
  obtain ⟨ov, h1, h2⟩ := paired_get R.e h
  rcases h2 with h2 | ⟨v, rfl, h2⟩
  · exact absurd h2 hn
  · exact ⟨v, h1, k v B H sl c (Same.refl _) R h2 q⟩
theorem re_varD {x : PyData} (h : e[i]? = some (.d x)) (q : Q (.d x) c) : RE K E QX (tVar i) e c Q := re_var h (fun z => by cases z) q
theorem re_varO {a : Addr} (h : e[i]? = some (.o a)) (q : Q (.o a) c) : RE K E QX (tVar i) e c Q := re_var h (fun z => by cases z) q
theorem re_varV {x : V} (h : e[i]? = some (.v x)) (q : Q (.v x) c) : RE K E QX (tVar i) e c Q := re_var h (fun z => by cases z) q
theorem re_int {n : Int} (q : Q (.d (.int n)) c) : RE K E QX (tC (.int n)) e c Q := fun B H σ R X Qr k => k _ B H (.d (.int n)) c (Same.refl _) R (Td.int n) q
theorem re_bl {n : Bool} (q : Q (.d (.bool n)) c) : RE K E QX (tC (.bl n)) e c Q := fun B H σ R X Qr k => k _ B H (.d (.bool n)) c (Same.refl _) R (Td.bl n) q
theorem re_str {n : Str} (q : Q (.d (.str n)) c) : RE K E QX (tC (.str n)) e c Q := fun B H σ R X Qr k => k _ B H (.d (.str n)) c (Same.refl _) R (Td.str n) q
theorem re_non (q : Q (.d .none) c) : RE K E QX (tC .non) e c Q := fun B H σ R X Qr k => k _ B H (.d .none) c (Same.refl _) R Td.non q
theorem re_cV {v : V} (q : Q (.v v) c) : RE K E QX (tC v) e c Q := fun B H σ R X Qr k => k v B H (.v v) c (Same.refl _) R rfl q
/-! #### operators -/
theorem re_op {r : L2.R2} (h : RE K E QX ta e c fun x c1 => RE K E QX tb e c1 fun y c2 => R2 K r x y c2 Q) : RE K E QX (tOp r ta tb) e c Q := fun B H σ R X Qr k =>
  h B H σ R X _ fun v B1 H1 x c1 s1 R1 V1 h1 => h1 B1 H1 σ R1 (X.mono s1) _ fun u B2 H2 y c2 s2 R2 V2 h2 =>
    h2 B2 H2 v u R2.c (V1.mono s2) V2 Qr fun w B3 H3 z c3 s3 R3 V3 q => k w B3 H3 z c3 ((s1.trans s2).trans s3) (R2.to s3 R3) V3 q
theorem rn_op {r : L2.R2} {Q : List Sl → Ce → Prop} (h : RE K E QX ta e c fun x c1 => RE K E QX tb e c1 fun y c2 => R2N K r x y c2 Q) : RN K E QX (tOp r ta tb) e c Q := fun B H σ R X Qr k =>
  h B H σ R X _ fun v B1 H1 x c1 s1 R1 V1 h1 => h1 B1 H1 σ R1 (X.mono s1) _ fun u B2 H2 y c2 s2 R2 V2 h2 =>
    h2 B2 H2 v u R2.c (V1.mono s2) V2 Qr fun p B3 H3 vs xs c3 s3 R3 n1 n2 l V3 q => k p B3 H3 vs xs c3 ((s1.trans s2).trans s3) (R2.to s3 R3) n1 n2 l V3 q
theorem re_un {r : V → Hp → VK → Prop} (h : RE K E QX ta e c fun x c1 => R1 K r x c1 Q) : RE K E QX (tUn r ta) e c Q := fun B H σ R X Qr k =>
  h B H σ R X _ fun v B1 H1 x c1 s1 R1 V1 h1 => h1 B1 H1 v R1.c V1 Qr fun w B3 H3 z c3 s3 R3 V3 q => k w B3 H3 z c3 (s1.trans s3) (R1.to s3 R3) V3 q
theorem re_chain {r r' : L2.R2} (h : RE K E QX ta e c fun x c1 => RE K E QX tb e c1 fun y c2 => R2 K r x y c2 fun z c3 => ∃ b, z = .d (.bool b) ∧ (b = true → RE K E QX tc e c3 fun w c4 => R2 K r' y w c4 Q) ∧ (b = false → Q (.d (.bool false)) c3)) :
    RE K E QX (tChain r r' ta tb tc) e c Q := fun B H σ R X Qr k =>
  h B H σ R X _ fun v B1 H1 x c1 s1 R1 V1 h1 => h1 B1 H1 σ R1 (X.mono s1) _ fun u B2 H2 y c2 s2 R2 V2 h2 =>
    h2 B2 H2 v u R2.c (V1.mono s2) V2 _ fun w B3 H3 z c3 s3 R3 V3 ⟨b, hz, ht, hf⟩ => by
      subst hz
      cases V3
      refine ⟨b, rfl, ?_⟩
      cases b with
      | true =>
        rw [if_pos rfl]
        have R3' := R2.to s3 R3
        exact ht rfl B3 H3 σ R3' (X.mono ((s1.trans s2).trans s3)) _ fun w B4 H4 z c4 s4 R4 V4 h4 => h4 B4 H4 u w R4.c ((V2.mono s3).mono s4) V4 Qr fun w B5 H5 z c5 s5 R5 V5 q =>
          k w B5 H5 z c5 ((((s1.trans s2).trans s3).trans s4).trans s5) (R4.to s5 R5) V5 q
      | false =>
        rw [if_neg Bool.false_ne_true]
        exact k _ B3 H3 (.d (.bool false)) c3 ((s1.trans s2).trans s3) (R2.to s3 R3) (Td.bl false) (hf rfl)
/-! #### tests -/
theorem rt_test {Q : Bool → Ce → Prop} (h : RE K E QX ta e c fun x c1 => ∃ b, x = .d (.bool b) ∧ Q b c1) : RT K E QX (tTest ta) e c Q := fun B H σ R X Qr k =>
  h B H σ R X _ fun v B1 H1 x c1 s1 R1 V1 ⟨b, hx, q⟩ => by
    subst hx
    cases V1
    exact ⟨b, rfl, k b B1 H1 c1 s1 R1 q⟩
theorem rt_B {Q : Bool → Ce → Prop} (h : RE K E QX ta e c fun x c1 => ∃ b, x = .d (.bool b) ∧ Q b c1) : RT K E QX (tB ta) e c Q := rt_test h
theorem rt_and {Q : Bool → Ce → Prop} (h : RT K E QX tt e c fun b c1 => (b = true → RT K E QX tu e c1 Q) ∧ (b = false → Q false c1)) : RT K E QX (tAnd tt tu) e c Q := fun B H σ R X Qr k =>
  h B H σ R X _ fun b B1 H1 c1 s1 R1 ⟨ht, hf⟩ => by
    cases b with
    | true =>
      rw [if_pos rfl]
      exact ht rfl B1 H1 σ R1 (X.mono s1) Qr fun b B2 H2 c2 s2 R2 q => k b B2 H2 c2 (s1.trans s2) R2 q
    | false =>
      rw [if_neg Bool.false_ne_true]
      exact k false B1 H1 c1 s1 R1 (hf rfl)
theorem rt_or {Q : Bool → Ce → Prop} (h : RT K E QX tt e c fun b c1 => (b = true → Q true c1) ∧ (b = false → RT K E QX tu e c1 Q)) : RT K E QX (tOr tt tu) e c Q := fun B H σ R X Qr k =>
  h B H σ R X _ fun b B1 H1 c1 s1 R1 ⟨ht, hf⟩ => by
    cases b with
    | false =>
      rw [if_neg Bool.false_ne_true]
      exact hf rfl B1 H1 σ R1 (X.mono s1) Qr fun b B2 H2 c2 s2 R2 q => k b B2 H2 c2 (s1.trans s2) R2 q
    | true =>
      rw [if_pos rfl]
      exact k true B1 H1 c1 s1 R1 (ht rfl)
theorem rt_not {Q : Bool → Ce → Prop} (h : RT K E QX tt e c fun b c1 => Q (!b) c1) : RT K E QX (tNot tt) e c Q := fun B H σ R X Qr k =>
  h B H σ R X _ fun b B1 H1 c1 s1 R1 q => k (!b) B1 H1 c1 s1 R1 q
theorem re_andV (h : RE K E QX ta e c fun x c1 => ∃ b, x = .d (.bool b) ∧ (b = true → RE K E QX tb e c1 Q) ∧ (b = false → Q (.d (.bool false)) c1)) : RE K E QX (tAndV ta tb) e c Q := fun B H σ R X Qr k =>
  h B H σ R X _ fun v B1 H1 x c1 s1 R1 V1 ⟨b, hx, ht, hf⟩ => by
    subst hx
    cases V1
    refine ⟨b, rfl, ?_⟩
    cases b with
    | true =>
      rw [if_pos rfl]
      exact ht rfl B1 H1 σ R1 (X.mono s1) Qr fun w B2 H2 z c2 s2 R2 V2 q => k w B2 H2 z c2 (s1.trans s2) R2 V2 q
    | false =>
      rw [if_neg Bool.false_ne_true]
      exact k _ B1 H1 (.d (.bool false)) c1 s1 R1 (Td.bl false) (hf rfl)
theorem re_orV (h : RE K E QX ta e c fun x c1 => ∃ b, x = .d (.bool b) ∧ (b = true → Q (.d (.bool true)) c1) ∧ (b = false → RE K E QX tb e c1 Q)) : RE K E QX (tOrV ta tb) e c Q := fun B H σ R X Qr k =>
  h B H σ R X _ fun v B1 H1 x c1 s1 R1 V1 ⟨b, hx, ht, hf⟩ => by
    subst hx
    cases V1
    refine ⟨b, rfl, ?_⟩
    cases b with
    | false =>
      rw [if_neg Bool.false_ne_true]
      exact hf rfl B1 H1 σ R1 (X.mono s1) Qr fun w B2 H2 z c2 s2 R2 V2 q => k w B2 H2 z c2 (s1.trans s2) R2 V2 q
    | true =>
      rw [if_pos rfl]
      exact k _ B1 H1 (.d (.bool true)) c1 s1 R1 (Td.bl true) (ht rfl)
theorem re_notV (h : RE K E QX ta e c fun x c1 => ∃ b, x = .d (.bool b) ∧ Q (.d (.bool (!b))) c1) : RE K E QX (tNotV ta) e c Q := fun B H σ R X Qr k =>
  h B H σ R X _ fun v B1 H1 x c1 s1 R1 V1 ⟨b, hx, q⟩ => by
    subst hx
    cases V1
    exact ⟨b, rfl, k _ B1 H1 (.d (.bool (!b))) c1 s1 R1 (Td.bl _) q⟩
theorem re_if (h : RT K E QX tt e c fun b c1 => (b = true → RE K E QX ta e c1 Q) ∧ (b = false → RE K E QX tb e c1 Q)) : RE K E QX (tIf tt ta tb) e c Q := fun B H σ R X Qr k =>
  h B H σ R X _ fun b B1 H1 c1 s1 R1 ⟨ht, hf⟩ => by
    cases b with
    | true =>
      rw [if_pos rfl]
      exact ht rfl B1 H1 σ R1 (X.mono s1) Qr fun w B2 H2 z c2 s2 R2 V2 q => k w B2 H2 z c2 (s1.trans s2) R2 V2 q
    | false =>
      rw [if_neg Bool.false_ne_true]
      exact hf rfl B1 H1 σ R1 (X.mono s1) Qr fun w B2 H2 z c2 s2 R2 V2 q => k w B2 H2 z c2 (s1.trans s2) R2 V2 q
/-! #### new lists: data, or an own object -/
theorem re_new (h : RN K E QX te e c fun xs c1 => ∃ ds : List PyData, xs = ds.map Sl.d ∧ Q (.d (.list ds)) c1) : RE K E QX te e c Q := fun B H σ R X Qr k =>
  h B H σ R X _ fun p B1 H1 vs xs c1 s1 R1 nb nc l V1 ⟨ds, hx, q⟩ => by
    subst hx
    have s2 : Same B1 (upd B1 p (.lst vs)) := same_upd nb
    have R2 : RepC K (upd B1 p (.lst vs)) H1 c1 := by
      refine ⟨fun b u z => ?_, fun b x z => ?_⟩
      · by_cases y : b = p
        · subst y; rw [upd_same] at z; cases z; exact l
        · rw [upd_ne y] at z; exact R1.c.bh b u z
      · have y : b ≠ p := ce_ne z nc
        rw [upd_ne y]
        exact ⟨(R1.c.ce b x z).1, (R1.c.ce b x z).2.mono s2 rfl⟩
    exact k _ _ H1 (.d (.list ds)) c1 (s1.trans s2) (R1.to s2 R2) (Td.lst upd_same (dpa_mono s2 _ _ (VOks.data V1))) q
theorem re_own (h : RN K E QX te e c fun xs c1 => ∀ p, c1 p = none → Q (.o p) (cu c1 p (.lst xs))) : RE K E QX te e c Q := fun B H σ R X Qr k =>
  h B H σ R X _ fun p B1 H1 vs xs c1 s1 R1 nb nc l V1 q => by
    have R2 : RepC K B1 H1 (cu c1 p (.lst xs)) := by
      refine ⟨R1.c.bh, fun b x z => ?_⟩
      by_cases y : b = p
      · subst y; rw [cu_same] at z; cases z; exact ⟨nb, vs, l, V1⟩
      · rw [cu_ne y] at z; exact R1.c.ce b x z
    exact k _ B1 H1 (.o p) _ s1 (R1.to (Same.refl _) R2) rfl (q p nc)
/-- an own list of data that is handed on is data from here on -/
theorem re_fix {a : Addr → Prop} (h : RE K E QX te e c fun x c1 => Q x c1 ∨ ∃ a ds, x = .o a ∧ c1 a = some (.lst (ds.map Sl.d)) ∧ Q (.d (.list ds)) (cd c1 a)) : RE K E QX te e c Q := fun B H σ R X Qr k =>
  h B H σ R X _ fun v B1 H1 x c1 s1 R1 V1 h1 => by
    rcases h1 with q | ⟨a, ds, rfl, hc, q⟩
    · exact k v B1 H1 x c1 s1 R1 V1 q
    · obtain ⟨B2, s2, R2, V2⟩ := R1.c.fixL hc
      cases V1
      exact k _ B2 H1 (.d (.list ds)) _ (s1.trans s2) (R1.to s2 R2) V2 q
theorem re_varF {a : Addr} {ds : List PyData} (h : e[i]? = some (.o a)) (hc : c a = some (.lst (ds.map Sl.d))) (q : Q (.d (.list ds)) (cd c a)) : RE K E QX (tVar i) e c Q :=
  re_fix (a := fun _ => True) (re_varO h (.inr ⟨a, ds, rfl, hc, q⟩))
/-! #### arguments, displays -/
theorem ra_nil {Q : List Sl → Ce → Prop} (q : Q [] c) : RA K E QX tNil e c Q := fun B H σ R X Qr k => k [] B H [] c (Same.refl _) R .nil q
theorem ra_cons {tr : TA} {Q : List Sl → Ce → Prop} (h : RE K E QX ta e c fun x c1 => RA K E QX tr e c1 fun xs c2 => Q (x :: xs) c2) : RA K E QX (tCons ta tr) e c Q := fun B H σ R X Qr k =>
  h B H σ R X _ fun v B1 H1 x c1 s1 R1 V1 h1 => h1 B1 H1 σ R1 (X.mono s1) _ fun vs B2 H2 xs c2 s2 R2 V2 q => k (v :: vs) B2 H2 (x :: xs) c2 (s1.trans s2) R2 (.cons (V1.mono s2) V2) q
theorem re_tup {tr : TA} (h : RA K E QX tr e c fun xs c1 => ∃ ds : List PyData, xs = ds.map Sl.d ∧ ds.length ≤ 100000 ∧ Q (.d (.tuple ds)) c1) : RE K E QX (tTup tr) e c Q := fun B H σ R X Qr k =>
  h B H σ R X _ fun vs B1 H1 xs c1 s1 R1 V1 ⟨ds, hx, hl, q⟩ => by
    subst hx
    have hz : vs.length ≤ sizeLine := by
      rw [paired_len V1, List.length_map]
      exact Nat.le_trans hl (by decide)
    refine ⟨hz, fun p hp => ?_⟩
    have nb := (R1.c.fresh hp).1
    have s2 : Same B1 (upd B1 p (.tup vs)) := same_upd nb
    exact k _ _ _ (.d (.tuple ds)) c1 (s1.trans s2) (R1.to s2 (R1.c.frz hp _)) (Td.tup upd_same (dpa_mono s2 _ _ (VOks.data V1))) q
/-- a new tuple that is held as an own object -/
theorem re_tupO {tr : TA} (h : RA K E QX tr e c fun xs c1 => xs.length ≤ 100000 ∧ ∀ p, c1 p = none → Q (.o p) (cu c1 p (.tup xs))) : RE K E QX (tTup tr) e c Q := fun B H σ R X Qr k =>
  h B H σ R X _ fun vs B1 H1 xs c1 s1 R1 V1 ⟨hl, q⟩ => by
    have hz : vs.length ≤ sizeLine := by
      rw [paired_len V1]
      exact Nat.le_trans hl (by decide)
    refine ⟨hz, fun p hp => ?_⟩
    exact k _ _ _ (.o p) _ s1 (R1.to (Same.refl _) (R1.c.own (x := .tup xs) hp ⟨vs, upd_same, V1⟩)) rfl (q p (R1.c.fresh hp).2)
theorem rn_lst {tr : TA} {Q : List Sl → Ce → Prop} (h : RA K E QX tr e c fun xs c1 => xs.length ≤ 100000 ∧ Q xs c1) : RN K E QX (tLst tr) e c Q := fun B H σ R X Qr k =>
  h B H σ R X _ fun vs B1 H1 xs c1 s1 R1 V1 ⟨hl, q⟩ => by
    have hz : vs.length ≤ sizeLine := by
      rw [paired_len V1]
      exact Nat.le_trans hl (by decide)
    refine ⟨hz, fun p hp => ?_⟩
    obtain ⟨nb, nc⟩ := R1.c.fresh hp
    have R2 : RepC K B1 (upd H1 p (.lst vs)) c1 := by
      refine ⟨fun b u z => ?_, fun b x z => ?_⟩
      · rw [upd_ne (ne_of_none z nb)]; exact R1.c.bh b u z
      · have y : b ≠ p := ce_ne z nc
        exact ⟨(R1.c.ce b x z).1, (R1.c.ce b x z).2.mono (Same.refl _) (upd_ne y).symm⟩
    exact k p B1 _ vs xs c1 s1 (R1.to (Same.refl _) R2) nb nc upd_same V1 q
/-! #### calls of built-ins -/
theorem re_cb {r : List V → Hp → VK → Prop} {tr : TA} (h : RA K E QX tr e c fun xs c1 => RL K r xs c1 Q) : RE K E QX (tCB r tr) e c Q := fun B H σ R X Qr k =>
  h B H σ R X _ fun vs B1 H1 xs c1 s1 R1 V1 h1 => h1 B1 H1 vs R1.c V1 Qr fun w B3 H3 z c3 s3 R3 V3 q => k w B3 H3 z c3 (s1.trans s3) (R1.to s3 R3) V3 q
theorem rn_cb {r : List V → Hp → VK → Prop} {tr : TA} {Q : List Sl → Ce → Prop} (h : RA K E QX tr e c fun xs c1 => RLN K r xs c1 Q) : RN K E QX (tCB r tr) e c Q := fun B H σ R X Qr k =>
  h B H σ R X _ fun vs B1 H1 xs c1 s1 R1 V1 h1 => h1 B1 H1 vs R1.c V1 Qr fun p B3 H3 ws z c3 s3 R3 n1 n2 l V3 q => k p B3 H3 ws z c3 (s1.trans s3) (R1.to s3 R3) n1 n2 l V3 q
/-! #### slices -/
theorem ro_none {Q : Option Int → Ce → Prop} (q : Q none c) : RO K E QX tNoPart e c Q := fun B H σ R X Qr k => k none B H c (Same.refl _) R q
theorem ro_some {Q : Option Int → Ce → Prop} (h : RE K E QX te e c fun x c1 => ∃ i, x = .d (.int i) ∧ Q (some i) c1) : RO K E QX (tPart te) e c Q := fun B H σ R X Qr k =>
  h B H σ R X _ fun v B1 H1 x c1 s1 R1 V1 ⟨i, hx, q⟩ => by
    subst hx
    cases V1
    exact ⟨i, rfl, k _ B1 H1 c1 s1 R1 q⟩
end
end Sy
/-! Sy1: statements, targets, what operators do at values. -/
namespace Sy
open PySem L2

section
variable {K : PySem.W.Frag} {E : XK} {QX : XQ} {te ta tb tc : TE} {tt : TT} {t u : TS} {e e' : List Sl} {c c' : Ce} {k : KS} {i j : Nat} {sl x : Sl}
/-! #### statements -/
theorem rs_seq (h : RS K E QX t e c { k with nx := fun e1 c1 => RS K E QX u e1 c1 k }) : RS K E QX (tSeq t u) e c k := fun B H σ R X D o =>
  h B H σ R X { D with nx := u D } ⟨fun B1 H1 σ1 e1 c1 s1 R1 q => q B1 H1 σ1 R1 (X.mono s1) D (o.mono s1), o.rt, o.bk, o.ct⟩
theorem rs_next (q : k.nx e c) : RS K E QX tNext e c k := fun B H σ R X D o => o.nx B H σ e c (Same.refl _) R q
theorem rs_brk (q : k.bk e c) : RS K E QX tBreak e c k := fun B H σ R X D o => o.bk B H σ e c (Same.refl _) R q
theorem rs_cont (q : k.ct e c) : RS K E QX tCont e c k := fun B H σ R X D o => o.ct B H σ e c (Same.refl _) R q
theorem rs_drop (h : RE K E QX te e c fun _ c1 => k.nx e c1) : RS K E QX (tDrop te) e c k := fun B H σ R X D o =>
  h B H σ R X _ fun v B1 H1 x c1 s1 R1 V1 q => o.nx B1 H1 σ e c1 s1 R1 q
theorem rs_ret (h : RE K E QX te e c k.rt) : RS K E QX (tRet te) e c k := fun B H σ R X D o =>
  h B H σ R X _ fun v B1 H1 x c1 s1 R1 V1 q => o.rt v B1 H1 x c1 s1 R1.c V1 q
theorem rs_retN (q : k.rt (.d .none) c) : RS K E QX tRetN e c k := fun B H σ R X D o => o.rt .non B H (.d .none) c (Same.refl _) R.c Td.non q
theorem rs_if (h : RT K E QX tt e c fun b c1 => (b = true → RS K E QX t e c1 k) ∧ (b = false → RS K E QX u e c1 k)) : RS K E QX (tIfS tt t u) e c k := fun B H σ R X D o =>
  h B H σ R X _ fun b B1 H1 c1 s1 R1 ⟨ht, hf⟩ => by
    cases b with
    | true =>
      rw [if_pos rfl]
      exact ht rfl B1 H1 σ R1 (X.mono s1) D (o.mono s1)
    | false =>
      rw [if_neg Bool.false_ne_true]
      exact hf rfl B1 H1 σ R1 (X.mono s1) D (o.mono s1)
theorem rs_asg {g : TG} (h : RE K E QX te e c fun x c1 => RG K E QX g x e c1 k.nx) : RS K E QX (tAsg te g) e c k := fun B H σ R X D o =>
  h B H σ R X _ fun v B1 H1 x c1 s1 R1 V1 h1 => h1 B1 H1 σ v R1 (X.mono s1) V1 _ fun B2 H2 σ2 e2 c2 s2 R2 q => o.nx B2 H2 σ2 e2 c2 (s1.trans s2) R2 q
theorem Rep.setSlot {B H : Hp} {σ : L2.St} {v : V} (R : Rep K B H e c σ) (V1 : VOk K B v x) (i : Nat) : Rep K B H (e.set i x) c (σ.set i (some v)) :=
  ⟨R.c, paired_set (.inr ⟨v, rfl, V1⟩) i R.e⟩
theorem rg_name {Q : List Sl → Ce → Prop} (q : Q (e.set i x) c) : RG K E QX (gName i) x e c Q := fun B H σ v R X V1 Qr k =>
  k B H _ _ c (Same.refl _) (R.setSlot V1 i) q
theorem rs_par {tr : TA} (h : RA K E QX tr e c fun xs c1 => ∃ x y, xs = [x, y] ∧ k.nx ((e.set i x).set j y) c1) : RS K E QX (tPar i j tr) e c k := fun B H σ R X D o =>
  h B H σ R X _ fun vs B1 H1 xs c1 s1 R1 V1 ⟨x, y, hx, q⟩ => by
    subst hx
    cases V1 with
    | cons v1 V2 =>
      cases V2 with
      | cons v2 V3 =>
        cases V3
        exact ⟨_, _, rfl, o.nx B1 H1 _ _ c1 s1 ((R1.setSlot v1 i).setSlot v2 j) q⟩
theorem rs_par3 {tr : TA} {l : Nat} (h : RA K E QX tr e c fun xs c1 => ∃ x y z, xs = [x, y, z] ∧ k.nx (((e.set i x).set j y).set l z) c1) : RS K E QX (tPar3 i j l tr) e c k := fun B H σ R X D o =>
  h B H σ R X _ fun vs B1 H1 xs c1 s1 R1 V1 ⟨x, y, z, hx, q⟩ => by
    subst hx
    cases V1 with
    | cons v1 V2 =>
      cases V2 with
      | cons v2 V3 =>
        cases V3 with
        | cons v3 V4 =>
          cases V4
          exact ⟨_, _, _, rfl, o.nx B1 H1 _ _ c1 s1 (((R1.setSlot v1 i).setSlot v2 j).setSlot v3 l) q⟩
/-- several targets -/
def RGs (K : PySem.W.Frag) (E : XK) (QX : XQ) (tg : TGs) (xs : List Sl) (e : List Sl) (c : Ce) (Q : List Sl → Ce → Prop) : Prop := ∀ B H σ vs, Rep K B H e c σ → EX K B E QX → VOks K B vs xs → ∀ Qr : L2.St → Hp → Prop,
  (∀ B' H' σ' e' c', Same B B' → Rep K B' H' e' c' σ' → Q e' c' → Qr σ' H') → tg vs σ H Qr
theorem rgs_nil {Q : List Sl → Ce → Prop} (q : Q e c) : RGs K E QX gNil [] e c Q := fun B H σ vs R X V1 Qr k => by
  cases V1
  exact ⟨rfl, k B H σ e c (Same.refl _) R q⟩
theorem rgs_cons {Q : List Sl → Ce → Prop} {g : TG} {gs : TGs} {xs : List Sl} (h : RG K E QX g x e c fun e1 c1 => RGs K E QX gs xs e1 c1 Q) : RGs K E QX (gCons g gs) (x :: xs) e c Q := fun B H σ vs R X V1 Qr k => by
  cases V1 with
  | cons v1 V2 =>
    exact ⟨_, _, rfl, h B H σ _ R X v1 _ fun B1 H1 σ1 e1 c1 s1 R1 h1 => h1 B1 H1 σ1 _ R1 (X.mono s1) (VOks.mono s1 V2) Qr fun B2 H2 σ2 e2 c2 s2 R2 q => k B2 H2 σ2 e2 c2 (s1.trans s2) R2 q⟩
theorem rg_tup {Q : List Sl → Ce → Prop} {gs : TGs} {ds : List PyData} {n : Nat} (hl : ds.length = n) (h : RGs K E QX gs (ds.map Sl.d) e c Q) : RG K E QX (gTup K n gs) (.d (.tuple ds)) e c Q := fun B H σ v R X V1 Qr k => by
  cases V1 with
  | tup h1 h2 =>
    have V2 := VOks.ofData (K := K) h2
    refine ⟨_, _, rfl, SqT.of (R.c.bh _ _ h1), ?_, h B H σ _ R X V2 Qr k⟩
    rw [paired_len V2, List.length_map, hl]
theorem rg_tupO {Q : List Sl → Ce → Prop} {gs : TGs} {xs : List Sl} {n : Nat} {a : Addr} (hc : c a = some (.tup xs)) (hl : xs.length = n) (h : RGs K E QX gs xs e c Q) : RG K E QX (gTup K n gs) (.o a) e c Q := fun B H σ v R X V1 Qr k => by
  cases V1
  obtain ⟨_, vs, h1, h2⟩ := R.c.ce a _ hc
  refine ⟨_, _, rfl, SqT.of h1, ?_, h B H σ _ R X h2 Qr k⟩
  rw [paired_len h2, hl]
/-- a store by a place -/
def RSet (K : PySem.W.Frag) (t : TSet) (o i x : Sl) (c : Ce) (Q : Ce → Prop) : Prop := ∀ B H vo vi vx, RepC K B H c → VOk K B vo o → VOk K B vi i → VOk K B vx x → ∀ Qr : Hp → Prop,
  (∀ B' H' c', Same B B' → RepC K B' H' c' → Q c' → Qr H') → t vo vi vx H Qr
theorem rg_sub {Q : List Sl → Ce → Prop} {to ti : TE} {s : TSet} (h : RE K E QX to e c fun o c1 => RE K E QX ti e c1 fun i c2 => RSet K s o i x c2 (Q e)) : RG K E QX (gSub to ti s) x e c Q := fun B H σ v R X V1 Qr k =>
  h B H σ R X _ fun vo B1 H1 o c1 s1 R1 Vo h1 => h1 B1 H1 σ R1 (X.mono s1) _ fun vi B2 H2 ii c2 s2 R2 Vi h2 =>
    h2 B2 H2 vo vi v R2.c (Vo.mono s2) Vi (V1.mono (s1.trans s2)) _ fun B3 H3 c3 s3 R3 q => k B3 H3 σ e c3 ((s1.trans s2).trans s3) (R2.to s3 R3) q
theorem rset_list {Q : Ce → Prop} {a : Addr} {xs : List Sl} {n : Int} (hc : c a = some (.lst xs)) (hi : ixN xs.length n = some j) (q : Q (cu c a (.lst (xs.set j x)))) : RSet K rSetL (.o a) (.d (.int n)) x c Q := fun B H vo vi vx R Vo Vi Vx Qr k => by
  cases Vo
  cases Vi
  obtain ⟨_, vs, h1, h2⟩ := R.ce a _ hc
  refine ⟨a, vs, n, j, rfl, rfl, h1, by rw [paired_len h2]; exact hi, ?_⟩
  exact k B _ _ (Same.refl _) (R.set (x := .lst (xs.set j x)) hc ⟨_, upd_same, paired_set Vx j h2⟩) q
/-! #### x op= e -/
def RIp (K : PySem.W.Frag) (t : TIp) (x y : Sl) (c : Ce) (Q : SK) : Prop := ∀ B H v u, RepC K B H c → VOk K B v x → VOk K B u y → ∀ Qr : VK,
  (∀ w B' H' sl c', Same B B' → RepC K B' H' c' → VOk K B' w sl → Q sl c' → Qr w H') → t v u H Qr
theorem rs_aug {ti : TIp} (hx : e[i]? = some sl) (hn : sl ≠ .un) (h : RE K E QX te e c fun y c1 => RIp K ti sl y c1 fun z c2 => k.nx (e.set i z) c2) : RS K E QX (tAug i te ti) e c k := fun B H σ R X D o => by
  obtain ⟨ov, h1, h2⟩ := paired_get R.e hx
  rcases h2 with h2 | ⟨v, rfl, h2⟩
  · exact absurd h2 hn
  · exact ⟨v, h1, h B H σ R X _ fun u B1 H1 y c1 s1 R1 V1 hh => hh B1 H1 v u R1.c (h2.mono s1) V1 _ fun w B2 H2 z c2 s2 R2 V2 q =>
      o.nx B2 H2 _ _ c2 (s1.trans s2) ((R1.to s2 R2).setSlot V2 i) q⟩
theorem rip_int {f : Int → Int → Int} {m n : Int} {Q : SK} (q : Q (.d (.int (f m n))) c) : RIp K (ipI f) (.d (.int m)) (.d (.int n)) c Q := fun B H v u R V1 V2 Qr k => by
  cases V1
  cases V2
  exact ⟨m, n, rfl, rfl, k _ B H (.d (.int (f m n))) c (Same.refl _) R (Td.int _) q⟩
/-! #### fields of an own instance -/
theorem foks_lookup {B : Hp} {f : Str} : ∀ {gs : List (Str × V)} {fs : List (Str × Sl)}, FOks K B gs fs → ∀ {sl : Sl}, fs.lookup f = some sl → ∃ v, gs.lookup f = some v ∧ VOk K B v sl
  | _, _, .nil, _, h => by cases h
  | (g, v) :: gs, (f', s) :: fs, .cons r t, sl, h => by
    obtain ⟨r1, r2⟩ := r
    have r1 : g = f' := r1
    subst r1
    rw [List.lookup_cons] at h ⊢
    cases q : f == g with
    | true =>
      rw [q] at h
      cases h
      exact ⟨v, rfl, r2⟩
    | false =>
      rw [q] at h
      exact foks_lookup t h
theorem foks_none {B : Hp} {f : Str} : ∀ {gs : List (Str × V)} {fs : List (Str × Sl)}, FOks K B gs fs → fs.lookup f = none → gs.lookup f = none
  | _, _, .nil, _ => rfl
  | (g, v) :: gs, (f', s) :: fs, .cons r t, h => by
    obtain ⟨r1, r2⟩ := r
    have r1 : g = f' := r1
    subst r1
    rw [List.lookup_cons] at h ⊢
    cases q : f == g with
    | true =>
      rw [q] at h
      cases h
    | false =>
      rw [q] at h
      exact foks_none t h
/-- a field stored -/
def putS (f : Str) (x : Sl) : List (Str × Sl) → List (Str × Sl)
  | [] => [(f, x)]
  | (g, y) :: r => if g = f then (g, x) :: r else (g, y) :: putS f x r
theorem foks_put {B : Hp} {f : Str} {v : V} (hv : VOk K B v x) : ∀ {gs : List (Str × V)} {fs : List (Str × Sl)}, FOks K B gs fs → FOks K B (putF f v gs) (putS f x fs)
  | _, _, .nil => .cons ⟨rfl, hv⟩ .nil
  | (g, w) :: gs, (f', s) :: fs, .cons r t => by
    obtain ⟨r1, r2⟩ := r
    have r1 : g = f' := r1
    subst r1
    show FOks K B (if g = f then _ else _) (if g = f then _ else _)
    by_cases q : g = f
    · rw [if_pos q, if_pos q]
      exact .cons ⟨rfl, hv⟩ t
    · rw [if_neg q, if_neg q]
      exact .cons ⟨rfl, r2⟩ (foks_put hv t)
theorem lookup_putS (f g : Str) : ∀ fs : List (Str × Sl), (putS f x fs).lookup g = if g = f then some x else fs.lookup g
  | [] => by
    show List.lookup g [(f, x)] = _
    by_cases h : g = f
    · have hb : (g == f) = true := beq_iff_eq.mpr h
      simp only [List.lookup, hb, if_pos h]
    · have hb : (g == f) = false := beq_eq_false_iff_ne.mpr h
      simp only [List.lookup, hb, if_neg h]
  | (k, y) :: r => by
    have ih := lookup_putS f g r
    rw [show putS f x ((k, y) :: r) = (if k = f then (k, x) :: r else (k, y) :: putS f x r) from rfl]
    by_cases hk : k = f
    · rw [if_pos hk]
      by_cases h : g = k
      · have hb : (g == k) = true := beq_iff_eq.mpr h
        simp only [List.lookup, hb, if_pos (h.trans hk)]
      · have hb : (g == k) = false := beq_eq_false_iff_ne.mpr h
        simp only [List.lookup, hb, if_neg (fun e : g = f => h (e.trans hk.symm))]
    · rw [if_neg hk]
      by_cases h : g = k
      · have hb : (g == k) = true := beq_iff_eq.mpr h
        simp only [List.lookup, hb, if_neg (fun e : g = f => hk (h.symm.trans e))]
      · have hb : (g == k) = false := beq_eq_false_iff_ne.mpr h
        simp only [List.lookup, hb]
        exact ih
theorem re_fld {Q : SK} {f : Str} (h : RE K E QX ta e c fun x c1 => ∃ a C fs sl, x = .o a ∧ c1 a = some (.ins C fs) ∧ Cls K C ∧ NoAttr K C f ∧ fs.lookup f = some sl ∧ Q sl c1) : RE K E QX (tFld K ta f) e c Q := fun B H σ R X Qr k =>
  h B H σ R X _ fun v B1 H1 x c1 s1 R1 V1 ⟨a, C, fs, sl, hx, hc, cl, na, hl, q⟩ => by
    subst hx
    cases V1
    obtain ⟨_, dx, gs, h1, h2⟩ := R1.c.ce a _ hc
    obtain ⟨w, h3, h4⟩ := foks_lookup h2 hl
    exact ⟨a, C, dx, gs, w, rfl, h1, cl, na, h3, k w B1 H1 sl c1 s1 R1 h4 q⟩
theorem rs_fld {f : Str} {tv : TE} (h : RE K E QX tv e c fun y c1 => RE K E QX ta e c1 fun x c2 => ∃ a C fs, x = .o a ∧ c2 a = some (.ins C fs) ∧ Cls K C ∧ NoAttr K C f ∧ fs.length < 1000 ∧ k.nx e (cu c2 a (.ins C (putS f y fs)))) : RS K E QX (sFld K ta tv f) e c k := fun B H σ R X D o =>
  h B H σ R X _ fun vy B1 H1 y c1 s1 R1 V1 h1 => h1 B1 H1 σ R1 (X.mono s1) _ fun vx B2 H2 x c2 s2 R2 V2 ⟨a, C, fs, hx, hc, cl, na, hl, q⟩ => by
    subst hx
    cases V2
    obtain ⟨_, dx, gs, h1, h2⟩ := R2.c.ce a _ hc
    have e1 := paired_len h2
    refine ⟨a, C, dx, gs, rfl, h1, cl, na, by omega, ?_⟩
    exact o.nx B2 _ σ e _ (s1.trans s2) (R2.to (Same.refl _) (R2.c.set (x := .ins C (putS f y fs)) hc ⟨dx, _, upd_same, foks_put (V1.mono s2) h2⟩)) q
/-- x.f op= e -/
theorem rs_fldaug {f : Str} {tv : TE} {rd : V → V → Hp → VK → Prop} (h : RE K E QX ta e c fun x c1 => ∃ a C fs sl, x = .o a ∧ c1 a = some (.ins C fs) ∧ Cls K C ∧ NoAttr K C f ∧ fs.lookup f = some sl ∧
    RE K E QX tv e c1 fun y c2 => R2 K rd sl y c2 fun z c3 => ∃ fs', c3 a = some (.ins C fs') ∧ fs'.length < 1000 ∧ k.nx e (cu c3 a (.ins C (putS f z fs')))) : RS K E QX (sFldAug K ta tv rd f) e c k := fun B H σ R X D o =>
  h B H σ R X _ fun vx B1 H1 x c1 s1 R1 V1 ⟨a, C, fs, sl, hx, hc, cl, na, hl, h1⟩ => by
    subst hx
    cases V1
    obtain ⟨_, dx, gs, g1, g2⟩ := R1.c.ce a _ hc
    obtain ⟨w, h3, h4⟩ := foks_lookup g2 hl
    refine ⟨a, C, dx, gs, w, rfl, g1, cl, na, h3, ?_⟩
    refine h1 B1 H1 σ R1 (X.mono s1) _ fun vy B2 H2 y c2 s2 R2 V2 h2 => h2 B2 H2 w vy R2.c (h4.mono s2) V2 _ fun vz B3 H3 z c3 s3 R3 V3 ⟨fs', hc3, hl3, q⟩ => ?_
    obtain ⟨_, dx', gs', f1, f2⟩ := R3.ce a _ hc3
    have e1 := paired_len f2
    refine ⟨dx', gs', f1, by omega, ?_⟩
    exact o.nx B3 _ σ e _ ((s1.trans s2).trans s3) ((R2.to s3 R3).to (Same.refl _) (R3.set (x := .ins C (putS f z fs')) hc3 ⟨dx', _, upd_same, foks_put V3 f2⟩)) q
/-! #### methods of built-in types: a list that grows -/
theorem re_app {Q : SK} {a : Addr} {xs : List Sl} (h : RE K E QX ta e c fun o c1 => ∃ a, o = .o a ∧ (∃ xs, c1 a = some (.lst xs)) ∧ RE K E QX tb e c1 fun y c2 => ∃ xs, c2 a = some (.lst xs) ∧ xs.length < 100000 ∧ Q (.d .none) (cu c2 a (.lst (xs ++ [y])))) :
    RE K E QX (tBM K "list" rAppend ta (tCons tb tNil)) e c Q := fun B H σ R X Qr k =>
  h B H σ R X _ fun vo B1 H1 oo c1 s1 R1 V1 ⟨a, ho, ⟨xs0, hc0⟩, h1⟩ => by
    subst ho
    cases V1
    obtain ⟨_, vs0, g1, _⟩ := R1.c.ce a _ hc0
    refine ⟨Or.inl ⟨rfl, _, SqL.of g1⟩, ?_⟩
    refine h1 B1 H1 σ R1 (X.mono s1) _ fun vy B2 H2 y c2 s2 R2 V2 ⟨xs, hc, hl, q⟩ => ?_
    obtain ⟨_, vs, f1, f2⟩ := R2.c.ce a _ hc
    refine ⟨a, vs, vy, rfl, rfl, f1, ?_, ?_⟩
    · rw [paired_len f2]
      exact Nat.lt_of_lt_of_le hl (by decide)
    · exact k .non B2 _ (.d .none) _ (s1.trans s2) (R2.to (Same.refl _) (R2.c.set (x := .lst (xs ++ [y])) hc ⟨_, upd_same, paired_append f2 (.cons V2 .nil)⟩)) Td.non q
/-! #### while -/
theorem rs_while (W : Nat → List Sl → Ce → Prop) (m0 : Nat) (h0 : W m0 e c)
    (hs : ∀ m e c, W m e c → RT K E QX tt e c fun b c1 => (b = true → RS K E QX t e c1 { k with nx := fun e2 c2 => ∃ m', m' < m ∧ W m' e2 c2, ct := fun e2 c2 => ∃ m', m' < m ∧ W m' e2 c2, bk := k.nx }) ∧ (b = false → k.nx e c1)) : RS K E QX (tWhile tt t) e c k := fun B H σ R X D o => by
  refine ⟨fun m σ H => ∃ B1 e1 c1, Same B B1 ∧ Rep K B1 H e1 c1 σ ∧ W m e1 c1, ⟨m0, B, e, c, Same.refl _, R, h0⟩, ?_⟩
  rintro m σ1 H1 ⟨B1, e1, c1, s1, R1, w1⟩
  refine hs m e1 c1 w1 B1 H1 σ1 R1 (X.mono s1) _ fun b B2 H2 c2 s2 R2 ⟨ht, hf⟩ => ?_
  cases b with
  | true =>
    rw [if_pos rfl]
    refine ⟨fun σ H => ∃ B3 e3 c3 m', Same B B3 ∧ Rep K B3 H e3 c3 σ ∧ m' < m ∧ W m' e3 c3, fun σ H ⟨B3, e3, c3, m', s3, R3, hm, w3⟩ => ⟨m', hm, B3, e3, c3, s3, R3, w3⟩, ?_⟩
    refine ht rfl B2 H2 σ1 R2 (X.mono (s1.trans s2)) _ ⟨?_, ?_, ?_, ?_⟩
    · exact fun B3 H3 σ3 e3 c3 s3 R3 ⟨m', hm, w3⟩ => ⟨B3, e3, c3, m', (s1.trans s2).trans s3, R3, hm, w3⟩
    · exact fun v B3 H3 sl c3 s3 R3 V3 q => o.rt v B3 H3 sl c3 ((s1.trans s2).trans s3) R3 V3 q
    · exact fun B3 H3 σ3 e3 c3 s3 R3 q => o.nx B3 H3 σ3 e3 c3 ((s1.trans s2).trans s3) R3 q
    · exact fun B3 H3 σ3 e3 c3 s3 R3 ⟨m', hm, w3⟩ => ⟨B3, e3, c3, m', (s1.trans s2).trans s3, R3, hm, w3⟩
  | false =>
    rw [if_neg Bool.false_ne_true]
    exact o.nx B2 H2 σ1 e1 c2 (s1.trans s2) R2 (hf rfl)
/-! #### what is walked -/
/-- what a turn gives: a value, or a new tuple of values -/
inductive Itm where
  | one (x : Sl) | tup (xs : List Sl)
def IOk (K : PySem.W.Frag) (B : Hp) (v : V) : Itm → Prop
  | .one x => VOk K B v x
  | .tup xs => ∃ T vs, v = .ref T ∧ SqT K B T vs ∧ VOks K B vs xs
def RGm (K : PySem.W.Frag) (E : XK) (QX : XQ) (tg : TG) (x : Itm) (e : List Sl) (c : Ce) (Q : List Sl → Ce → Prop) : Prop := ∀ B H σ v, Rep K B H e c σ → EX K B E QX → IOk K B v x → ∀ Qr : L2.St → Hp → Prop,
  (∀ B' H' σ' e' c', Same B B' → Rep K B' H' e' c' σ' → Q e' c' → Qr σ' H') → tg v σ H Qr
theorem rgm_one {g : TG} {Q : List Sl → Ce → Prop} (h : RG K E QX g x e c Q) : RGm K E QX g (.one x) e c Q := h
theorem rgm_name {Q : List Sl → Ce → Prop} (q : Q (e.set i x) c) : RGm K E QX (gName i) (.one x) e c Q := rg_name q
theorem rgm_tup {Q : List Sl → Ce → Prop} {gs : TGs} {xs : List Sl} {n : Nat} (hl : xs.length = n) (h : RGs K E QX gs xs e c Q) : RGm K E QX (gTup K n gs) (.tup xs) e c Q := fun B H σ v R X V1 Qr k => by
  obtain ⟨T, vs, rfl, h1, h2⟩ := V1
  refine ⟨_, _, rfl, sqt_same R.c.bh h1, ?_, h B H σ _ R X h2 Qr k⟩
  rw [paired_len h2, hl]
/-- at turn i: nothing known; the end; an item -/
abbrev Wk := Nat → Ce → Option (Option Itm)
structure ItRel (K : PySem.W.Frag) (B : Hp) (J : It) (f : Wk) : Prop where
  item : ∀ i B' H c m, Same B B' → RepC K B' H c → f i c = some (some m) → J.go i H ∧ ∀ x H', J.yld i H x H' → ∃ B'', Same B' B'' ∧ RepC K B'' H' c ∧ IOk K B'' x m
  stop : ∀ i B' H c, Same B B' → RepC K B' H c → f i c = some none → J.stop i H
theorem ItRel.mono {B B' : Hp} {J : It} {f : Wk} (s : Same B B') (h : ItRel K B J f) : ItRel K B' J f := ⟨fun i B1 H c m s1 => h.item i B1 H c m (s.trans s1), fun i B1 H c s1 => h.stop i B1 H c (s.trans s1)⟩
def RI (K : PySem.W.Frag) (E : XK) (QX : XQ) (wi : TI) (e : List Sl) (c : Ce) (Q : Wk → Ce → Prop) : Prop := ∀ B H σ, Rep K B H e c σ → EX K B E QX → ∀ Qr : It → Hp → Prop,
  (∀ J B' H' f c', Same B B' → Rep K B' H' e c' σ → ItRel K B' J f → Q f c' → Qr J H') → wi σ H Qr
theorem rs_for {wi : TI} {g : TG} (h : RI K E QX wi e c fun f c1 => ∃ (Iv : Nat → List Sl → Ce → Prop) (n : Nat), Iv 0 e c1 ∧ ∀ i e c, Iv i e c → (f i c = some none ∧ k.nx e c) ∨
    (∃ m, f i c = some (some m) ∧ i < n ∧ RGm K E QX g m e c fun e2 c2 => RS K E QX t e2 c2 { k with nx := Iv (i + 1), ct := Iv (i + 1), bk := k.nx })) : RS K E QX (tFor wi g t) e c k := fun B H σ R X D o =>
  h B H σ R X _ fun J B1 H1 f c1 s1 R1 hJ ⟨Iv, n, h0, hs⟩ => by
    refine ⟨fun i m σ H => m = n - i ∧ ∃ B2 e2 c2, Same B1 B2 ∧ Rep K B2 H e2 c2 σ ∧ Iv i e2 c2, ⟨n - 0, rfl, B1, e, c1, Same.refl _, R1, h0⟩, ?_⟩
    rintro i m σ2 H2 ⟨rfl, B2, e2, c2, s2, R2, w2⟩
    rcases hs i e2 c2 w2 with ⟨hf, q⟩ | ⟨sl, hf, hn, hg⟩
    · exact .inl ⟨hJ.stop i B2 H2 c2 s2 R2.c hf, o.nx B2 H2 σ2 e2 c2 (s1.trans s2) R2 q⟩
    · obtain ⟨go, hy⟩ := hJ.item i B2 H2 c2 sl s2 R2.c hf
      refine .inr ⟨go, fun σ H => ∃ B3 e3 c3, Same B1 B3 ∧ Rep K B3 H e3 c3 σ ∧ Iv (i + 1) e3 c3, fun σ H ⟨B3, e3, c3, s3, R3, w3⟩ => ⟨n - (i + 1), by omega, rfl, B3, e3, c3, s3, R3, w3⟩, fun x H3 hx => ?_⟩
      obtain ⟨B3, s3, R3, V3⟩ := hy x H3 hx
      refine hg B3 H3 σ2 x (R2.to s3 R3) (X.mono ((s1.trans s2).trans s3)) V3 _ fun B4 H4 σ4 e4 c4 s4 R4 hb => ?_
      have sA : Same B B4 := ((s1.trans s2).trans s3).trans s4
      refine hb B4 H4 σ4 R4 (X.mono sA) _ ⟨?_, ?_, ?_, ?_⟩
      · exact fun B5 H5 σ5 e5 c5 s5 R5 q => ⟨B5, e5, c5, ((s2.trans s3).trans s4).trans s5, R5, q⟩
      · exact fun v B5 H5 sl c5 s5 R5 V5 q => o.rt v B5 H5 sl c5 (sA.trans s5) R5 V5 q
      · exact fun B5 H5 σ5 e5 c5 s5 R5 q => o.nx B5 H5 σ5 e5 c5 (sA.trans s5) R5 q
      · exact fun B5 H5 σ5 e5 c5 s5 R5 q => ⟨B5, e5, c5, ((s2.trans s3).trans s4).trans s5, R5, q⟩
/-- where the items are known ahead -/
theorem rs_forX {wi : TI} {g : TG} (h : RI K E QX wi e c fun f c1 => ∃ (xs : List Itm) (Iv : Nat → List Sl → Ce → Prop), Iv 0 e c1 ∧ (∀ i e c, i ≤ xs.length → Iv i e c → f i c = some xs[i]?) ∧
    (∀ i e c m, xs[i]? = some m → Iv i e c → RGm K E QX g m e c fun e2 c2 => RS K E QX t e2 c2 { k with nx := Iv (i + 1), ct := Iv (i + 1), bk := k.nx }) ∧ (∀ e c, Iv xs.length e c → k.nx e c)) : RS K E QX (tFor wi g t) e c k :=
  rs_for fun B H σ R X Qr kk => h B H σ R X Qr fun J B1 H1 f c1 s1 R1 hJ ⟨xs, Iv, h0, hf, hs, hd⟩ => kk J B1 H1 f c1 s1 R1 hJ
    ⟨fun i e c => i ≤ xs.length ∧ Iv i e c, xs.length, ⟨Nat.zero_le _, h0⟩, fun i e2 c2 ⟨hi, w⟩ => by
      rw [hf i e2 c2 hi w]
      cases q : xs[i]? with
      | none =>
        have : i = xs.length := by have := List.getElem?_eq_none_iff.mp q; omega
        subst this
        exact .inl ⟨rfl, hd e2 c2 w⟩
      | some sl =>
        have hl : i < xs.length := (List.getElem?_eq_some_iff.mp q).1
        refine .inr ⟨sl, rfl, hl, ?_⟩
        intro B H σ v R X V Qr k2
        refine hs i e2 c2 sl q w B H σ v R X V Qr fun B' H' σ' e' c' s' R' q' => k2 B' H' σ' e' c' s' R' ?_
        intro B3 H3 σ3 R3 X3 D3 o3
        exact q' B3 H3 σ3 R3 X3 D3 ⟨fun B4 H4 σ4 e4 c4 s4 R4 q4 => o3.nx B4 H4 σ4 e4 c4 s4 R4 ⟨by omega, q4⟩, o3.rt, o3.bk, fun B4 H4 σ4 e4 c4 s4 R4 q4 => o3.ct B4 H4 σ4 e4 c4 s4 R4 ⟨by omega, q4⟩⟩⟩
/-! #### the sources -/
def lsrc (sl : Sl) (c : Ce) : Option (List Sl) := match sl with
  | .d (.list ds) => some (ds.map Sl.d)
  | .o a => match c a with
    | some (.lst xs) => some xs
    | _ => none
  | .s ns => some (ns.map fun n => Sl.d (.int n))
  | _ => none
def tsrc (sl : Sl) (c : Ce) : Option (List Sl) := match sl with
  | .d (.tuple ds) => some (ds.map Sl.d)
  | .o a => match c a with
    | some (.tup xs) => some xs
    | _ => none
  | _ => none
theorem lsrc_d {ds : List PyData} : lsrc (.d (.list ds)) c = some (ds.map Sl.d) := rfl
theorem lsrc_o {a : Addr} {xs : List Sl} (h : c a = some (.lst xs)) : lsrc (.o a) c = some xs := by
  show (match c a with | some (.lst xs) => some xs | _ => none) = some xs
  rw [h]
theorem tsrc_d {ds : List PyData} : tsrc (.d (.tuple ds)) c = some (ds.map Sl.d) := rfl
theorem tsrc_o {a : Addr} {xs : List Sl} (h : c a = some (.tup xs)) : tsrc (.o a) c = some xs := by
  show (match c a with | some (.tup xs) => some xs | _ => none) = some xs
  rw [h]
theorem ints_ok {B : Hp} : ∀ ns : List Int, VOks K B (ns.map V.int) (ns.map fun n => Sl.d (.int n))
  | [] => .nil
  | n :: ns => .cons (Td.int n) (ints_ok ns)
theorem lsrc_ok {B H : Hp} {v : V} {xs : List Sl} (R : RepC K B H c) (V1 : VOk K B v sl) (h : lsrc sl c = some xs) : ∃ a vs, v = .ref a ∧ SqL K H a vs ∧ VOks K B vs xs := by
  unfold lsrc at h
  split at h
  · cases h
    cases V1 with
    | lst h1 h2 => exact ⟨_, _, rfl, SqL.of (R.bh _ _ h1), VOks.ofData h2⟩
  · rename_i a
    split at h
    · rename_i ys hc
      cases h
      cases V1
      obtain ⟨_, vs, h1, h2⟩ := R.ce a _ hc
      exact ⟨a, vs, rfl, SqL.of h1, h2⟩
    · cases h
  · cases h
    obtain ⟨a, ea, h2⟩ := V1
    refine ⟨a, _, ea, R.bh.seq h2, ?_⟩
    exact ints_ok _
  · cases h
theorem tsrc_ok {B H : Hp} {v : V} {xs : List Sl} (R : RepC K B H c) (V1 : VOk K B v sl) (h : tsrc sl c = some xs) : ∃ a vs, v = .ref a ∧ SqT K H a vs ∧ VOks K B vs xs := by
  unfold tsrc at h
  split at h
  · cases h
    cases V1 with
    | tup h1 h2 => exact ⟨_, _, rfl, SqT.of (R.bh _ _ h1), VOks.ofData h2⟩
  · rename_i a
    split at h
    · rename_i ys hc
      cases h
      cases V1
      obtain ⟨_, vs, h1, h2⟩ := R.ce a _ hc
      exact ⟨a, vs, rfl, SqT.of h1, h2⟩
    · cases h
  · cases h
def wL (sl : Sl) : Wk := fun i c => (lsrc sl c).map fun xs => xs[i]?.map Itm.one
def wT (sl : Sl) : Wk := fun i c => (tsrc sl c).map fun xs => xs[i]?.map Itm.one
def wE (sl : Sl) : Wk := fun i c => (lsrc sl c).map fun xs => xs[i]?.map fun x => Itm.tup [.d (.int (i : Nat)), x]
def wZ (sl sm : Sl) : Wk := fun i c => match lsrc sl c, lsrc sm c with
  | some xs, some ys => some (match xs[i]?, ys[i]? with | some x, some y => some (Itm.tup [x, y]) | _, _ => none)
  | _, _ => none
def wR (lo : Int) (n : Nat) : Wk := fun i _ => some (if i < n then some (Itm.one (.d (.int (lo + (i : Nat))))) else none)
theorem itrel_l {B : Hp} {a : Addr} (V1 : VOk K B (.ref a) sl) : ItRel K B (Itl K a) (wL sl) where
  item := fun i B' H c m s R h => by
    unfold wL at h
    cases q : lsrc sl c with
    | none => rw [q] at h; cases h
    | some xs =>
      rw [q] at h
      obtain ⟨a', vs, ea, hs, hv⟩ := lsrc_ok R (V1.mono s) q
      cases ea
      cases z : xs[i]? with
      | none =>
        have h : some (xs[i]?.map Itm.one) = some (some m) := h
        rw [z] at h; cases h
      | some x =>
        have h : some (xs[i]?.map Itm.one) = some (some m) := h
        rw [z] at h; cases h
        obtain ⟨v, hv1, hv2⟩ := paired_get hv z
        exact ⟨⟨vs, v, hs, hv1⟩, fun y H' ⟨e1, e2⟩ => by
          subst e1
          have := e2 vs hs
          rw [hv1] at this; cases this
          exact ⟨B', Same.refl _, R, hv2⟩⟩
  stop := fun i B' H c s R h => by
    unfold wL at h
    cases q : lsrc sl c with
    | none => rw [q] at h; cases h
    | some xs =>
      rw [q] at h
      obtain ⟨a', vs, ea, hs, hv⟩ := lsrc_ok R (V1.mono s) q
      cases ea
      have h : some (xs[i]?.map Itm.one) = some none := h
      cases z : xs[i]? with
      | none => exact ⟨vs, hs, by rw [paired_len hv]; exact List.getElem?_eq_none_iff.mp z⟩
      | some x => rw [z] at h; cases h
theorem itrel_t {B : Hp} {a : Addr} (V1 : VOk K B (.ref a) sl) : ItRel K B (Itt K a) (wT sl) where
  item := fun i B' H c m s R h => by
    unfold wT at h
    cases q : tsrc sl c with
    | none => rw [q] at h; cases h
    | some xs =>
      rw [q] at h
      obtain ⟨a', vs, ea, hs, hv⟩ := tsrc_ok R (V1.mono s) q
      cases ea
      have h : some (xs[i]?.map Itm.one) = some (some m) := h
      cases z : xs[i]? with
      | none => rw [z] at h; cases h
      | some x =>
        rw [z] at h; cases h
        obtain ⟨v, hv1, hv2⟩ := paired_get hv z
        exact ⟨⟨vs, v, hs, hv1⟩, fun y H' ⟨e1, e2⟩ => by
          subst e1
          have := e2 vs hs
          rw [hv1] at this; cases this
          exact ⟨B', Same.refl _, R, hv2⟩⟩
  stop := fun i B' H c s R h => by
    unfold wT at h
    cases q : tsrc sl c with
    | none => rw [q] at h; cases h
    | some xs =>
      rw [q] at h
      obtain ⟨a', vs, ea, hs, hv⟩ := tsrc_ok R (V1.mono s) q
      cases ea
      have h : some (xs[i]?.map Itm.one) = some none := h
      cases z : xs[i]? with
      | none => exact ⟨vs, hs, by rw [paired_len hv]; exact List.getElem?_eq_none_iff.mp z⟩
      | some x => rw [z] at h; cases h
/-- a new tuple laid under what stands for ever -/
theorem RepC.tupAt {B H : Hp} {T : Addr} {vs : List V} (R : RepC K B H c) (hT : H T = none) : RepC K (upd B T (.tup vs)) (upd H T (.tup vs)) c ∧ Same B (upd B T (.tup vs)) := ⟨R.frz hT _, same_upd (R.fresh hT).1⟩
theorem itrel_e {B : Hp} {a : Addr} (V1 : VOk K B (.ref a) sl) : ItRel K B (Ite K a) (wE sl) where
  item := fun i B' H c m s R h => by
    unfold wE at h
    cases q : lsrc sl c with
    | none => rw [q] at h; cases h
    | some xs =>
      rw [q] at h
      obtain ⟨a', vs, ea, hs, hv⟩ := lsrc_ok R (V1.mono s) q
      cases ea
      have h : some (xs[i]?.map fun x => Itm.tup [.d (.int (i : Nat)), x]) = some (some m) := h
      cases z : xs[i]? with
      | none => rw [z] at h; cases h
      | some x =>
        rw [z] at h; cases h
        obtain ⟨v, hv1, hv2⟩ := paired_get hv z
        exact ⟨⟨vs, v, hs, hv1⟩, fun y H' ⟨T, w, e1, hT, e2, e3⟩ => by
          subst e1 e2
          have := e3 vs hs
          rw [hv1] at this; cases this
          obtain ⟨R2, s2⟩ := R.tupAt (vs := [.int (i : Nat), v]) hT
          exact ⟨_, s2, R2, T, _, rfl, SqT.of upd_same, .cons (Td.int _) (.cons (hv2.mono s2) .nil)⟩⟩
  stop := fun i B' H c s R h => by
    unfold wE at h
    cases q : lsrc sl c with
    | none => rw [q] at h; cases h
    | some xs =>
      rw [q] at h
      obtain ⟨a', vs, ea, hs, hv⟩ := lsrc_ok R (V1.mono s) q
      cases ea
      have h : some (xs[i]?.map fun x => Itm.tup [.d (.int (i : Nat)), x]) = some none := h
      cases z : xs[i]? with
      | none => exact ⟨vs, hs, by rw [paired_len hv]; exact List.getElem?_eq_none_iff.mp z⟩
      | some x => rw [z] at h; cases h
theorem itrel_z {B : Hp} {a b : Addr} {sm : Sl} (V1 : VOk K B (.ref a) sl) (V2 : VOk K B (.ref b) sm) : ItRel K B (Itz K a b) (wZ sl sm) where
  item := fun i B' H c m s R h => by
    unfold wZ at h
    cases q : lsrc sl c with
    | none => rw [q] at h; cases h
    | some xs =>
      cases p : lsrc sm c with
      | none => rw [q, p] at h; cases h
      | some ys =>
        rw [q, p] at h
        obtain ⟨a', vs, ea, hs, hv⟩ := lsrc_ok R (V1.mono s) q
        cases ea
        obtain ⟨b', ws, eb, ht, hw⟩ := lsrc_ok R (V2.mono s) p
        cases eb
        cases z : xs[i]? with
        | none =>
          have h : some (match xs[i]?, ys[i]? with | some x, some y => some (Itm.tup [x, y]) | _, _ => none) = some (some m) := h
          rw [z] at h; cases h
        | some x =>
          cases z2 : ys[i]? with
          | none =>
            have h : some (match xs[i]?, ys[i]? with | some x, some y => some (Itm.tup [x, y]) | _, _ => none) = some (some m) := h
            rw [z, z2] at h; cases h
          | some y =>
            have h : some (match xs[i]?, ys[i]? with | some x, some y => some (Itm.tup [x, y]) | _, _ => none) = some (some m) := h
            rw [z, z2] at h; cases h
            obtain ⟨v, hv1, hv2⟩ := paired_get hv z
            obtain ⟨w, hw1, hw2⟩ := paired_get hw z2
            exact ⟨⟨vs, ws, v, w, hs, ht, hv1, hw1⟩, fun y' H' ⟨T, v', w', e1, hT, e2, e3, e4⟩ => by
              subst e1 e2
              have k1 := e3 vs hs
              rw [hv1] at k1; cases k1
              have k2 := e4 ws ht
              rw [hw1] at k2; cases k2
              obtain ⟨R2, s2⟩ := R.tupAt (vs := [v, w]) hT
              exact ⟨_, s2, R2, T, _, rfl, SqT.of upd_same, .cons (hv2.mono s2) (.cons (hw2.mono s2) .nil)⟩⟩
  stop := fun i B' H c s R h => by
    unfold wZ at h
    cases q : lsrc sl c with
    | none => rw [q] at h; cases h
    | some xs =>
      cases p : lsrc sm c with
      | none => rw [q, p] at h; cases h
      | some ys =>
        rw [q, p] at h
        obtain ⟨a', vs, ea, hs, hv⟩ := lsrc_ok R (V1.mono s) q
        cases ea
        obtain ⟨b', ws, eb, ht, hw⟩ := lsrc_ok R (V2.mono s) p
        cases eb
        have h : some (match xs[i]?, ys[i]? with | some x, some y => some (Itm.tup [x, y]) | _, _ => none) = some none := h
        refine ⟨vs, ws, hs, ht, ?_⟩
        cases z : xs[i]? with
        | none => exact .inl (by rw [paired_len hv]; exact List.getElem?_eq_none_iff.mp z)
        | some x =>
          cases z2 : ys[i]? with
          | none => exact .inr (by rw [paired_len hw]; exact List.getElem?_eq_none_iff.mp z2)
          | some y => rw [z, z2] at h; cases h
theorem itrel_r {B : Hp} {lo : Int} {n : Nat} : ItRel K B (Itr lo n) (wR lo n) where
  item := fun i B' H c m s R h => by
    have h : some (if i < n then some (Itm.one (.d (.int (lo + (i : Nat))))) else none) = some (some m) := h
    by_cases q : i < n
    · rw [if_pos q] at h
      cases h
      exact ⟨q, fun x H' ⟨e1, e2⟩ => by
        subst e1 e2
        exact ⟨B', Same.refl _, R, Td.int _⟩⟩
    · rw [if_neg q] at h; cases h
  stop := fun i B' H c s R h => by
    have h : some (if i < n then some (Itm.one (.d (.int (lo + (i : Nat))))) else none) = some none := h
    by_cases q : i < n
    · rw [if_pos q] at h; cases h
    · exact Nat.le_of_not_lt q
theorem ri_list {tl : TE} {Q : Wk → Ce → Prop} (h : RE K E QX tl e c fun x c1 => (∃ xs, lsrc x c1 = some xs) ∧ Q (wL x) c1) : RI K E QX (iList K tl) e c Q := fun B H σ R X Qr k =>
  h B H σ R X _ fun v B1 H1 x c1 s1 R1 V1 ⟨⟨xs, hx⟩, q⟩ => by
    obtain ⟨a, vs, rfl, hs, _⟩ := lsrc_ok R1.c V1 hx
    exact ⟨a, rfl, ⟨vs, hs⟩, k _ B1 H1 _ c1 s1 R1 (itrel_l V1) q⟩
theorem ri_tup {tl : TE} {Q : Wk → Ce → Prop} (h : RE K E QX tl e c fun x c1 => (∃ xs, tsrc x c1 = some xs) ∧ Q (wT x) c1) : RI K E QX (iTup K tl) e c Q := fun B H σ R X Qr k =>
  h B H σ R X _ fun v B1 H1 x c1 s1 R1 V1 ⟨⟨xs, hx⟩, q⟩ => by
    obtain ⟨a, vs, rfl, hs, _⟩ := tsrc_ok R1.c V1 hx
    exact ⟨a, rfl, ⟨vs, hs⟩, k _ B1 H1 _ c1 s1 R1 (itrel_t V1) q⟩
theorem ri_enum {tl : TE} {Q : Wk → Ce → Prop} (h : RE K E QX tl e c fun x c1 => (∃ xs, lsrc x c1 = some xs) ∧ Q (wE x) c1) : RI K E QX (iEnum K (tCons tl tNil)) e c Q := fun B H σ R X Qr k =>
  h B H σ R X _ fun v B1 H1 x c1 s1 R1 V1 ⟨⟨xs, hx⟩, q⟩ => by
    obtain ⟨a, vs, rfl, hs, _⟩ := lsrc_ok R1.c V1 hx
    exact ⟨a, vs, rfl, hs, k _ B1 H1 _ c1 s1 R1 (itrel_e V1) q⟩
theorem ri_zip {tl tm : TE} {Q : Wk → Ce → Prop} (h : RE K E QX tl e c fun x c1 => RE K E QX tm e c1 fun y c2 => (∃ xs, lsrc x c2 = some xs) ∧ (∃ ys, lsrc y c2 = some ys) ∧ Q (wZ x y) c2) : RI K E QX (iZip K (tCons tl (tCons tm tNil))) e c Q := fun B H σ R X Qr k =>
  h B H σ R X _ fun v B1 H1 x c1 s1 R1 V1 h1 => h1 B1 H1 σ R1 (X.mono s1) _ fun w B2 H2 y c2 s2 R2 V2 ⟨⟨xs, hx⟩, ⟨ys, hy⟩, q⟩ => by
    obtain ⟨a, vs, rfl, hs, _⟩ := lsrc_ok R2.c (V1.mono s2) hx
    obtain ⟨b, ws, rfl, ht, _⟩ := lsrc_ok R2.c V2 hy
    exact ⟨a, b, vs, ws, rfl, hs, ht, k _ B2 H2 _ c2 (s1.trans s2) R2 (itrel_z (V1.mono s2) V2) q⟩
theorem ri_rng1 {tn : TE} {Q : Wk → Ce → Prop} (h : RE K E QX tn e c fun x c1 => ∃ n : Int, x = .d (.int n) ∧ -(2 ^ 62) ≤ n ∧ n < 2 ^ 62 ∧ Q (wR 0 n.toNat) c1) : RI K E QX (iRng1 (tCons tn tNil)) e c Q := fun B H σ R X Qr k =>
  h B H σ R X _ fun v B1 H1 x c1 s1 R1 V1 ⟨n, hx, h1, h2, q⟩ => by
    subst hx
    cases V1
    exact ⟨n, rfl, h1, h2, k _ B1 H1 _ c1 s1 R1 itrel_r q⟩
theorem ri_rng2 {tn tm : TE} {Q : Wk → Ce → Prop} (h : RE K E QX tn e c fun x c1 => RE K E QX tm e c1 fun y c2 => ∃ m n : Int, x = .d (.int m) ∧ y = .d (.int n) ∧ (-(2 ^ 62) ≤ m ∧ m < 2 ^ 62 ∧ -(2 ^ 62) ≤ n ∧ n < 2 ^ 62) ∧ Q (wR m (n - m).toNat) c2) : RI K E QX (iRng2 (tCons tn (tCons tm tNil))) e c Q := fun B H σ R X Qr k =>
  h B H σ R X _ fun v B1 H1 x c1 s1 R1 V1 h1 => h1 B1 H1 σ R1 (X.mono s1) _ fun w B2 H2 y c2 s2 R2 V2 ⟨m, n, hx, hy, hb, q⟩ => by
    subst hx hy
    cases V1
    cases V2
    exact ⟨m, n, rfl, hb, k _ B2 H2 _ c2 (s1.trans s2) R2 itrel_r q⟩
end
end Sy
/-! Sy2: comprehensions, defs, instances, errors; what operators and built-ins do at values. -/
namespace Sy
open PySem L2

/-! ### comprehensions -/
abbrev E0 : XK := L2.E0
def X0 : XQ := fun _ _ => False
def wipeS (e : List Sl) : List Nat → List Sl
  | [] => e
  | v :: vs => (wipeS e vs).set v .un
section
variable {K : PySem.W.Frag} {E : XK} {QX : XQ} {te ta tb tc : TE} {tt : TT} {e e' : List Sl} {c c' : Ce} {i j : Nat} {sl x : Sl} {vs : List Nat}
theorem ex0 {B : Hp} : EX K B E0 X0 := fun _ _ _ _ _ _ _ h => h.elim
theorem soks_wipe {B : Hp} {σ : L2.St} : ∀ {vs : List Nat}, SOks K B σ e → SOks K B (wipe σ vs) (wipeS e vs)
  | [], h => h
  | v :: vs, h => paired_set (.inl rfl) v (soks_wipe h)
theorem wipe_at (σ : L2.St) : ∀ (vs : List Nat) (k : Nat), (wipe σ vs)[k]? = if k ∈ vs then (if k < σ.length then some none else none) else σ[k]?
  | [], k => by simp [wipe]
  | v :: vs, k => by
    unfold wipe
    rw [List.getElem?_set, wipe_at σ vs k, wipe_length]
    by_cases h : v = k
    · subst h; simp
    · have h' : ¬ k = v := fun z => h z.symm
      simp [h, h']
theorem wipe_set {σ : L2.St} {i : Nat} {x : Option V} (h : i ∈ vs) : wipe (σ.set i x) vs = wipe σ vs := by
  apply List.ext_getElem?
  intro k
  rw [wipe_at, wipe_at, List.length_set]
  by_cases hk : k ∈ vs
  · rw [if_pos hk, if_pos hk]
  · rw [if_neg hk, if_neg hk, List.getElem?_set_ne]
    intro z; subst z; exact hk h
theorem wipe_wipe {σ : L2.St} : wipe (wipe σ vs) vs = wipe σ vs := by
  apply List.ext_getElem?
  intro k
  simp only [wipe_at, wipe_length]
  by_cases hk : k ∈ vs
  · simp only [if_pos hk]
  · rw [if_neg hk, if_neg hk]
/-- a comprehension's target: it stores its own names alone -/
def RGW (K : PySem.W.Frag) (vs : List Nat) (tg : TG) (x : Itm) (e : List Sl) (c : Ce) (Q : List Sl → Ce → Prop) : Prop := ∀ B H σ v, Rep K B H e c σ → IOk K B v x → ∀ Qr : L2.St → Hp → Prop,
  (∀ B' H' σ' e' c', Same B B' → Rep K B' H' e' c' σ' → wipe σ' vs = wipe σ vs → Q e' c' → Qr σ' H') → tg v σ H Qr
def RGWs (K : PySem.W.Frag) (vs : List Nat) (tg : TGs) (xs : List Sl) (e : List Sl) (c : Ce) (Q : List Sl → Ce → Prop) : Prop := ∀ B H σ us, Rep K B H e c σ → VOks K B us xs → ∀ Qr : L2.St → Hp → Prop,
  (∀ B' H' σ' e' c', Same B B' → Rep K B' H' e' c' σ' → wipe σ' vs = wipe σ vs → Q e' c' → Qr σ' H') → tg us σ H Qr
theorem rgw_name {Q : List Sl → Ce → Prop} (hi : i ∈ vs) (q : Q (e.set i x) c) : RGW K vs (gName i) (.one x) e c Q := fun B H σ v R V1 Qr k =>
  k B H _ _ c (Same.refl _) (R.setSlot V1 i) (wipe_set hi) q
theorem rgws_nil {Q : List Sl → Ce → Prop} (q : Q e c) : RGWs K vs gNil [] e c Q := fun B H σ us R V1 Qr k => by
  cases V1
  exact ⟨rfl, k B H σ e c (Same.refl _) R rfl q⟩
theorem rgws_name {Q : List Sl → Ce → Prop} {gs : TGs} {xs : List Sl} (hi : i ∈ vs) (h : RGWs K vs gs xs (e.set i x) c Q) : RGWs K vs (gCons (gName i) gs) (x :: xs) e c Q := fun B H σ us R V1 Qr k => by
  cases V1 with
  | cons v1 V2 =>
    exact ⟨_, _, rfl, h B H _ _ (R.setSlot v1 i) V2 Qr fun B2 H2 σ2 e2 c2 s2 R2 hw q => k B2 H2 σ2 e2 c2 s2 R2 (hw.trans (wipe_set hi)) q⟩
theorem rgw_tup {Q : List Sl → Ce → Prop} {gs : TGs} {xs : List Sl} {n : Nat} (hl : xs.length = n) (h : RGWs K vs gs xs e c Q) : RGW K vs (gTup K n gs) (.tup xs) e c Q := fun B H σ v R V1 Qr k => by
  obtain ⟨T, us, rfl, h1, h2⟩ := V1
  refine ⟨_, _, rfl, sqt_same R.c.bh h1, ?_, h B H σ _ R h2 Qr k⟩
  rw [paired_len h2, hl]
theorem rgw_tupD {Q : List Sl → Ce → Prop} {gs : TGs} {ds : List PyData} {n : Nat} (hl : ds.length = n) (h : RGWs K vs gs (ds.map Sl.d) e c Q) : RGW K vs (gTup K n gs) (.one (.d (.tuple ds))) e c Q := fun B H σ v R V1 Qr k => by
  cases V1 with
  | tup h1 h2 =>
    have V2 := VOks.ofData (K := K) h2
    refine ⟨_, _, rfl, SqT.of (R.c.bh _ _ h1), ?_, h B H σ _ R V2 Qr k⟩
    rw [paired_len V2, List.length_map, hl]
theorem RepC.drop {B H : Hp} (R : RepC K B H c) (a : Addr) : RepC K B H (cd c a) := ⟨R.bh, fun b x z => by
  by_cases y : b = a
  · subst y; rw [cd_same] at z; cases z
  · rw [cd_ne y] at z; exact R.ce b x z⟩
theorem cd_cu {a : Addr} {x : Cell} (h : c a = none) : cd (cu c a x) a = c := by
  funext b
  by_cases y : b = a
  · subst y; rw [cd_same, h]
  · rw [cd_ne y, cu_ne y]
theorem cu_cu {a : Addr} {x y : Cell} : cu (cu c a x) a y = cu c a y := by
  funext b
  by_cases z : b = a
  · subst z; rw [cu_same, cu_same]
  · rw [cu_ne z, cu_ne z, cu_ne z]
/-- [te for g in wi if tt], the list made so far an own object at D -/
theorem rn_lc {wi : TI} {g : TG} {Q : List Sl → Ce → Prop} (h : RI K E QX wi e c fun f c1 => ∀ D, c1 D = none → ∃ (Iv : Nat → List Sl → Ce → Prop) (n : Nat), Iv 0 [] (cu c1 D (.lst [])) ∧
    ∀ i acc c, Iv i acc c → c D = some (.lst acc) ∧ ((f i c = some none ∧ Q acc (cd c D)) ∨ ∃ m, f i c = some (some m) ∧ i < n ∧ RGW K vs g m (wipeS e vs) c fun e2 c2 =>
      RT K E0 X0 tt e2 c2 fun b c3 => (b = true → RE K E0 X0 te e2 c3 fun y c4 => ∃ acc', c4 D = some (.lst acc') ∧ acc'.length < 100000 ∧ Iv (i + 1) (acc' ++ [y]) (cu c4 D (.lst (acc' ++ [y])))) ∧ (b = false → Iv (i + 1) acc c3))) :
    RN K E QX (tLc wi g tt te vs) e c Q := fun B H σ R X Qr k => by
  refine h B H σ R X _ fun J B1 H1 f c1 s1 R1 hJ hh D hD => ?_
  obtain ⟨nb, nc⟩ := R1.c.fresh hD
  obtain ⟨Iv, n, i0, hs⟩ := hh D nc
  refine ⟨fun i m H => m = n - i ∧ ∃ B2 acc c2, Same B1 B2 ∧ RepC K B2 H c2 ∧ Iv i acc c2, ⟨n - 0, rfl, B1, [], _, Same.refl _, R1.c.own (x := .lst []) hD ⟨[], upd_same, .nil⟩, i0⟩, ?_⟩
  rintro i m H2 ⟨rfl, B2, acc, c2, s2, R2, w2⟩
  obtain ⟨hc2, hh2⟩ := hs i acc c2 w2
  rcases hh2 with ⟨hf, q⟩ | ⟨mm, hf, hn, hg⟩
  · obtain ⟨n1, us, g1, g2⟩ := R2.ce D _ hc2
    exact .inl ⟨hJ.stop i B2 H2 c2 s2 R2 hf, k D B2 H2 us acc _ (s1.trans s2) ⟨R2.drop D, R1.e.mono s2⟩ n1 cd_same g1 g2 q⟩
  · obtain ⟨go, hy⟩ := hJ.item i B2 H2 c2 mm s2 R2 hf
    refine .inr ⟨go, fun H => ∃ B3 acc c3, Same B1 B3 ∧ RepC K B3 H c3 ∧ Iv (i + 1) acc c3, fun H ⟨B3, a3, c3, s3, R3, w3⟩ => ⟨n - (i + 1), by omega, rfl, B3, a3, c3, s3, R3, w3⟩, fun x H3 hx => ?_⟩
    obtain ⟨B3, s3, R3, V3⟩ := hy x H3 hx
    have s13 := s2.trans s3
    refine hg B3 H3 (wipe σ vs) x ⟨R3, soks_wipe (R1.e.mono s13)⟩ V3 _ fun B4 H4 σ4 e4 c4 s4 R4 hw ht => ⟨hw.trans wipe_wipe, ?_⟩
    have s14 := s13.trans s4
    refine ht B4 H4 σ4 R4 ex0 _ fun b B5 H5 c5 s5 R5 ⟨hT, hF⟩ => ?_
    cases b with
    | false =>
      rw [if_neg Bool.false_ne_true]
      exact ⟨B5, acc, c5, s14.trans s5, R5.c, hF rfl⟩
    | true =>
      rw [if_pos rfl]
      refine hT rfl B5 H5 σ4 R5 ex0 _ fun y B6 H6 sy c6 s6 R6 V6 ⟨acc', hc6, hl, w6⟩ => ?_
      obtain ⟨n1, us, g1, g2⟩ := R6.c.ce D _ hc6
      refine ⟨us, g1, ?_, B6, _, _, (s14.trans s5).trans s6, R6.c.set (x := .lst (acc' ++ [sy])) hc6 ⟨_, upd_same, paired_append g2 (.cons V6 .nil)⟩, w6⟩
      rw [paired_len g2]
      exact Nat.lt_of_lt_of_le hl (by decide)
/-- where the items are known ahead, each item's value known ahead, nothing else touched, no test -/
theorem rn_lcM {wi : TI} {g : TG} {Q : List Sl → Ce → Prop} (h : RI K E QX wi e c fun f c1 => ∃ (ms : List Itm) (ys : List Sl), (∀ (i : Nat) (c' : Ce), (∀ a x, c1 a = some x → c' a = some x) → f i c' = some ms[i]?) ∧ ys.length = ms.length ∧ ms.length ≤ 100000 ∧
    (∀ (D : Addr) (acc : List Sl) (i : Nat) (m : Itm) (y : Sl), c1 D = none → ms[i]? = some m → ys[i]? = some y → RGW K vs g m (wipeS e vs) (cu c1 D (.lst acc)) fun e2 c2 => RE K E0 X0 te e2 c2 fun y' c4 => y' = y ∧ c4 = cu c1 D (.lst acc)) ∧ Q ys c1) :
    RN K E QX (tLc wi g tYes te vs) e c Q := rn_lc fun B H σ R X Qr k => h B H σ R X Qr fun J B1 H1 f c1 s1 R1 hJ ⟨ms, ys, hf, hl, hz, hs, q⟩ => k J B1 H1 f c1 s1 R1 hJ fun D hD => by
  refine ⟨fun i acc c => i ≤ ms.length ∧ acc = ys.take i ∧ c = cu c1 D (.lst acc), ms.length, ⟨Nat.zero_le _, rfl, rfl⟩, ?_⟩
  rintro i acc c2 ⟨hi, ha, rfl⟩
  refine ⟨cu_same, ?_⟩
  rw [hf i _ fun a x e => cu_to (ce_ne e hD) e]
  cases z : ms[i]? with
  | none =>
    have e1 : i = ms.length := by have := List.getElem?_eq_none_iff.mp z; omega
    refine .inl ⟨rfl, ?_⟩
    rw [cd_cu hD]
    have e2 : acc = ys := by rw [ha, e1, ← hl, List.take_length]
    rw [e2]; exact q
  | some m =>
    have hlt : i < ms.length := (List.getElem?_eq_some_iff.mp z).1
    obtain ⟨y, hy⟩ : ∃ y, ys[i]? = some y := ⟨ys[i], List.getElem?_eq_getElem (by omega)⟩
    refine .inr ⟨m, rfl, hlt, fun B H σ v R V Qr kk => hs D acc i m y hD z hy B H σ v R V Qr fun B' H' σ' e' c' s' R' hw hE => kk B' H' σ' e' c' s' R' hw ?_⟩
    intro B5 H5 σ5 R5 X5 Q5 k5
    refine k5 true B5 H5 c' (Same.refl _) R5 ⟨fun _ => ?_, fun z => by cases z⟩
    intro B6 H6 σ6 R6 X6 Q6 k6
    refine hE B6 H6 σ6 R6 X6 Q6 fun v7 B7 H7 y7 c7 s7 R7 V7 ⟨e1, e2⟩ => ?_
    subst e1 e2
    refine k6 v7 B7 H7 y7 _ s7 R7 V7 ⟨acc, cu_same, ?_, by omega, ?_, ?_⟩
    · rw [ha, List.length_take]; omega
    · rw [ha, List.take_add_one, hy]; rfl
    · rw [cu_cu]

/-! ### defs -/
abbrev SpS := List Sl → Ce → SK → XQ → Prop
def spOf (K : PySem.W.Frag) (n : Nat) (P : SpS) : Sp := fun vs H Q E => vs.length = n ∧ ∃ (B : Hp) (c : Ce) (xs : List Sl) (QS : SK) (QE : XQ), RepC K B H c ∧ VOks K B vs xs ∧ P xs c QS QE ∧
  (∀ v B' H' sl c', Same B B' → RepC K B' H' c' → VOk K B' v sl → QS sl c' → Q v H') ∧ EX K B E QE
def startS (N : List Str) (xs : List Sl) : List Sl := xs ++ List.replicate (N.length - xs.length) .un
theorem soks_start {B : Hp} {N : List Str} {us : List V} {xs : List Sl} (h : VOks K B us xs) : SOks K B (L2.start N us) (startS N xs) := by
  unfold L2.start startS
  refine paired_append ?_ ?_
  · induction h with
    | nil => exact .nil
    | cons r t ih => exact .cons (.inr ⟨_, rfl, r⟩) ih
  · rw [paired_len h]
    generalize N.length - xs.length = n
    induction n with
    | zero => exact .nil
    | succ n ih => exact .cons (.inl rfl) ih
section
variable {P : Program} {w : World} {mg : Str → Option Value} {base : Heap}
theorem okS {y qual : Str} {st : Stmt} {f : Addr} {fd : FuncData} {N ps : List Str} {k : Nat} {Pr : SpS} (F : Fun K y qual st f fd) (S : FnScope N ps (defScope st))
    (hbody : ∀ (cdv : Value) (A : Around) (outer : List Env) (s : Shared) (H : Hp) (E : XK), Room k (A.deeper (PyProof.Rows.envOfC qual (defScope st) s.heap.objs.size f cdv)) → ∀ (xs : List Sl) (c : Ce) (QS : SK) (QE : XQ), xs.length = ps.length → Pr xs c QS QE →
      ∃ t, PSs (cxOf (L2.CX P w) P w K mg base N qual (defScope st) f cdv A outer s H E) (defBody st) t ∧ RS K E QE t (startS N xs) c { nx := fun _ c' => QS (.d .none) c', rt := QS }) :
    FnOk P w K mg base (L2.CX P w) (k + 1) f fd ps (spOf K ps.length Pr) := by
  refine F.okX S (fun vs H Q E h => h.1) fun cdv A outer s H vs Q E hr h => ?_
  obtain ⟨hl, B, c, xs, QS, QE, R, V1, p, kv, hx⟩ := h
  obtain ⟨t, h1, h2⟩ := hbody cdv A outer s H E hr xs c QS QE (by rw [← paired_len V1, hl]) p
  refine ⟨t, h1, h2 B H _ ⟨R, soks_start V1⟩ hx _ ⟨fun B' H' σ' e' c' s' R' q => kv .non B' H' (.d .none) c' s' R'.c Td.non q, fun v B' H' sl c' s' R' V' q => kv v B' H' sl c' s' R' V' q, fun _ _ _ _ _ _ _ q => q, fun _ _ _ _ _ _ _ q => q⟩⟩
end
theorem re_call {n : Nat} {Pr : SpS} {Q : SK} {tr : TA} (h : RA K E QX tr e c fun xs c1 => xs.length = n ∧ Pr xs c1 Q QX) : RE K E QX (tCall (spOf K n Pr) [] E tr) e c Q := fun B H σ R X Qr k =>
  h B H σ R X _ fun us B1 H1 xs c1 s1 R1 V1 ⟨hl, p⟩ => by
    rw [List.append_nil]
    refine ⟨by rw [paired_len V1, hl], B1, c1, xs, Q, QX, R1.c, V1, p, fun v B' H' sl c' s' R' V' q => k v B' H' sl c' (s1.trans s') (R1.to s' R') V' q, X.mono s1⟩
/-- where what is raised is another wish's -/
theorem re_callE {n : Nat} {Pr : SpS} {Q : SK} {tr : TA} {E' : XK} (hE : ∀ B, EX K B E' QX) (h : RA K E QX tr e c fun xs c1 => xs.length = n ∧ Pr xs c1 Q QX) : RE K E QX (tCall (spOf K n Pr) [] E' tr) e c Q := fun B H σ R X Qr k =>
  h B H σ R X _ fun us B1 H1 xs c1 s1 R1 V1 ⟨hl, p⟩ => by
    rw [List.append_nil]
    refine ⟨by rw [paired_len V1, hl], B1, c1, xs, Q, QX, R1.c, V1, p, fun v B' H' sl c' s' R' V' q => k v B' H' sl c' (s1.trans s') (R1.to s' R') V' q, hE _⟩
theorem re_meth {n : Nat} {Pr : SpS} {Q : SK} {tr : TA} {C : Addr} {m : Str} (h : RE K E QX ta e c fun x c1 => ∃ a fs, x = .o a ∧ c1 a = some (.ins C fs) ∧ fs.lookup m = none ∧ RA K E QX tr e c1 fun xs c2 => xs.length + 1 = n ∧ Pr (.o a :: xs) c2 Q QX) :
    RE K E QX (tMeth C m (spOf K n Pr) [] E ta tr) e c Q := fun B H σ R X Qr k =>
  h B H σ R X _ fun v B1 H1 x c1 s1 R1 V1 ⟨a, fs, hx, hc, hn, h1⟩ => by
    subst hx
    cases V1
    obtain ⟨_, dx, gs, g1, g2⟩ := R1.c.ce a _ hc
    refine ⟨a, dx, gs, rfl, g1, foks_none g2 hn, ?_⟩
    refine h1 B1 H1 σ R1 (X.mono s1) _ fun us B2 H2 xs c2 s2 R2 V2 ⟨hl, p⟩ => ?_
    rw [List.append_nil]
    exact ⟨by rw [List.length_cons, paired_len V2, hl], B2, c2, .o a :: xs, Q, QX, R2.c, .cons rfl V2, p, fun v B' H' sl c' s' R' V' q => k v B' H' sl c' ((s1.trans s2).trans s') (R2.to s' R') V' q, X.mono (s1.trans s2)⟩
theorem RepC.made {B H : Hp} {C x dx : Addr} (R : RepC K B H c) (hx : H x = none) (hd : H dx = none) (hne : dx ≠ x) : RepC K B (upd (upd H dx (.own x)) x (.ins C dx [])) (cu c x (.ins C [])) := by
  have R1 : RepC K B (upd H dx (.own x)) c := by
    obtain ⟨nb, nc⟩ := R.fresh hd
    refine ⟨fun b u z => ?_, fun b y z => ?_⟩
    · rw [upd_ne (ne_of_none z nb)]; exact R.bh b u z
    · exact ⟨(R.ce b y z).1, (R.ce b y z).2.mono (Same.refl _) (upd_ne (ce_ne z nc)).symm⟩
  exact R1.own (x := .ins C []) (by rw [upd_ne hne.symm]; exact hx) ⟨dx, [], upd_same, .nil⟩
theorem re_make {n : Nat} {Pr : SpS} {Q : SK} {tr : TA} {C : Addr} (h : RA K E QX tr e c fun xs c1 => ∀ x, c1 x = none → xs.length + 1 = n ∧ Pr (.o x :: xs) (cu c1 x (.ins C [])) (fun sl c2 => sl = .d .none ∧ Q (.o x) c2) QX) :
    RE K E QX (tMake C (spOf K n Pr) [] E tr) e c Q := fun B H σ R X Qr k =>
  h B H σ R X _ fun us B1 H1 xs c1 s1 R1 V1 h1 => fun x dx hx hd hne => by
    obtain ⟨nb, nc⟩ := R1.c.fresh hx
    obtain ⟨hl, p⟩ := h1 x nc
    rw [List.append_nil]
    refine ⟨by rw [List.length_cons, paired_len V1, hl], B1, _, .o x :: xs, _, QX, R1.c.made hx hd hne, .cons rfl V1, p, fun v B' H' sl c' s' R' V' ⟨hsl, q⟩ => ?_, X.mono s1⟩
    subst hsl
    cases V'
    exact ⟨rfl, k _ B' H' (.o x) c' (s1.trans s') (R1.to s' R') rfl q⟩
theorem rs_raise {ts : TS} {k : KS} {cls : Value} (ht : ∀ D σ H, E cls none H → ts D σ H) (q : QX cls c) : RS K E QX ts e c k := fun B H σ R X D o => ht D σ H (X B H c cls none (Same.refl _) R.c q)

/-! ### operators at values -/
theorem r2_int {g : Int → Int → Int} {m n : Int} {Q : SK} (q : Q (.d (.int (g m n))) c) : R2 K (rI0 fun i j => .int (g i j)) (.d (.int m)) (.d (.int n)) c Q := fun B H v u R V1 V2 Qr k => by
  cases V1; cases V2
  exact ⟨m, n, rfl, rfl, k _ B H (.d (.int (g m n))) c (Same.refl _) R (Td.int _) q⟩
theorem r2_bool {g : Int → Int → Bool} {m n : Int} {Q : SK} (q : Q (.d (.bool (g m n))) c) : R2 K (rI0 fun i j => .bl (g i j)) (.d (.int m)) (.d (.int n)) c Q := fun B H v u R V1 V2 Qr k => by
  cases V1; cases V2
  exact ⟨m, n, rfl, rfl, k _ B H (.d (.bool (g m n))) c (Same.refl _) R (Td.bl _) q⟩
theorem r2_intC {C : Int → Int → Prop} {g : Int → Int → Int} {m n : Int} {Q : SK} (hc : C m n) (q : Q (.d (.int (g m n))) c) : R2 K (rI C fun i j => .int (g i j)) (.d (.int m)) (.d (.int n)) c Q := fun B H v u R V1 V2 Qr k => by
  cases V1; cases V2
  exact ⟨m, n, rfl, rfl, hc, k _ B H (.d (.int (g m n))) c (Same.refl _) R (Td.int _) q⟩
theorem r1_int {g : Int → Int} {m : Int} {Q : SK} (q : Q (.d (.int (g m))) c) : R1 K (rU fun i => .int (g i)) (.d (.int m)) c Q := fun B H v R V1 Qr k => by
  cases V1
  exact ⟨m, rfl, k _ B H (.d (.int (g m))) c (Same.refl _) R (Td.int _) q⟩
theorem r2_or1 {r r' : L2.R2} {x y : Sl} {Q : SK} (h : R2 K r x y c Q) : R2 K (fun x y H Q => r x y H Q ∨ r' x y H Q) x y c Q := fun B H v u R V1 V2 Qr k => .inl (h B H v u R V1 V2 Qr k)
theorem r2_or2 {r r' : L2.R2} {x y : Sl} {Q : SK} (h : R2 K r' x y c Q) : R2 K (fun x y H Q => r x y H Q ∨ r' x y H Q) x y c Q := fun B H v u R V1 V2 Qr k => .inr (h B H v u R V1 V2 Qr k)
theorem r2n_or1 {r r' : L2.R2} {x y : Sl} {Q : List Sl → Ce → Prop} (h : R2N K r x y c Q) : R2N K (fun x y H Q => r x y H Q ∨ r' x y H Q) x y c Q := fun B H v u R V1 V2 Qr k => .inl (h B H v u R V1 V2 Qr k)
theorem r2n_or2 {r r' : L2.R2} {x y : Sl} {Q : List Sl → Ce → Prop} (h : R2N K r' x y c Q) : R2N K (fun x y H Q => r x y H Q ∨ r' x y H Q) x y c Q := fun B H v u R V1 V2 Qr k => .inr (h B H v u R V1 V2 Qr k)
/-- a value as data, as it stands now -/
inductive SlD (c : Ce) : Sl → PyData → Prop
  | d (x : PyData) : SlD c (.d x) x
  | lst {a : Addr} {ds : List PyData} : c a = some (.lst (ds.map Sl.d)) → SlD c (.o a) (.list ds)
  | tup {a : Addr} {ds : List PyData} : c a = some (.tup (ds.map Sl.d)) → SlD c (.o a) (.tuple ds)
  | s (ns : List Int) : SlD c (.s ns) (.list (ns.map PyData.int))
theorem tda_same {B H : Hp} (s : Same B H) {us : List V} {ds : List PyData} (n : PyData.hasDictAll ds = false) (h : TdAll B us ds) : DpAll K H us ds := tda_dp _ _ n (dpa_mono s _ _ h)
theorem dpa_ints {H : Hp} : ∀ ns : List Int, DpAll K H (ns.map V.int) (ns.map PyData.int)
  | [] => .nil
  | n :: ns => .cons (.int n) (dpa_ints ns)
theorem SlD.dp {B H : Hp} {v : V} {d : PyData} (R : RepC K B H c) (V1 : VOk K B v sl) (n : d.hasDict = false) (h : SlD c sl d) : Dp K H v d := by
  cases h with
  | d x => exact td_dp _ _ n (dp_mono R.bh _ _ V1)
  | lst hc =>
    cases V1
    obtain ⟨_, us, h1, h2⟩ := R.ce _ _ hc
    exact .lst (SqL.of h1) (tda_same R.bh (by simpa only [PyData.hasDict] using n) (VOks.data h2))
  | tup hc =>
    cases V1
    obtain ⟨_, us, h1, h2⟩ := R.ce _ _ hc
    exact .tup (SqT.of h1) (tda_same R.bh (by simpa only [PyData.hasDict] using n) (VOks.data h2))
  | s ns =>
    obtain ⟨a, ea, h2⟩ := V1
    rw [ea]
    exact .lst (R.bh.seq h2) (dpa_ints ns)
theorem noDict {d : PyData} (h : SeqAt.shaped d = true) : d.hasDict = false := PyData.hasDict_of_canLay d (SeqAt.canLay_of_shaped h)
theorem r2_eq {x y : Sl} {Q : SK} {d1 d2 : PyData} (h1 : SlD c x d1) (h2 : SlD c y d2) (s1 : SeqAt.shaped d1 = true) (s2 : SeqAt.shaped d2 = true) (q : Q (.d (.bool (PyData.eqv d1 d2))) c) : R2 K (rEqD K) x y c Q := fun B H v u R V1 V2 Qr k =>
  ⟨d1, d2, h1.dp R V1 (noDict s1), h2.dp R V2 (noDict s2), s1, s2, k _ B H (.d (.bool (PyData.eqv d1 d2))) c (Same.refl _) R (Td.bl _) q⟩
theorem r2_ne {x y : Sl} {Q : SK} {d1 d2 : PyData} (h1 : SlD c x d1) (h2 : SlD c y d2) (s1 : SeqAt.shaped d1 = true) (s2 : SeqAt.shaped d2 = true) (q : Q (.d (.bool (!PyData.eqv d1 d2))) c) : R2 K (rNeD K) x y c Q := fun B H v u R V1 V2 Qr k =>
  ⟨d1, d2, h1.dp R V1 (noDict s1), h2.dp R V2 (noDict s2), s1, s2, k _ B H (.d (.bool (!PyData.eqv d1 d2))) c (Same.refl _) R (Td.bl _) q⟩
/-- an item by its place -/
theorem r2_ixL {x : Sl} {Q : SK} {xs : List Sl} {n : Int} {y : Sl} (hx : lsrc x c = some xs) (hi : atI xs n = some y) (q : Q y c) : R2 K (rIxL K) x (.d (.int n)) c Q := fun B H v u R V1 V2 Qr k => by
  cases V2
  obtain ⟨a, vs, rfl, hs, hv⟩ := lsrc_ok R V1 hx
  unfold atI at hi
  cases z : ixN xs.length n with
  | none => rw [z] at hi; cases hi
  | some j =>
    rw [z] at hi
    obtain ⟨w, h1, h2⟩ := paired_get hv (show xs[j]? = some y from hi)
    refine ⟨a, vs, n, w, rfl, rfl, hs, ?_, k w B H y c (Same.refl _) R h2 q⟩
    unfold atI
    rw [paired_len hv, z]
    exact h1
theorem r2_ixT {x : Sl} {Q : SK} {xs : List Sl} {n : Int} {y : Sl} (hx : tsrc x c = some xs) (hi : atI xs n = some y) (q : Q y c) : R2 K (rIxT K) x (.d (.int n)) c Q := fun B H v u R V1 V2 Qr k => by
  cases V2
  obtain ⟨a, vs, rfl, hs, hv⟩ := tsrc_ok R V1 hx
  unfold atI at hi
  cases z : ixN xs.length n with
  | none => rw [z] at hi; cases hi
  | some j =>
    rw [z] at hi
    obtain ⟨w, h1, h2⟩ := paired_get hv (show xs[j]? = some y from hi)
    refine ⟨a, vs, n, w, rfl, rfl, hs, ?_, k w B H y c (Same.refl _) R h2 q⟩
    unfold atI
    rw [paired_len hv, z]
    exact h1
theorem r2_ix {x y : Sl} {Q : SK} (h : R2 K (rIxL K) x y c Q ∨ R2 K (rIxT K) x y c Q) : R2 K (rIx K) x y c Q := fun B H v u R V1 V2 Qr k => by
  rcases h with h | h
  · exact .inl (h B H v u R V1 V2 Qr k)
  · exact .inr (.inl (h B H v u R V1 V2 Qr k))
/-- len -/
theorem rl_len {x : Sl} {Q : SK} {xs : List Sl} (hx : lsrc x c = some xs ∨ tsrc x c = some xs) (q : Q (.d (.int (xs.length : Nat))) c) :
    RL K (fun xs H Q => ∃ p ys, xs = [V.ref p] ∧ (SqL K H p ys ∨ SqT K H p ys) ∧ Q (.int ys.length) H) [x] c Q := fun B H us R V1 Qr k => by
  cases V1 with
  | cons v1 V2 =>
    cases V2
    rcases hx with hx | hx
    · obtain ⟨a, vs, rfl, hs, hv⟩ := lsrc_ok R v1 hx
      refine ⟨a, vs, rfl, .inl hs, ?_⟩
      rw [paired_len hv]
      exact k _ B H (.d (.int (xs.length : Nat))) c (Same.refl _) R (Td.int _) q
    · obtain ⟨a, vs, rfl, hs, hv⟩ := tsrc_ok R v1 hx
      refine ⟨a, vs, rfl, .inr hs, ?_⟩
      rw [paired_len hv]
      exact k _ B H (.d (.int (xs.length : Nat))) c (Same.refl _) R (Td.int _) q
theorem vok_int {B : Hp} {v : V} {n : Int} (h : VOk K B v (.d (.int n))) : v = .int n := by cases h; rfl
theorem vok_bl {B : Hp} {v : V} {n : Bool} (h : VOk K B v (.d (.bool n))) : v = .bl n := by cases h; rfl
theorem vok_str {B : Hp} {v : V} {n : Str} (h : VOk K B v (.d (.str n))) : v = .str n := by cases h; rfl
theorem rl_min {m n : Int} {Q : SK} (q : Q (.d (.int (if n < m then n else m))) c) : RL K (fun xs H Q => ∃ i j, xs = [V.int i, .int j] ∧ Q (.int (if j < i then j else i)) H) [.d (.int m), .d (.int n)] c Q := fun B H us R V1 Qr k => by
  cases V1 with
  | cons v1 V2 =>
    cases V2 with
    | cons v2 V3 =>
      cases V3
      cases v1; cases v2
      exact ⟨m, n, rfl, k _ B H (.d (.int _)) c (Same.refl _) R (Td.int _) q⟩
theorem rl_max {m n : Int} {Q : SK} (q : Q (.d (.int (if n > m then n else m))) c) : RL K (fun xs H Q => ∃ i j, xs = [V.int i, .int j] ∧ Q (.int (if j > i then j else i)) H) [.d (.int m), .d (.int n)] c Q := fun B H us R V1 Qr k => by
  cases V1 with
  | cons v1 V2 =>
    cases V2 with
    | cons v2 V3 =>
      cases V3
      cases v1; cases v2
      exact ⟨m, n, rfl, k _ B H (.d (.int _)) c (Same.refl _) R (Td.int _) q⟩
theorem rl_abs {m : Int} {Q : SK} (q : Q (.d (.int (if m < 0 then -m else m))) c) : RL K (fun xs H Q => ∃ i, xs = [V.int i] ∧ Q (.int (if i < 0 then -i else i)) H) [.d (.int m)] c Q := fun B H us R V1 Qr k => by
  cases V1 with
  | cons v1 V2 =>
    cases V2
    cases v1
    exact ⟨m, rfl, k _ B H (.d (.int _)) c (Same.refl _) R (Td.int _) q⟩
theorem rl_intB {b : Bool} {Q : SK} (q : Q (.d (.int (if b then 1 else 0))) c) : RL K (fun xs H Q => (∃ i, xs = [V.int i] ∧ Q (.int i) H) ∨ ∃ k, xs = [V.bl k] ∧ Q (.int (if k then 1 else 0)) H) [.d (.bool b)] c Q := fun B H us R V1 Qr k => by
  cases V1 with
  | cons v1 V2 =>
    cases V2
    cases v1
    exact .inr ⟨b, rfl, k _ B H (.d (.int _)) c (Same.refl _) R (Td.int _) q⟩
theorem tda_ints {B : Hp} : ∀ {ns : List Int} {us : List V}, TdAll B us (ns.map PyData.int) → us = ns.map V.int
  | [], _, h => by cases h; rfl
  | n :: ns, _, h => by
    cases h with
    | cons h1 h2 =>
      cases h1
      rw [tda_ints h2]
      rfl
theorem tda_bools {B : Hp} : ∀ {ns : List Bool} {us : List V}, TdAll B us (ns.map PyData.bool) → us = ns.map V.bl
  | [], _, h => by cases h; rfl
  | n :: ns, _, h => by
    cases h with
    | cons h1 h2 =>
      cases h1
      rw [tda_bools h2]
      rfl
theorem ints_of {B H : Hp} {x : Sl} {v : V} {ns : List Int} (R : RepC K B H c) (V1 : VOk K B v x) (hx : lsrc x c = some (ns.map fun n => Sl.d (.int n))) : ∃ a, v = .ref a ∧ SqL K H a (ns.map V.int) := by
  obtain ⟨a, vs, rfl, hs, hv⟩ := lsrc_ok R V1 hx
  have e : ns.map (fun n => Sl.d (.int n)) = (ns.map PyData.int).map Sl.d := by rw [List.map_map]; rfl
  rw [e] at hv
  rw [tda_ints (VOks.data hv)] at hs
  exact ⟨a, rfl, hs⟩
theorem bools_of {B H : Hp} {x : Sl} {v : V} {ns : List Bool} (R : RepC K B H c) (V1 : VOk K B v x) (hx : lsrc x c = some (ns.map fun n => Sl.d (.bool n))) : ∃ a, v = .ref a ∧ SqL K H a (ns.map V.bl) := by
  obtain ⟨a, vs, rfl, hs, hv⟩ := lsrc_ok R V1 hx
  have e : ns.map (fun n => Sl.d (.bool n)) = (ns.map PyData.bool).map Sl.d := by rw [List.map_map]; rfl
  rw [e] at hv
  rw [tda_bools (VOks.data hv)] at hs
  exact ⟨a, rfl, hs⟩
theorem rl_sum {x : Sl} {ns : List Int} {Q : SK} (hx : lsrc x c = some (ns.map fun n => Sl.d (.int n))) (q : Q (.d (.int ns.sum)) c) : RL K (rSum K) [x] c Q := fun B H us R V1 Qr k => by
  cases V1 with
  | cons v1 V2 =>
    cases V2
    obtain ⟨a, rfl, hs⟩ := ints_of R v1 hx
    exact ⟨a, ns, rfl, hs, k _ B H (.d (.int _)) c (Same.refl _) R (Td.int _) q⟩
theorem rl_all {x : Sl} {ns : List Bool} {Q : SK} (hx : lsrc x c = some (ns.map fun n => Sl.d (.bool n))) (q : Q (.d (.bool (ns.all id))) c) : RL K (rAll K) [x] c Q := fun B H us R V1 Qr k => by
  cases V1 with
  | cons v1 V2 =>
    cases V2
    obtain ⟨a, rfl, hs⟩ := bools_of R v1 hx
    exact ⟨a, ns, rfl, hs, k _ B H (.d (.bool _)) c (Same.refl _) R (Td.bl _) q⟩
theorem rl_any {x : Sl} {ns : List Bool} {Q : SK} (hx : lsrc x c = some (ns.map fun n => Sl.d (.bool n))) (q : Q (.d (.bool (ns.any id))) c) : RL K (rAny K) [x] c Q := fun B H us R V1 Qr k => by
  cases V1 with
  | cons v1 V2 =>
    cases V2
    obtain ⟨a, rfl, hs⟩ := bools_of R v1 hx
    exact ⟨a, ns, rfl, hs, k _ B H (.d (.bool _)) c (Same.refl _) R (Td.bl _) q⟩
/-- list(x) -/
theorem rln_list {x : Sl} {xs : List Sl} {Q : List Sl → Ce → Prop} (hx : lsrc x c = some xs ∨ tsrc x c = some xs) (q : Q xs c) :
    RLN K (fun xs H Q => ∃ p ys, xs = [V.ref p] ∧ (SqL K H p ys ∨ SqT K H p ys) ∧ ∀ l, H l = none → Q (.ref l) (upd H l (.lst ys))) [x] c Q := fun B H us R V1 Qr k => by
  cases V1 with
  | cons v1 V2 =>
    cases V2
    have fin : ∀ {vs : List V} (hv : VOks K B vs xs) (l : Addr), H l = none → Qr (.ref l) (upd H l (.lst vs)) := fun {vs} hv l hl => by
      obtain ⟨nb, nc⟩ := R.fresh hl
      refine k l B _ vs xs c (Same.refl _) ⟨fun b u z => ?_, fun b y z => ?_⟩ nb nc upd_same hv q
      · rw [upd_ne (ne_of_none z nb)]; exact R.bh b u z
      · exact ⟨(R.ce b y z).1, (R.ce b y z).2.mono (Same.refl _) (upd_ne (ce_ne z nc)).symm⟩
    rcases hx with hx | hx
    · obtain ⟨a, vs, rfl, hs, hv⟩ := lsrc_ok R v1 hx
      exact ⟨a, vs, rfl, .inl hs, fin hv⟩
    · obtain ⟨a, vs, rfl, hs, hv⟩ := tsrc_ok R v1 hx
      exact ⟨a, vs, rfl, .inr hs, fin hv⟩
end
end Sy
/-! Sy3: promises of defs under which no repr is under way; calls by them; the law's own call. -/
namespace Sy
open PySem L2 PyProof.Rows

/-- as the hand layer's promise of a def, at places around which no guard stands; what is raised goes by L2.CX -/
structure FnG (P : Program) (w : World) (K : PySem.W.Frag) (mg : Str → Option Value) (base : Heap) (lev : Nat) (f : Addr) (fd : FuncData) (ps : List Str) (sp : Sp) : Prop where
  ar : ∀ vs H Q E, sp vs H Q E → vs.length = ps.length
  go : ∀ (A : Around), A.guards = some [] → Room lev A → ∀ (out : List Env) (s : Shared) (H : Hp) (args : Args) (us : List Value) (vs : List V) (Q : VK) (E : XK),
    Env0 P w K mg base A out s H → BindsTo s fd args (ps.zip us) → Vals vs us → sp vs H Q E → codeAny (model P w) A (.call (.ref f) args) (CR (L2.CX P w) out P w H s Q E) s
section
variable {P : Program} {w : World} {K : PySem.W.Frag} {mg : Str → Option Value} {base : Heap} {lev : Nat}
theorem FnG.up {f : Addr} {fd : FuncData} {ps : List Str} {sp : Sp} {l' : Nat} (F : FnG P w K mg base lev f fd ps sp) (h : lev ≤ l') : FnG P w K mg base l' f fd ps sp :=
  ⟨F.ar, fun A g r => F.go A g (r.mono h)⟩
theorem fnG_of {x qual : Str} {st : Stmt} {f : Addr} {fd : FuncData} {N ps : List Str} {sp : Sp} (F : Fun K x qual st f fd) (S : FnScope N ps (defScope st)) (ar : ∀ vs H Q E, sp vs H Q E → vs.length = ps.length)
    (body : ∀ (cdv : Value) (A : Around) (out : List Env) (s : Shared) (H : Hp) (vs : List V) (Q : VK) (E : XK), A.guards = some [] → Room lev (A.deeper (envOfC qual (defScope st) s.heap.objs.size f cdv)) → sp vs H Q E →
      ∃ t, PSs (cxOf (L2.CX P w) P w K mg base N qual (defScope st) f cdv A out s H E) (defBody st) t ∧ t { nx := fun _ H' => Q .non H', rt := Q } (L2.start N vs) H) : FnG P w K mg base (lev + 1) f fd ps sp := by
  obtain ⟨oc, od, kV, doc, pm, an, cdv, ct, osl, efd, look, isCode⟩ := F.ex
  subst efd
  constructor
  · exact ar
  intro A g room out s H args us vs Q E env binds rel prom
  have same_len := ar vs H Q E prom
  have frag : K.In s.heap := env.mod.kin.keeps fun b o q => (env.bs b o q).1
  have nolim : s.heap.NoLimit := env.mod.nolimit.keeps fun b o q => (env.bs b o q).1
  refine codeAny_call_function room.depth (frag _ _ look) rfl S.co S.gen rfl (PySem.W.codeRec_of frag isCode) (binds _ _ _ _ ?_)
  have kinds : ∀ y ∈ ps.zip us, (defScope st).names.lookup y.1 = some .local ∨
      ((defScope st).names.lookup y.1 = some .cell ∧ ((cellsFrom (s.heap.objs.size + 1) (defScope st).names []).lookup y.1).isSome = true) := by
    rintro ⟨n, v⟩ mem
    rcases S.par n (List.of_mem_zip mem).1 with isLoc | isCell
    · exact Or.inl isLoc
    · exact Or.inr ⟨isCell, PySem.W.cellsFrom_some _ _ _ (Or.inl isCell)⟩
  refine wpAny_newFunctionEnv_cells S.kind kinds ?_
  rintro env' rfl s1 inCall
  refine ⟨nolim.keeps inCall.toInCall.keep, codeAny_func ?_⟩
  obtain ⟨t, pss, wish⟩ := body cdv A out s H vs Q E g (room.deeper _) prom
  have J := inv_start (CX := L2.CX P w) (N := N) (E := E) S room.hd env same_len rel inCall
  refine wpAny_mono (pss.run [] s1 (L2.start N vs) H _ J wish) ?_ (fun _ _ q => q)
  intro flow s2 how
  cases flow with
  | next =>
    obtain ⟨σ2, H2, J2, q⟩ := how
    exact ⟨V.non, H2, J2.os, J2.bare, J2.base, J2.hok, rfl, q⟩
  | ret u =>
    obtain ⟨v, σ2, H2, J2, r2, q⟩ := how
    exact ⟨v, H2, J2.os, J2.bare, J2.base, J2.hok, r2, q⟩
  | brk => exact (let ⟨_, _, _, no⟩ := how; no.elim)
  | cont => exact (let ⟨_, _, _, no⟩ := how; no.elim)
/-- a def's promise by its body, at the level of data and own objects -/
theorem okG {x qual : Str} {st : Stmt} {f : Addr} {fd : FuncData} {N ps : List Str} {Pr : SpS} (F : Fun K x qual st f fd) (S : FnScope N ps (defScope st))
    (body : ∀ (cdv : Value) (A : Around) (out : List Env) (s : Shared) (H : Hp) (E : XK), A.guards = some [] → Room lev (A.deeper (envOfC qual (defScope st) s.heap.objs.size f cdv)) → ∀ (xs : List Sl) (c : Ce) (QS : SK) (QE : XQ), xs.length = ps.length → Pr xs c QS QE →
      ∃ t, PSs (cxOf (L2.CX P w) P w K mg base N qual (defScope st) f cdv A out s H E) (defBody st) t ∧ RS K E QE t (startS N xs) c { nx := fun _ c' => QS (.d .none) c', rt := QS }) :
    FnG P w K mg base (lev + 1) f fd ps (spOf K ps.length Pr) := by
  refine fnG_of F S (fun _ _ _ _ h => h.1) ?_
  rintro cdv A out s H vs Q E g room ⟨len, B, c, xs, QS, QE, R, V1, prom, back, ex⟩
  obtain ⟨t, pss, rs⟩ := body cdv A out s H E g room xs c QS QE ((paired_len V1).symm.trans len) prom
  exact ⟨t, pss, rs B H _ ⟨R, soks_start V1⟩ ex _ ⟨fun _ _ _ _ c' sm R' q => back .non _ _ (.d .none) c' sm R'.c Td.non q, fun v _ _ sl c' sm R' V' q => back v _ _ sl c' sm R' V' q, fun _ _ _ _ _ _ _ no => no, fun _ _ _ _ _ _ _ no => no⟩⟩
end
/-- a def by its name at the top: where it stands, how its arguments bind, its promise -/
structure DefG (P : Program) (w : World) (K : PySem.W.Frag) (mg : Str → Option Value) (base : Heap) (x : Str) (lev : Nat) (ps : List Str) (Pr : SpS) : Prop where
  ex : ∃ (f : Addr) (fd : FuncData), FnG P w K mg base lev f fd ps (spOf K ps.length Pr) ∧ mg x = some (.ref f) ∧ PySem.W.keepIn K (.ref f) = true ∧ Binds K fd ps []
/-- a method of the class at C -/
structure MethG (P : Program) (w : World) (K : PySem.W.Frag) (mg : Str → Option Value) (base : Heap) (C : Addr) (m : Str) (lev : Nat) (ps : List Str) (Pr : SpS) : Prop where
  ex : ∃ (f : Addr) (fd : FuncData), FnG P w K mg base lev f fd ps (spOf K ps.length Pr) ∧ Meth K C m f ∧ Binds K fd ps []
/-- a class by its name, made by its __init__ -/
structure MakeG (P : Program) (w : World) (K : PySem.W.Frag) (mg : Str → Option Value) (base : Heap) (x : Str) (C : Addr) (lev : Nat) (ps : List Str) (Pr : SpS) : Prop where
  ex : ∃ (f : Addr) (fd : FuncData), FnG P w K mg base lev f fd ps (spOf K ps.length Pr) ∧ Mk K C f ∧ mg x = some (.ref C) ∧ Binds K fd ps []
section
variable {X : Cx} {KK : PySem.W.Frag} {lev : Nat} {f C : Addr} {fd : FuncData} {ps : List Str} {sp : Sp} {Pr : SpS} {E : XK} {x m : Str} {p pos apos : Pos} {e o : Expr} {es : List Expr} {ta : TE} {t : TA}
theorem goG {pins : List (Addr × Obj)} {σ : L2.St} {H : Hp} {s : Shared} {Q : VK} {us : List Value} {vs : List V} (F : FnG X.prog X.w X.K X.mg X.base lev f fd ps sp) (g : X.A.guards = some []) (room : Room lev X.A) (b : Binds X.K fd ps []) (px : Passes (L2.CX X.prog X.w) X E)
    (I : Inv X pins σ H s) (rel : Vals vs us) (h : sp (vs ++ []) H Q E) : wpAny (model X.prog X.w) X.A (call (.ref f) us) (EP X pins σ Q) X.xe s := by
  have h' : sp vs H Q E := by
    rw [List.append_nil] at h
    exact h
  have len : us.length = ps.length := rel.length.symm.trans (F.ar _ _ _ _ h')
  have bind := b s us I.kIn (by rw [List.append_nil]; exact len)
  rw [List.append_nil] at bind
  have run := F.go X.A g room X.stack s H ⟨us, []⟩ us vs Q E I.env0 bind rel h'
  refine wpAny_call (codeAny_mono run ?_)
  intro res s2 how
  cases res with
  | error err => exact px pins σ H s err s2 I how
  | ok flow =>
    cases flow with
    | ret u => exact I.after how
    | next => exact how.elim
    | brk => exact how.elim
    | cont => exact how.elim
theorem pe_d (D : DefG X.prog X.w KK X.mg X.base x lev ps Pr) (g : X.A.guards = some []) (room : Room lev X.A) (gl : Gl X x) (px : Passes (L2.CX X.prog X.w) X E) (ha : PA X (e :: es) t) (dbg : (x == ("__debug__" : Str)) = false := by decide +kernel)
    (st1 : starEach (e :: es) X.env = (false, eval e X.env) :: starEach es X.env := by rfl) (st2 : (backTo pos (starEach es X.env)).any (·.1) = false := by rfl) (eK : X.K = KK := by rfl) : PE X (.Call (.Name x p) (e :: es) [] pos) (tCall (spOf KK ps.length Pr) [] E t) := by
  subst eK
  obtain ⟨f, fd, F, hm, kp, b⟩ := D.ex
  constructor
  intro pins s σ H Q I h
  refine wpAny_Call_Name_kw (ld_glob I gl hm ?_ dbg)
  refine PySem.W.callWith_K (h₀ := X.base) I.ok.mod.kin kp (thn (ha.run pos pins s σ H _ I h) ?_) st1 st2
  rintro us s1 ⟨vs, H1, I1, rel, q⟩
  exact ⟨I1.kIn, goG F g room b px I1 rel q⟩
theorem pe_d0 (D : DefG X.prog X.w KK X.mg X.base x lev ps Pr) (g : X.A.guards = some []) (room : Room lev X.A) (gl : Gl X x) (px : Passes (L2.CX X.prog X.w) X E) (dbg : (x == ("__debug__" : Str)) = false := by decide +kernel) (eK : X.K = KK := by rfl) :
    PE X (.Call (.Name x p) [] [] pos) (tCall (spOf KK ps.length Pr) [] E tNil) := by
  subst eK
  obtain ⟨f, fd, F, hm, kp, b⟩ := D.ex
  constructor
  intro pins s σ H Q I h
  refine wpAny_Call_Name_kw (ld_glob I gl hm ?_ dbg)
  exact PySem.W.callWith_K0 I.kIn kp (goG (us := []) F g room b px I .nil h)
theorem pe_m {pl : Sem Bool} (he : PE X o ta) (cl : Cls KK C) (M : MethG X.prog X.w KK X.mg X.base C m lev ps Pr) (g : X.A.guards = some []) (room : Room lev X.A) (px : Passes (L2.CX X.prog X.w) X E) (ha : PA X (e :: es) t)
    (st1 : starEach (e :: es) X.env = (false, eval e X.env) :: starEach es X.env := by rfl) (st2 : (backTo pos (starEach es X.env)).any (·.1) = false := by rfl)
    (ev : eval (.Call (.Attribute o m apos) (e :: es) [] pos) X.env = (eval o X.env >>= fun ov => standAt apos.atName >>= fun _ => holding [ov] (getMethod ov m pl) >>= fun (fv, fst) => callWith pos fv fst (backTo pos (starEach (e :: es) X.env)) (backToKw pos (keywordEach [] X.env))) := by rfl) (eK : X.K = KK := by rfl) :
    PE X (.Call (.Attribute o m apos) (e :: es) [] pos) (tMeth C m (spOf KK ps.length Pr) [] E ta t) := by
  subst eK
  obtain ⟨f, fd, F, hm, b⟩ := M.ex
  constructor
  intro pins s σ H Q I h
  refine PySem.W.methodCall_KW (pl := pl) (thn (he.run pins s σ H _ I h) ?_) ev
  rintro u s1 ⟨y, H1, I1, ry, a, dx, fs, rfl, at_a, no, q⟩
  have eu : u = Value.ref a := ry
  subst eu
  refine getmeth_ok I1 at_a cl hm no ?_
  refine PySem.W.callWith_K (first := [.ref a]) (h₀ := X.base) I.ok.mod.kin hm.kp (thn (ha.run pos pins s1 σ H1 _ I1 q) ?_) st1 st2
  rintro us s2 ⟨vs, H2, I2, rel, q2⟩
  exact ⟨I2.kIn, goG (us := .ref a :: us) (vs := .ref a :: vs) F g room b px I2 (.cons rfl rel) q2⟩
theorem pe_m0 {pl : Sem Bool} (he : PE X o ta) (cl : Cls KK C) (M : MethG X.prog X.w KK X.mg X.base C m lev ps Pr) (g : X.A.guards = some []) (room : Room lev X.A) (px : Passes (L2.CX X.prog X.w) X E)
    (ev : eval (.Call (.Attribute o m apos) [] [] pos) X.env = (eval o X.env >>= fun ov => standAt apos.atName >>= fun _ => holding [ov] (getMethod ov m pl) >>= fun (fv, fst) => callWith pos fv fst (backTo pos (starEach [] X.env)) (backToKw pos (keywordEach [] X.env))) := by rfl) (eK : X.K = KK := by rfl) :
    PE X (.Call (.Attribute o m apos) [] [] pos) (tMeth C m (spOf KK ps.length Pr) [] E ta tNil) := by
  subst eK
  obtain ⟨f, fd, F, hm, b⟩ := M.ex
  constructor
  intro pins s σ H Q I h
  refine PySem.W.methodCall_KW (pl := pl) (thn (he.run pins s σ H _ I h) ?_) ev
  rintro u s1 ⟨y, H1, I1, ry, a, dx, fs, rfl, at_a, no, q⟩
  have eu : u = Value.ref a := ry
  subst eu
  refine getmeth_ok I1 at_a cl hm no ?_
  exact PySem.W.callWith_K0 (first := [.ref a]) I1.kIn hm.kp (goG (us := [.ref a]) (vs := [.ref a]) F g room b px I1 (.cons rfl .nil) q)
theorem under_guards {A : Around} {C : Addr} {us : List Value} {kw : List (Str × Value)} (g : A.guards = some []) : (A.under (.builtin "type.__call__" ⟨.ref C :: us, kw⟩)).guards = some [] := by
  show pushGuards (Code.builtin "type.__call__" ⟨.ref C :: us, kw⟩).guards A.guards = some []
  rw [g]
  have e : (Code.builtin "type.__call__" ⟨.ref C :: us, kw⟩).guards = [] := by
    first
      | rfl
      | simp [Code.guards, Code.isGuard, guardIds]
  rw [e]
  rfl
theorem makeGo {pins : List (Addr × Obj)} {σ : L2.St} {H : Hp} {s : Shared} {Q : VK} {us : List Value} {vs : List V} (M : Mk X.K C f) (F : FnG X.prog X.w X.K X.mg X.base lev f fd ps sp) (g : X.A.guards = some []) (room : Room (lev + 1) X.A) (b : Binds X.K fd ps [])
    (px : Passes (L2.CX X.prog X.w) X E) (I : Inv X pins σ H s) (rel : Vals vs us)
    (h : ∀ y dy, H y = none → H dy = none → dy ≠ y → sp (.ref y :: (vs ++ [])) (upd (upd H dy (.own y)) y (.ins C dy [])) (fun v H2 => v = .non ∧ Q (.ref y) H2) E) :
    wpAny (model X.prog X.w) X.A (call (.ref C) us) (EP X pins σ Q) X.xe s := by
  have fr1 : H (s.heap.objs.size + 1) = none := I.hok.fresh (Nat.le_succ _)
  have fr0 : H s.heap.objs.size = none := I.hok.fresh (Nat.le_refl _)
  have prom := h _ _ fr1 fr0 (Nat.ne_of_lt (Nat.lt_succ_self _))
  rw [List.append_nil] at prom
  have J := Inv.made (C := C) I
  have rel' : Vals (V.ref (s.heap.objs.size + 1) :: vs) (Value.ref (s.heap.objs.size + 1) :: us) := .cons rfl rel
  have len : (Value.ref (s.heap.objs.size + 1) :: us).length = ps.length := rel'.length.symm.trans (F.ar _ _ _ _ prom)
  have bind := fun s2 (k2 : X.K.In s2.heap) => b s2 (Value.ref (s.heap.objs.size + 1) :: us) k2 (by rw [List.append_nil]; exact len)
  simp only [List.append_nil] at bind
  have run := F.go _ (under_guards g) (room.make C us []) X.stack _ _ ⟨Value.ref (s.heap.objs.size + 1) :: us, []⟩ _ _ _ E (J.env0.make C us []) (bind _ J.kIn) rel' prom
  refine wpAny_call (make_map (f := f) I.kIn M.makes M.init (beq_iff_eq.mp M.fn) (codeAny_mono run ?_))
  intro res s2 how
  cases res with
  | error err => exact px pins σ _ _ err s2 J how
  | ok flow =>
    cases flow with
    | next => exact how.elim
    | brk => exact how.elim
    | cont => exact how.elim
    | ret u =>
      obtain ⟨v, H2, J2, rv, isNone, q⟩ := J.after how
      subst isNone
      exact ⟨rv, V.ref (s.heap.objs.size + 1), H2, J2, rfl, q⟩
theorem pe_k (M : MakeG X.prog X.w KK X.mg X.base x C lev ps Pr) (g : X.A.guards = some []) (room : Room (lev + 1) X.A) (gl : Gl X x) (px : Passes (L2.CX X.prog X.w) X E) (ha : PA X (e :: es) t) (dbg : (x == ("__debug__" : Str)) = false := by decide +kernel)
    (st1 : starEach (e :: es) X.env = (false, eval e X.env) :: starEach es X.env := by rfl) (st2 : (backTo pos (starEach es X.env)).any (·.1) = false := by rfl) (eK : X.K = KK := by rfl) : PE X (.Call (.Name x p) (e :: es) [] pos) (tMake C (spOf KK ps.length Pr) [] E t) := by
  subst eK
  obtain ⟨f, fd, F, mk, hm, b⟩ := M.ex
  constructor
  intro pins s σ H Q I h
  refine wpAny_Call_Name_kw (ld_glob I gl hm ?_ dbg)
  refine PySem.W.callWith_K (h₀ := X.base) I.ok.mod.kin mk.kp (thn (ha.run pos pins s σ H _ I h) ?_) st1 st2
  rintro us s1 ⟨vs, H1, I1, rel, q⟩
  exact ⟨I1.kIn, makeGo mk F g room b px I1 rel q⟩
end
/-- what leaves a def's body -/
theorem passC {P : Program} {w : World} {K : PySem.W.Frag} {mg : Str → Option Value} {base : Heap} {N : List Str} {qual : Str} {scope : Scope} {f : Addr} {cd : Value} {A : Around} {out : List Env} {s : Shared} {H : Hp} {E : XK} :
    Passes (L2.CX P w) (cxOf (L2.CX P w) P w K mg base N qual scope f cd A out s H E) E :=
  passes_call (takes_of rfl rfl rfl rfl) fun _ _ _ _ h => h

/-! ### the law's own call -/
section
variable {P : Program} {w : World} {K : PySem.W.Frag} {mg mb : Str → Option Value} {lev : Nat} {fa a : Addr} {fd : FuncData} {x : Str} {Pr : SpS}
/-- a law's promise: a list of areInts comes in, True goes out -/
def spLaw : SpS := fun xs c Q _ => ∃ ns : List Int, xs = [.s ns] ∧ ns.length ≤ 63 ∧ ∀ c', Q (.d (.bool true)) c'
theorem only_rep {H : Hp} : RepC K H H (fun _ => none) := ⟨Same.refl _, fun _ _ h => by cases h⟩
theorem lawGo {s₁ : Shared} {vs : List Value} {ns : List Int} (inK : K.In s₁.heap) (globs : s₁.heap.Ns mainGlobals mg) (bins : s₁.heap.Ns builtinsNs mb) (binsAre : ∀ y : Str, y ≠ "__name__" → mb y = bootBuiltins y) (lim : s₁.heap.NoLimit) (noGens : s₁.gens = #[])
    (script : s₁.heap.get? a = some { cls := .type "list", data := .seq vs.toArray }) (areInts : IntsAre vs ns) (n63 : ns.length ≤ 63) (room : Room lev callerA)
    (F : ∀ base : Heap, K.In base → base.Ns mainGlobals mg → FnG P w K mg base lev fa fd [x] (spOf K 1 spLaw)) (bind : ∀ (s : Shared) (u : Value), BindsTo s fd ⟨[u], []⟩ [(x, u)]) :
    codeAny (model P w) callerA (.call (.ref fa) ⟨[.ref a], []⟩) (fun r s' => r = .ok (.ret (.bool true)) ∧ OldK s₁.heap s'.heap ∧ s'.os = s₁.os ∧ AllBare s'.gens) s₁ := by
  have small : ns.length ≤ sizeLine := Nat.le_trans n63 (by decide)
  have vals := vals_ints areInts
  have lens := areInts.length
  /- whatever is tracked is the script alone -/
  have main : ∀ H : Hp, Only H → SqL K H a (ns.map V.int) → HOk P w H s₁.heap → (∀ b, b ≠ a → H b = none) → (K.lookup a = none ∨ H a = none) →
      codeAny (model P w) callerA (.call (.ref fa) ⟨[.ref a], []⟩) (fun r s' => r = .ok (.ret (.bool true)) ∧ OldK s₁.heap s'.heap ∧ s'.os = s₁.os ∧ AllBare s'.gens) s₁ := by
    intro H only isL ok away free
    have hid : ∀ {b : Addr} {o : Obj}, s₁.heap.get? b = some o → H b = none → (hidT s₁.heap H).get? b = some o := fun q n => hidT_get q n
    have dicts : ∀ {b : Addr} {o : Obj} {es : Array DictEntry} {ep : Nat}, s₁.heap.get? b = some o → o.data = .dict es ep → H b = none := by
      intro b o es ep q d
      by_cases same : b = a
      · rw [same, script] at q
        cases q
        cases (show Data.seq vs.toArray _ = Data.dict es ep from d)
      · exact away b same
    have spaces : ∀ {b : Addr} {m : Str → Option Value}, s₁.heap.Ns b m → (hidT s₁.heap H).Ns b m := by
      rintro b m ⟨o, es, ep, q, d, r⟩
      exact ⟨o, es, ep, hid q (dicts q d), d, r⟩
    have inKh : K.In (hidT s₁.heap H) := by
      intro b o q
      refine hid (inK b o q) ?_
      by_cases same : b = a
      · rcases free with no | no
        · rw [same, no] at q
          cases q
        · rw [same]; exact no
      · exact away b same
    have modl : Mod K mg (hidT s₁.heap H) := by
      obtain ⟨mc, c1, c2⟩ := lim
      exact ⟨inKh, spaces globs, ⟨mb, spaces bins, binsAre⟩, ⟨mc, spaces c1, c2⟩⟩
    have noFrs : ∀ b ∈ frs ([] : List Env), H b = none := fun b q => nomatch q
    have envs : Env0 P w K mg (hidT s₁.heap H) callerA [] s₁ H := ⟨rfl, modl, fun b o q => of_hidT q, Nat.le_of_eq (hidT_size _ _), True.intro, noFrs, ok, .of_eq noGens⟩
    have prom : spOf K 1 spLaw [.ref a] H (fun v _ => v = .bl true) (fun _ _ _ => False) := by
      refine ⟨rfl, H, fun _ => none, [.s ns], fun sl _ => sl = .d (.bool true), fun _ _ => False, only_rep, .cons ⟨a, rfl, isL⟩ .nil, ⟨ns, rfl, n63, fun _ => rfl⟩, ?_, fun _ _ _ _ _ _ _ no => no⟩
      intro v B' H' sl c' _ _ V' isT
      subst isT
      cases V'
      rfl
    refine codeAny_mono ((F _ inKh (spaces globs)).go callerA rfl room [] s₁ H ⟨[.ref a], []⟩ [.ref a] [.ref a] _ _ envs (bind s₁ (.ref a)) (.cons rfl .nil) prom) ?_
    intro res s2 how
    cases res with
    | error err =>
      obtain ⟨_, _, _, _, _, _, _, _, _, _, _, _, no⟩ := how
      exact no.elim
    | ok flow =>
      cases flow with
      | next => exact how.elim
      | brk => exact how.elim
      | cont => exact how.elim
      | ret u =>
        obtain ⟨v, H2, os, bare, un, ok2, rel, isT⟩ := how
        have isT : v = .bl true := isT
        subst isT
        have eu : u = Value.bool true := rel
        subst eu
        refine ⟨rfl, OldK.of_keep ?_, os, bare⟩
        intro b o q
        rcases only b with n | ⟨ob, xs, z⟩
        · exact un.keep b o q n (fun y => nomatch y) (by simp)
        · have z2 := un.frzs b ob _ z
          have e1 := (ok b _ z).1
          have e2 := (ok2 b _ z2).1
          rw [q] at e1
          cases e1
          exact e2
  cases look : K.lookup a with
  | some o =>
    have q := inK a o look
    rw [script] at q
    cases q
    exact main (fun _ => none) (fun _ => Or.inl rfl) (Or.inr ⟨_, vs.toArray, _, look, rfl, rfl, rfl, by rw [List.size_toArray, lens]; exact small, by simpa using vals⟩) (fun b u z => by cases (show (none : Option HO) = some u from z)) (fun _ _ => rfl) (Or.inr rfl)
  | none =>
    let o0 : Obj := { cls := .type "list", data := .seq vs.toArray }
    let H0 : Hp := upd (fun _ => none) a (.frz o0 (.lst (ns.map V.int)))
    have atA : H0 a = some (.frz o0 (.lst (ns.map V.int))) := upd_same
    have off : ∀ b, b ≠ a → H0 b = none := fun b n => upd_ne n
    refine main H0 (fun b => ?_) (Or.inl (Or.inr ⟨o0, atA⟩)) (fun b u z => ?_) off (Or.inl look)
    · by_cases same : b = a
      · exact Or.inr ⟨_, _, same ▸ atA⟩
      · exact Or.inl (off b same)
    · by_cases same : b = a
      · subst same
        rw [atA] at z
        cases z
        exact ⟨script, by rw [List.length_map]; exact small, vs, _, vals, script⟩
      · rw [off b same] at z
        cases z
theorem walkG {l : PySem.W.OpenLaw} {q : Program} {loose : List Str} {XP : (Str → Option Value) → Heap → Prop} {YP : World → Heap → Prop} {d : DefRec} {K : Params → PySem.W.Frag} (most : l.most = some 63) (noDef : d.params.defaults = []) (room : Room lev callerA)
    (hY : ∀ (w : World) (h : Heap), YP w h → (K w.params).In h)
    (F : ∀ (w : World) (mg : Str → Option Value) (fa : Addr) (h : Heap), (K w.params).In h → h.Ns mainGlobals mg → mg d.name = some (.ref fa) →
      ∃ fd : FuncData, (∀ (s : Shared) (u : Value), BindsTo s fd ⟨[u], []⟩ [(x, u)]) ∧ ∀ base : Heap, (K w.params).In base → base.Ns mainGlobals mg → FnG l.prog w (K w.params) mg base lev fa fd [x] (spOf (K w.params) 1 spLaw)) :
    PySem.W.WalkO q loose XP YP l.row.toRowW d [] (fun f vs => PySem.call f vs) := by
  refine Att.attach_call most noDef ?_
  intro w s₀ s₁ mg mb fa o pm cd doc a vs ns G Y _ _ _ hmg script areInts n63 noGens
  have inK := hY w _ Y
  obtain ⟨fd, bind, hF⟩ := F w mg fa _ inK G.T.g hmg
  exact lawGo inK G.T.g G.T.b G.T.builtins G.T.nolimit noGens script areInts n63 room hF bind
end
end Sy
/-! Sy4: more operators and built-ins at values. -/
namespace Sy
open PySem L2

section
variable {K : PySem.W.Frag} {E : XK} {QX : XQ} {te ta tb tc : TE} {tt : TT} {e e' : List Sl} {c c' : Ce} {i j : Nat} {sl x y : Sl} {Q : SK}
/-! ### a new list at values: data, or an own object -/
theorem fix_new {B H : Hp} {p : Addr} {vs : List V} {ds : List PyData} (R : RepC K B H c) (nb : B p = none) (nc : c p = none) (l : H p = some (.lst vs)) (V1 : VOks K B vs (ds.map Sl.d)) :
    ∃ B', Same B B' ∧ RepC K B' H c ∧ Td B' (.ref p) (.list ds) := by
  have s2 : Same B (upd B p (.lst vs)) := same_upd nb
  refine ⟨_, s2, ⟨fun b u z => ?_, fun b x z => ?_⟩, .lst upd_same (dpa_mono s2 _ _ (VOks.data V1))⟩
  · by_cases y : b = p
    · subst y; rw [upd_same] at z; cases z; exact l
    · rw [upd_ne y] at z; exact R.bh b u z
  · have y : b ≠ p := ce_ne z nc
    rw [upd_ne y]
    exact ⟨(R.ce b x z).1, (R.ce b x z).2.mono s2 rfl⟩
theorem own_new {B H : Hp} {p : Addr} {vs : List V} {xs : List Sl} (R : RepC K B H c) (nb : B p = none) (l : H p = some (.lst vs)) (V1 : VOks K B vs xs) : RepC K B H (cu c p (.lst xs)) := by
  refine ⟨R.bh, fun b x z => ?_⟩
  by_cases y : b = p
  · subst y; rw [cu_same] at z; cases z; exact ⟨nb, vs, l, V1⟩
  · rw [cu_ne y] at z; exact R.ce b x z
theorem r2_new {r : L2.R2} (h : R2N K r x y c fun xs c1 => ∃ ds : List PyData, xs = ds.map Sl.d ∧ Q (.d (.list ds)) c1) : R2 K r x y c Q := fun B H v u R V1 V2 Qr k =>
  h B H v u R V1 V2 Qr fun p B1 H1 vs xs c1 s1 R1 nb nc l W ⟨ds, hx, q⟩ => by
    subst hx
    obtain ⟨B2, s2, R2, T⟩ := fix_new R1 nb nc l W
    exact k _ B2 H1 (.d (.list ds)) c1 (s1.trans s2) R2 T q
theorem r2_own {r : L2.R2} (h : R2N K r x y c fun xs c1 => ∀ p, c1 p = none → Q (.o p) (cu c1 p (.lst xs))) : R2 K r x y c Q := fun B H v u R V1 V2 Qr k =>
  h B H v u R V1 V2 Qr fun p B1 H1 vs xs c1 s1 R1 nb nc l W q => k _ B1 H1 (.o p) _ s1 (own_new R1 nb l W) rfl (q p nc)
theorem rl_new {r : List V → Hp → VK → Prop} {zs : List Sl} (h : RLN K r zs c fun xs c1 => ∃ ds : List PyData, xs = ds.map Sl.d ∧ Q (.d (.list ds)) c1) : RL K r zs c Q := fun B H vs R V1 Qr k =>
  h B H vs R V1 Qr fun p B1 H1 vs xs c1 s1 R1 nb nc l W ⟨ds, hx, q⟩ => by
    subst hx
    obtain ⟨B2, s2, R2, T⟩ := fix_new R1 nb nc l W
    exact k _ B2 H1 (.d (.list ds)) c1 (s1.trans s2) R2 T q
theorem rl_own {r : List V → Hp → VK → Prop} {zs : List Sl} (h : RLN K r zs c fun xs c1 => ∀ p, c1 p = none → Q (.o p) (cu c1 p (.lst xs))) : RL K r zs c Q := fun B H vs R V1 Qr k =>
  h B H vs R V1 Qr fun p B1 H1 vs xs c1 s1 R1 nb nc l W q => k _ B1 H1 (.o p) _ s1 (own_new R1 nb l W) rfl (q p nc)
/-- an item-wise copy of what stands: a rule that lays a new list -/
theorem laid {B H : Hp} {vs : List V} {xs : List Sl} {Qr : VK} {QN : List Sl → Ce → Prop} (R : RepC K B H c) (W : VOks K B vs xs) (q : QN xs c)
    (k : ∀ p B' H' vs xs c', Same B B' → RepC K B' H' c' → B' p = none → c' p = none → H' p = some (.lst vs) → VOks K B' vs xs → QN xs c' → Qr (.ref p) H') (p : Addr) (hp : H p = none) : Qr (.ref p) (upd H p (.lst vs)) := by
  obtain ⟨nb, nc⟩ := R.fresh hp
  refine k p B _ vs xs c (Same.refl _) ⟨fun b u z => ?_, fun b y z => ?_⟩ nb nc upd_same W q
  · rw [upd_ne (ne_of_none z nb)]; exact R.bh b u z
  · exact ⟨(R.ce b y z).1, (R.ce b y z).2.mono (Same.refl _) (upd_ne (ce_ne z nc)).symm⟩
/-! ### lists that the heap itself tracks (not the script) -/
def lown (sl : Sl) (c : Ce) : Option (List Sl) := match sl with
  | .d (.list ds) => some (ds.map Sl.d)
  | .o a => match c a with
    | some (.lst xs) => some xs
    | _ => none
  | _ => none
theorem lown_o {a : Addr} {xs : List Sl} (h : c a = some (.lst xs)) : lown (.o a) c = some xs := by
  show (match c a with | some (.lst xs) => some xs | _ => none) = some xs
  rw [h]
theorem lown_ok {B H : Hp} {v : V} {xs : List Sl} (R : RepC K B H c) (V1 : VOk K B v sl) (h : lown sl c = some xs) : ∃ a vs, v = .ref a ∧ H a = some (.lst vs) ∧ VOks K B vs xs := by
  unfold lown at h
  split at h
  · cases h
    cases V1 with
    | lst h1 h2 => exact ⟨_, _, rfl, R.bh _ _ h1, VOks.ofData h2⟩
  · rename_i a
    split at h
    · rename_i ys hc
      cases h
      cases V1
      obtain ⟨_, vs, h1, h2⟩ := R.ce a _ hc
      exact ⟨a, vs, rfl, h1, h2⟩
    · cases h
  · cases h
theorem r2n_cat {xs ys : List Sl} {QN : List Sl → Ce → Prop} (hx : lown x c = some xs) (hy : lown y c = some ys) (hl : xs.length + ys.length ≤ 100000) (q : QN (xs ++ ys) c) : R2N K rCat x y c QN := fun B H v u R V1 V2 Qr k => by
  obtain ⟨a, vs, rfl, h1, W1⟩ := lown_ok R V1 hx
  obtain ⟨b, ws, rfl, h2, W2⟩ := lown_ok R V2 hy
  refine ⟨a, b, vs, ws, rfl, rfl, h1, h2, ?_, laid R (paired_append W1 W2) q k⟩
  rw [paired_len W1, paired_len W2]
  exact Nat.le_trans hl (by decide)
theorem paired_rep {α β : Type} {R : α → β → Prop} {xs : List α} {ys : List β} (h : Paired R xs ys) : ∀ n : Nat, Paired R (List.replicate n xs).flatten (List.replicate n ys).flatten
  | 0 => .nil
  | n + 1 => by
    rw [List.replicate_succ, List.replicate_succ, List.flatten_cons, List.flatten_cons]
    exact paired_append h (paired_rep h n)
theorem r2n_rep {xs : List Sl} {n : Int} {QN : List Sl → Ce → Prop} (hx : lown x c = some xs) (h0 : -(2 ^ 63) ≤ n) (h1 : n < 2 ^ 63) (hl : xs.length * n.toNat ≤ 100000) (q : QN (List.replicate n.toNat xs).flatten c) : R2N K rRep x (.d (.int n)) c QN := fun B H v u R V1 V2 Qr k => by
  obtain ⟨a, vs, rfl, g1, W1⟩ := lown_ok R V1 hx
  cases V2
  refine ⟨a, n, vs, rfl, rfl, g1, h0, h1, ?_, laid R (paired_rep W1 n.toNat) q k⟩
  rw [paired_len W1]
  exact Nat.le_trans hl (by decide)
/-! ### tuple + tuple -/
theorem r2_catT {ds es : List PyData} (hl : ds.length + es.length ≤ 100000) (q : Q (.d (.tuple (ds ++ es))) c) : R2 K (rCatA K) (.d (.tuple ds)) (.d (.tuple es)) c Q := fun B H v u R V1 V2 Qr k => by
  cases V1 with
  | tup a1 a2 =>
    rename_i a vs
    cases V2 with
    | tup b1 b2 =>
      rename_i b ws
      have l1 := paired_len (VOks.ofData (K := K) a2)
      have l2 := paired_len (VOks.ofData (K := K) b2)
      rw [List.length_map] at l1 l2
      refine ⟨a, b, vs, ws, rfl, rfl, SqT.of (R.bh _ _ a1), SqT.of (R.bh _ _ b1), ?_, fun e => ?_, fun _ e => ?_, fun _ _ p hp => ?_⟩
      · rw [l1, l2]; exact Nat.le_trans hl (by decide)
      · subst e
        cases a2
        exact k _ B H (.d (.tuple es)) c (Same.refl _) R (.tup b1 b2) q
      · subst e
        cases b2
        rw [List.append_nil] at q
        exact k _ B H (.d (.tuple ds)) c (Same.refl _) R (.tup a1 a2) q
      · obtain ⟨R2, s2⟩ := R.tupAt (vs := vs ++ ws) hp
        have W := paired_append (VOks.ofData (K := K) a2) (VOks.ofData b2)
        rw [← List.map_append] at W
        exact k _ _ _ (.d (.tuple (ds ++ es))) c s2 R2 (.tup upd_same (dpa_mono s2 _ _ (VOks.data W))) q
theorem r2_repT {ds : List PyData} {n : Int} (hne : ds ≠ []) (h1 : 2 ≤ n) (h2 : n ≤ 1000) (hl : ds.length ≤ 1000) (q : Q (.d (.tuple (List.replicate n.toNat ds).flatten)) c) : R2 K (rRepT K) (.d (.tuple ds)) (.d (.int n)) c Q := fun B H v u R V1 V2 Qr k => by
  cases V1 with
  | tup a1 a2 =>
    rename_i a vs
    cases V2
    have W := VOks.ofData (K := K) a2
    have l1 := paired_len W
    rw [List.length_map] at l1
    refine ⟨a, n, vs, rfl, rfl, SqT.of (R.bh _ _ a1), ?_, h1, h2, by omega, fun p hp => ?_⟩
    · intro e
      subst e
      exact hne (List.eq_nil_of_length_eq_zero l1.symm)
    · obtain ⟨R2, s2⟩ := R.tupAt (vs := (List.replicate n.toNat vs).flatten) hp
      have W2 := paired_rep W n.toNat
      have e : (List.replicate n.toNat (ds.map Sl.d)).flatten = ((List.replicate n.toNat ds).flatten).map Sl.d := by
        rw [List.map_flatten, List.map_replicate]
      rw [e] at W2
      exact k _ _ _ (.d (.tuple _)) c s2 R2 (.tup upd_same (dpa_mono s2 _ _ (VOks.data W2))) q
/-! ### the unions: +, * , [a:b] -/
def rAddU (K : PySem.W.Frag) : L2.R2 := fun x y H Q => rI0 (fun i j => .int (i + j)) x y H Q ∨ (rCat x y H Q ∨ rCatA K x y H Q)
theorem op_addU {X : Cx} : OpR X (binaryOp .Add) (rAddU X.K) := op_add.or (op_cat.or op_catA)
theorem add_int {m n : Int} (q : Q (.d (.int (m + n))) c) : R2 K (rAddU K) (.d (.int m)) (.d (.int n)) c Q := r2_or1 (r2_int (g := fun i j => i + j) q)
theorem add_lst (h : R2 K rCat x y c Q) : R2 K (rAddU K) x y c Q := r2_or2 (r2_or1 h)
theorem add_tup (h : R2 K (rCatA K) x y c Q) : R2 K (rAddU K) x y c Q := r2_or2 (r2_or2 h)
def rMulU (K : PySem.W.Frag) : L2.R2 := fun x y H Q => rI CMul (fun i j => .int (i * j)) x y H Q ∨ (rRep x y H Q ∨ rRepT K x y H Q)
theorem op_mulU {X : Cx} : OpR X (binaryOp .Mult) (rMulU X.K) := op_mul.or (op_rep.or op_repT)
theorem mul_int {m n : Int} (hc : CMul m n) (q : Q (.d (.int (m * n))) c) : R2 K (rMulU K) (.d (.int m)) (.d (.int n)) c Q := r2_or1 (r2_intC (g := fun i j => i * j) hc q)
theorem mul_lst (h : R2 K rRep x y c Q) : R2 K (rMulU K) x y c Q := r2_or2 (r2_or1 h)
theorem mul_tup (h : R2 K (rRepT K) x y c Q) : R2 K (rMulU K) x y c Q := r2_or2 (r2_or2 h)
def cutX {α : Type} (xs : List α) (lo hi : Option Int) : List α := (xs.drop (HT.sIx xs.length 0 lo)).take (HT.sIx xs.length xs.length hi - HT.sIx xs.length 0 lo)
theorem cutX_map {α β : Type} (f : α → β) (xs : List α) (lo hi : Option Int) : cutX (xs.map f) lo hi = (cutX xs lo hi).map f := by
  unfold cutX
  rw [List.length_map, List.map_take, List.map_drop]
def RSl (K : PySem.W.Frag) (r : V → Option Int → Option Int → Hp → VK → Prop) (x : Sl) (lo hi : Option Int) (c : Ce) (Q : SK) : Prop := ∀ B H v, RepC K B H c → VOk K B v x → ∀ Qr : VK,
  (∀ w B' H' sl c', Same B B' → RepC K B' H' c' → VOk K B' w sl → Q sl c' → Qr w H') → r v lo hi H Qr
theorem re_sl {r : V → Option Int → Option Int → Hp → VK → Prop} {tl th : TO} (h : RE K E QX te e c fun x c1 => RO K E QX tl e c1 fun lo c2 => RO K E QX th e c2 fun hi c3 => RSl K r x lo hi c3 Q) : RE K E QX (tSl r te tl th) e c Q := fun B H σ R X Qr k =>
  h B H σ R X _ fun v B1 H1 x c1 s1 R1 V1 h1 => h1 B1 H1 σ R1 (X.mono s1) _ fun lo B2 H2 c2 s2 R2 h2 => h2 B2 H2 σ R2 (X.mono (s1.trans s2)) _ fun hi B3 H3 c3 s3 R3 h3 =>
    h3 B3 H3 v R3.c (V1.mono (s2.trans s3)) Qr fun w B4 H4 sl c4 s4 R4 V4 q => k w B4 H4 sl c4 (((s1.trans s2).trans s3).trans s4) (R3.to s4 R4) V4 q
def rSlU (K : PySem.W.Frag) : V → Option Int → Option Int → Hp → VK → Prop := fun x lo hi H Q => rSlL K x lo hi H Q ∨ rSlA K x lo hi H Q
theorem sl_U {X : Cx} : SlR X (rSlU X.K) := sl_list.or sl_tupA
theorem paired_cut {α β : Type} {R : α → β → Prop} {xs : List α} {ys : List β} (h : Paired R xs ys) (lo hi : Option Int) : Paired R (cutX xs lo hi) (cutX ys lo hi) := by
  unfold cutX
  rw [paired_len h]
  exact paired_take _ (paired_drop _ h)
/-- a part of a list, as data -/
theorem sl_lst {xs : List Sl} {ds : List PyData} {lo hi : Option Int} (hx : lsrc x c = some xs) (hd : cutX xs lo hi = ds.map Sl.d) (q : Q (.d (.list ds)) c) : RSl K (rSlU K) x lo hi c Q := fun B H v R V1 Qr k => by
  obtain ⟨a, vs, rfl, hs, W⟩ := lsrc_ok R V1 hx
  refine .inl ⟨a, vs, rfl, hs, laid (QN := fun zs c1 => zs = ds.map Sl.d ∧ Q (.d (.list ds)) c1) R (show VOks K B (cutV vs lo hi) (cutX xs lo hi) from paired_cut W lo hi) ⟨hd, q⟩ ?_⟩
  intro p B1 H1 us zs c1 s1 R1 nb nc l W1 ⟨hz, q1⟩
  subst hz
  obtain ⟨B2, s2, R2, T⟩ := fix_new R1 nb nc l W1
  exact k _ B2 H1 (.d (.list ds)) c1 (s1.trans s2) R2 T q1
/-- a part of a list, as an own object -/
theorem sl_lstO {xs : List Sl} {lo hi : Option Int} (hx : lsrc x c = some xs) (q : ∀ p, c p = none → Q (.o p) (cu c p (.lst (cutX xs lo hi)))) : RSl K (rSlU K) x lo hi c Q := fun B H v R V1 Qr k => by
  obtain ⟨a, vs, rfl, hs, W⟩ := lsrc_ok R V1 hx
  refine .inl ⟨a, vs, rfl, hs, laid (QN := fun zs c1 => zs = cutX xs lo hi ∧ c1 = c) R (show VOks K B (cutV vs lo hi) (cutX xs lo hi) from paired_cut W lo hi) ⟨rfl, rfl⟩ ?_⟩
  intro p B1 H1 us zs c1 s1 R1 nb nc l W1 ⟨hz, hc1⟩
  subst hz hc1
  exact k _ B1 H1 (.o p) _ s1 (own_new R1 nb l W1) rfl (q p nc)
theorem sl_tup {ds : List PyData} {lo hi : Option Int} (q : Q (.d (.tuple (cutX ds lo hi))) c) : RSl K (rSlU K) (.d (.tuple ds)) lo hi c Q := fun B H v R V1 Qr k => by
  cases V1 with
  | tup a1 a2 =>
    rename_i a vs
    have W := VOks.ofData (K := K) a2
    have l1 := paired_len W
    rw [List.length_map] at l1
    refine .inr ⟨a, vs, rfl, SqT.of (R.bh _ _ a1), fun ⟨z1, z2⟩ => ?_, fun _ p hp => ?_⟩
    · have e : cutX ds lo hi = ds := by
        unfold cutX
        rw [← l1, z1, z2]
        simp [l1]
      rw [e] at q
      exact k _ B H (.d (.tuple ds)) c (Same.refl _) R (.tup a1 a2) q
    · obtain ⟨R2, s2⟩ := R.tupAt (vs := cutV vs lo hi) hp
      have W2 : VOks K B (cutV vs lo hi) (cutX (ds.map Sl.d) lo hi) := paired_cut W lo hi
      rw [cutX_map] at W2
      exact k _ _ _ (.d (.tuple _)) c s2 R2 (.tup upd_same (dpa_mono s2 _ _ (VOks.data W2))) q
/-! ### kinds -/
def tyName : PyData → String
  | .none => "NoneType" | .bool _ => "bool" | .int _ => "int" | .str _ => "str" | .list _ => "list" | .tuple _ => "tuple" | .dict _ => "dict"
inductive TyS (K : PySem.W.Frag) (c : Ce) : Sl → Value → Prop
  | d (t : PyData) : TyS K c (.d t) (.type (tyName t))
  | ol {a : Addr} {xs : List Sl} (h : c a = some (.lst xs)) : TyS K c (.o a) (.type "list")
  | ot {a : Addr} {xs : List Sl} (h : c a = some (.tup xs)) : TyS K c (.o a) (.type "tuple")
  | od {a : Addr} {xs : List (Key × Sl)} (h : c a = some (.dic xs)) : TyS K c (.o a) (.type "dict")
  | ins {a C : Addr} {fs : List (Str × Sl)} (h : c a = some (.ins C fs)) (cl : Cls K C) (ha : PySem.W.findIn K (.ref C) "__class__" = some (some (.builtin "object.__class__")))
      (hn : PySem.W.specialIn K (.builtin "object.__class__") "__get__" = some (some (.builtin "getset_descriptor.__get__"))) (htk : PySem.W.takesIn K (.builtin "object.__class__") = some true)
      (hm : PySem.W.mroIn K C (.type "object") = some true) : TyS K c (.o a) (.ref C)
theorem TyS.ok {B H : Hp} {v : V} {t : Value} (R : RepC K B H c) (V1 : VOk K B v x) (h : TyS K c x t) : TyX K H v t := by
  cases h with
  | d t =>
    cases V1 with
    | non => exact .base .non
    | bl b => exact .base (.bl b)
    | int i => exact .base (.int i)
    | str z => exact .base (.str z)
    | lst a1 a2 => exact .base (.lst (R.bh _ _ a1))
    | tup a1 a2 => exact .base (.tup (R.bh _ _ a1))
    | dic a1 => exact .base (.dK (R.bh _ _ a1))
  | ol h =>
    cases V1
    obtain ⟨_, vs, g, _⟩ := R.ce _ _ h
    exact .base (.lst g)
  | ot h =>
    cases V1
    obtain ⟨_, vs, g, _⟩ := R.ce _ _ h
    exact .base (.tup g)
  | od h =>
    cases V1
    obtain ⟨_, vs, g, _⟩ := R.ce _ _ h
    exact .base (.dK g)
  | ins h cl ha hn htk hm =>
    cases V1
    obtain ⟨_, dx, gs, g, _⟩ := R.ce _ _ h
    exact .base (.ins g cl ha hn htk hm)
theorem rl_isi {t u : Value} {cv : V} {b : Bool} (ht : TyS K c x t) (hc : ClsV cv u) (hk : PySem.W.kitOne K t u = some b) (q : Q (.d (.bool b)) c) : RL K (rIsi K) [x, .v cv] c Q := fun B H us R V1 Qr k => by
  cases V1 with
  | cons v1 V2 =>
    cases V2 with
    | cons v2 V3 =>
      cases V3
      cases (show _ = cv from v2)
      exact ⟨_, _, t, u, b, rfl, hc, ht.ok R v1, hk, k _ B H (.d (.bool b)) c (Same.refl _) R (Td.bl b) q⟩
theorem rl_isiT {t : Value} {p : Addr} {cs : List V} {us : List Value} {b : Bool} (hp : c p = some (.tup (cs.map Sl.v))) (ht : TyS K c x t) (hc : Paired ClsV cs us) (hk : PySem.W.kitAny K t us = some b) (q : Q (.d (.bool b)) c) : RL K (rIsiT K) [x, .o p] c Q := fun B H vs R V1 Qr k => by
  cases V1 with
  | cons v1 V2 =>
    cases V2 with
    | cons v2 V3 =>
      cases V3
      cases (show _ = V.ref p from v2)
      obtain ⟨_, ws, g, W⟩ := R.ce p _ hp
      have e : ws = cs := by
        clear hk hc g hp
        induction cs generalizing ws with
        | nil => cases W; rfl
        | cons z zs ih =>
          cases W with
          | cons w1 W2 =>
            cases (show _ = z from w1)
            rw [ih _ W2]
      subst e
      exact ⟨_, p, ws, t, us, b, rfl, g, hc, ht.ok R v1, hk, k _ B H (.d (.bool b)) c (Same.refl _) R (Td.bl b) q⟩
/-! which built-in kind -/
def isB : PyData → Bool | .bool _ => true | _ => false
def isIB : PyData → Bool | .bool _ => true | .int _ => true | _ => false
def isS : PyData → Bool | .str _ => true | _ => false
def isL : PyData → Bool | .list _ => true | _ => false
def isT : PyData → Bool | .tuple _ => true | _ => false
theorem kit_int (t : PyData) : PySem.W.kitOne K (.type (tyName t)) (.type "int") = some (isIB t) := by
  cases t
  case none => exact kit_ty (show kitB "NoneType" "int" = some false by decide +kernel)
  case bool => exact kit_ty (show kitB "bool" "int" = some true by decide +kernel)
  case int => exact kit_ty (show kitB "int" "int" = some true by decide +kernel)
  case str => exact kit_ty (show kitB "str" "int" = some false by decide +kernel)
  case list => exact kit_ty (show kitB "list" "int" = some false by decide +kernel)
  case tuple => exact kit_ty (show kitB "tuple" "int" = some false by decide +kernel)
  case dict => exact kit_ty (show kitB "dict" "int" = some false by decide +kernel)
theorem kit_bool (t : PyData) : PySem.W.kitOne K (.type (tyName t)) (.type "bool") = some (isB t) := by
  cases t
  case none => exact kit_ty (show kitB "NoneType" "bool" = some false by decide +kernel)
  case bool => exact kit_ty (show kitB "bool" "bool" = some true by decide +kernel)
  case int => exact kit_ty (show kitB "int" "bool" = some false by decide +kernel)
  case str => exact kit_ty (show kitB "str" "bool" = some false by decide +kernel)
  case list => exact kit_ty (show kitB "list" "bool" = some false by decide +kernel)
  case tuple => exact kit_ty (show kitB "tuple" "bool" = some false by decide +kernel)
  case dict => exact kit_ty (show kitB "dict" "bool" = some false by decide +kernel)
theorem kit_str (t : PyData) : PySem.W.kitOne K (.type (tyName t)) (.type "str") = some (isS t) := by
  cases t
  case none => exact kit_ty (show kitB "NoneType" "str" = some false by decide +kernel)
  case bool => exact kit_ty (show kitB "bool" "str" = some false by decide +kernel)
  case int => exact kit_ty (show kitB "int" "str" = some false by decide +kernel)
  case str => exact kit_ty (show kitB "str" "str" = some true by decide +kernel)
  case list => exact kit_ty (show kitB "list" "str" = some false by decide +kernel)
  case tuple => exact kit_ty (show kitB "tuple" "str" = some false by decide +kernel)
  case dict => exact kit_ty (show kitB "dict" "str" = some false by decide +kernel)
theorem kit_list (t : PyData) : PySem.W.kitOne K (.type (tyName t)) (.type "list") = some (isL t) := by
  cases t
  case none => exact kit_ty (show kitB "NoneType" "list" = some false by decide +kernel)
  case bool => exact kit_ty (show kitB "bool" "list" = some false by decide +kernel)
  case int => exact kit_ty (show kitB "int" "list" = some false by decide +kernel)
  case str => exact kit_ty (show kitB "str" "list" = some false by decide +kernel)
  case list => exact kit_ty (show kitB "list" "list" = some true by decide +kernel)
  case tuple => exact kit_ty (show kitB "tuple" "list" = some false by decide +kernel)
  case dict => exact kit_ty (show kitB "dict" "list" = some false by decide +kernel)
theorem kit_tuple (t : PyData) : PySem.W.kitOne K (.type (tyName t)) (.type "tuple") = some (isT t) := by
  cases t
  case none => exact kit_ty (show kitB "NoneType" "tuple" = some false by decide +kernel)
  case bool => exact kit_ty (show kitB "bool" "tuple" = some false by decide +kernel)
  case int => exact kit_ty (show kitB "int" "tuple" = some false by decide +kernel)
  case str => exact kit_ty (show kitB "str" "tuple" = some false by decide +kernel)
  case list => exact kit_ty (show kitB "list" "tuple" = some false by decide +kernel)
  case tuple => exact kit_ty (show kitB "tuple" "tuple" = some true by decide +kernel)
  case dict => exact kit_ty (show kitB "dict" "tuple" = some false by decide +kernel)
/-! ### is None, is True .. -/
def isNone : Sl → Bool
  | .d .none => true
  | _ => false
theorem non_of {B : Hp} {v : V} (V1 : VOk K B v x) (hs : ∀ u, x ≠ .v u) : decide (v = .non) = isNone x := by
  cases x with
  | un => exact V1.elim
  | v u => exact absurd rfl (hs u)
  | o a => cases V1; rfl
  | s ns => obtain ⟨a, rfl, _⟩ := V1; rfl
  | d z => cases V1 <;> rfl
theorem r2_isN (hs : ∀ u, x ≠ .v u) (q : Q (.d (.bool (isNone x))) c) : R2 K (fun x y H Q => y = .non ∧ Q (.bl (decide (x = .non))) H) x (.d .none) c Q := fun B H v u R V1 V2 Qr k => by
  cases V2
  refine ⟨rfl, ?_⟩
  rw [non_of V1 hs]
  exact k _ B H (.d (.bool (isNone x))) c (Same.refl _) R (Td.bl _) q
theorem r2_notN (hs : ∀ u, x ≠ .v u) (q : Q (.d (.bool (!isNone x))) c) : R2 K (fun x y H Q => y = .non ∧ Q (.bl (!decide (x = .non))) H) x (.d .none) c Q := fun B H v u R V1 V2 Qr k => by
  cases V2
  refine ⟨rfl, ?_⟩
  rw [non_of V1 hs]
  exact k _ B H (.d (.bool (!isNone x))) c (Same.refl _) R (Td.bl _) q
theorem r2_isB {a b : Bool} (q : Q (.d (.bool (decide (a = b)))) c) : R2 K (fun x y H Q => ∃ a b, x = .bl a ∧ y = .bl b ∧ Q (.bl (decide (a = b))) H) (.d (.bool a)) (.d (.bool b)) c Q := fun B H v u R V1 V2 Qr k => by
  cases V1; cases V2
  exact ⟨a, b, rfl, rfl, k _ B H (.d (.bool _)) c (Same.refl _) R (Td.bl _) q⟩
theorem r2_isntB {a b : Bool} (q : Q (.d (.bool (!decide (a = b)))) c) : R2 K (fun x y H Q => ∃ a b, x = .bl a ∧ y = .bl b ∧ Q (.bl (!decide (a = b))) H) (.d (.bool a)) (.d (.bool b)) c Q := fun B H v u R V1 V2 Qr k => by
  cases V1; cases V2
  exact ⟨a, b, rfl, rfl, k _ B H (.d (.bool _)) c (Same.refl _) R (Td.bl _) q⟩
/-! ### str(a list, a tuple) -/
def rStrD (K : PySem.W.Frag) : List V → Hp → VK → Prop := fun xs H Q => ∃ x d, xs = [x] ∧ Dp K H x d ∧ PyProof.Rows.isDisplay d = true ∧ d.showable = true ∧ d.hasDict = false ∧ d.depth ≤ 60 ∧ d.shown.length ≤ sizeLine ∧ Q (.str d.shown) H
theorem call_strD {X : Cx} (g : X.A.guards = some []) (hu : X.A.units + 64 < cLine) : CallR X (.type "str") (rStrD X.K) := by
  intro pins s σ H xs us Q I r h
  obtain ⟨x, d, rfl, hd, h1, h2, h3, h4, h5, q⟩ := h
  obtain ⟨u, rfl, ru⟩ := vals1 r
  obtain ⟨as, rd⟩ := Dp.reads I d x u hd ru
  obtain ⟨a, rfl⟩ := PyProof.Rows.isRef_of_reads rd h1
  refine str_of_reads rd h2 (PyData.noDict_hsm h3) g (by omega) (fun _ _ e => e) (fun h' t tk hk => ?_) h5
  exact ⟨.str d.shown, H, I.kept hk, ⟨t, rfl⟩, q⟩
/-- a value as data at any depth, as it stands now -/
inductive SlT (c : Ce) : Sl → PyData → Prop
  | d (x : PyData) : SlT c (.d x) x
  | lst {a : Addr} {xs : List Sl} {ds : List PyData} : c a = some (.lst xs) → Paired (SlT c) xs ds → SlT c (.o a) (.list ds)
  | tup {a : Addr} {xs : List Sl} {ds : List PyData} : c a = some (.tup xs) → Paired (SlT c) xs ds → SlT c (.o a) (.tuple ds)
theorem slt_data {ds : List PyData} : Paired (SlT c) (ds.map Sl.d) ds := by
  induction ds with
  | nil => exact .nil
  | cons d ds ih => exact .cons (.d d) ih
mutual
theorem SlT.dp {B H : Hp} (R : RepC K B H c) : ∀ (d : PyData) (sl : Sl) (v : V), VOk K B v sl → d.hasDict = false → SlT c sl d → Dp K H v d
  | dd, .d x, v, V1, n, h => by cases h; exact td_dp _ _ n (dp_mono R.bh _ _ V1)
  | .list ds, .o a, v, V1, n, h => by
    cases h with
    | lst hc hp =>
      cases V1
      obtain ⟨_, us, h1, h2⟩ := R.ce _ _ hc
      exact .lst (SqL.of h1) (SlT.dpa R ds _ us h2 (by simpa only [PyData.hasDict] using n) hp)
  | .tuple ds, .o a, v, V1, n, h => by
    cases h with
    | tup hc hp =>
      cases V1
      obtain ⟨_, us, h1, h2⟩ := R.ce _ _ hc
      exact .tup (SqT.of h1) (SlT.dpa R ds _ us h2 (by simpa only [PyData.hasDict] using n) hp)
  | .none, .o a, _, _, _, h => by cases h
  | .bool _, .o a, _, _, _, h => by cases h
  | .int _, .o a, _, _, _, h => by cases h
  | .str _, .o a, _, _, _, h => by cases h
  | .dict _, .o a, _, _, _, h => by cases h
  | _, .un, _, _, _, h => by cases h
  | _, .v _, _, _, _, h => by cases h
  | _, .s _, _, _, _, h => by cases h
theorem SlT.dpa {B H : Hp} (R : RepC K B H c) : ∀ (ds : List PyData) (xs : List Sl) (us : List V), VOks K B us xs → PyData.hasDictAll ds = false → Paired (SlT c) xs ds → DpAll K H us ds
  | [], _, _, V1, _, h => by
    cases h
    cases V1
    exact .nil
  | dd :: ds, _, _, V1, n, h => by
    cases h with
    | cons h1 h2 =>
      cases V1 with
      | cons v1 V2 =>
        simp only [PyData.hasDictAll, Bool.or_eq_false_iff] at n
        exact .cons (SlT.dp R dd _ _ v1 n.1 h1) (SlT.dpa R ds _ _ V2 n.2 h2)
end
theorem rl_str {d : PyData} (hd : SlT c x d) (h1 : PyProof.Rows.isDisplay d = true) (h2 : d.showable = true) (h3 : d.hasDict = false) (h4 : d.depth ≤ 60) (h5 : d.shown.length ≤ sizeLine) (q : Q (.d (.str d.shown)) c) : RL K (rStrD K) [x] c Q := fun B H us R V1 Qr k => by
  cases V1 with
  | cons v1 V2 =>
    cases V2
    exact ⟨_, d, rfl, SlT.dp R d _ _ v1 h3 hd, h1, h2, h3, h4, h5, k _ B H (.d (.str _)) c (Same.refl _) R (Td.str _) q⟩
theorem r2_eqT {d1 d2 : PyData} (h1 : SlT c x d1) (h2 : SlT c y d2) (s1 : SeqAt.shaped d1 = true) (s2 : SeqAt.shaped d2 = true) (q : Q (.d (.bool (PyData.eqv d1 d2))) c) : R2 K (rEqD K) x y c Q := fun B H v u R V1 V2 Qr k =>
  ⟨d1, d2, SlT.dp R _ _ _ V1 (noDict s1) h1, SlT.dp R _ _ _ V2 (noDict s2) h2, s1, s2, k _ B H (.d (.bool (PyData.eqv d1 d2))) c (Same.refl _) R (Td.bl _) q⟩
theorem r2_neT {d1 d2 : PyData} (h1 : SlT c x d1) (h2 : SlT c y d2) (s1 : SeqAt.shaped d1 = true) (s2 : SeqAt.shaped d2 = true) (q : Q (.d (.bool (!PyData.eqv d1 d2))) c) : R2 K (rNeD K) x y c Q := fun B H v u R V1 V2 Qr k =>
  ⟨d1, d2, SlT.dp R _ _ _ V1 (noDict s1) h1, SlT.dp R _ _ _ V2 (noDict s2) h2, s1, s2, k _ B H (.d (.bool (!PyData.eqv d1 d2))) c (Same.refl _) R (Td.bl _) q⟩
/-! ### tuple(x) -/
theorem rl_tupleL {xs : List Sl} {ds : List PyData} (hx : lsrc x c = some xs) (hd : xs = ds.map Sl.d) (q : Q (.d (.tuple ds)) c) :
    RL K (fun xs H Q => ∃ p ys, xs = [V.ref p] ∧ ((SqL K H p ys ∧ ∀ l, H l = none → Q (.ref l) (upd H l (.tup ys))) ∨ (SqT K H p ys ∧ Q (.ref p) H))) [x] c Q := fun B H us R V1 Qr k => by
  cases V1 with
  | cons v1 V2 =>
    cases V2
    subst hd
    obtain ⟨a, vs, rfl, hs, W⟩ := lsrc_ok R v1 hx
    refine ⟨a, vs, rfl, .inl ⟨hs, fun p hp => ?_⟩⟩
    obtain ⟨R2, s2⟩ := R.tupAt (vs := vs) hp
    exact k _ _ _ (.d (.tuple ds)) c s2 R2 (.tup upd_same (dpa_mono s2 _ _ (VOks.data W))) q
/-! ### dicts with keys that are ints or texts -/
def keyOf : Sl → Option Key
  | .d (.int i) => some (.inl i)
  | .d (.str z) => some (.inr z)
  | _ => none
theorem keyOf_ok {B : Hp} {v : V} {k : Key} (V1 : VOk K B v x) (h : keyOf x = some k) : v = kV k := by
  unfold keyOf at h
  split at h
  · cases h; cases V1; rfl
  · cases h; cases V1; rfl
  · cases h
def valS (kvs : List (Key × Sl)) (k : Key) : Option Sl := (kvs.find? fun kv => decide (kv.1 = k)).map (·.2)
def putD (kvs : List (Key × Sl)) (k : Key) (v : Sl) : List (Key × Sl) :=
  if (kvs.any fun kv => decide (kv.1 = k)) = true then kvs.map (fun kv => if kv.1 = k then (kv.1, v) else kv) else kvs ++ [(k, v)]
theorem koks_val {B : Hp} {k : Key} : ∀ {ws : List (Key × V)} {kvs : List (Key × Sl)}, KOks K B ws kvs → (∀ sl, valS kvs k = some sl → ∃ v, valV ws k = some v ∧ VOk K B v sl) ∧ (valS kvs k = none → valV ws k = none)
  | _, _, .nil => ⟨fun _ h => (by cases h), fun _ => rfl⟩
  | (g, v) :: ws, (g', s) :: kvs, .cons r t => by
    obtain ⟨r1, r2⟩ := r
    have r1 : g = g' := r1
    subst r1
    have ih := koks_val (k := k) t
    unfold valS valV
    rw [List.find?_cons, List.find?_cons]
    by_cases z : g = k
    · have d : decide (g = k) = true := decide_eq_true z
      simp only [d]
      exact ⟨fun sl h => (by cases h; exact ⟨v, rfl, r2⟩), fun h => (by cases h)⟩
    · have d : decide (g = k) = false := decide_eq_false z
      simp only [d]
      exact ih
theorem koks_any {B : Hp} {k : Key} : ∀ {ws : List (Key × V)} {kvs : List (Key × Sl)}, KOks K B ws kvs → (ws.any fun kv => decide (kv.1 = k)) = (kvs.any fun kv => decide (kv.1 = k))
  | _, _, .nil => rfl
  | (g, v) :: ws, (g', s) :: kvs, .cons r t => by
    obtain ⟨r1, r2⟩ := r
    have r1 : g = g' := r1
    subst r1
    rw [List.any_cons, List.any_cons, koks_any t]
theorem koks_map {B : Hp} {k : Key} {v : V} (hv : VOk K B v x) : ∀ {ws : List (Key × V)} {kvs : List (Key × Sl)}, KOks K B ws kvs → KOks K B (ws.map fun kv => if kv.1 = k then (kv.1, v) else kv) (kvs.map fun kv => if kv.1 = k then (kv.1, x) else kv)
  | _, _, .nil => .nil
  | (g, u) :: ws, (g', s) :: kvs, .cons r t => by
    obtain ⟨r1, r2⟩ := r
    have r1 : g = g' := r1
    subst r1
    rw [List.map_cons, List.map_cons]
    refine .cons ?_ (koks_map hv t)
    by_cases z : g = k
    · simp only [if_pos z]; exact ⟨trivial, hv⟩
    · simp only [if_neg z]; exact ⟨trivial, r2⟩
theorem koks_put {B : Hp} {k : Key} {v : V} {ws : List (Key × V)} {kvs : List (Key × Sl)} (h : KOks K B ws kvs) (hv : VOk K B v x) : KOks K B (putK ws k v) (putD kvs k x) := by
  unfold putK putD
  rw [koks_any h]
  split
  · exact koks_map hv h
  · exact paired_append h (.cons ⟨rfl, hv⟩ .nil)
theorem koks_len {B : Hp} {ws : List (Key × V)} {kvs : List (Key × Sl)} (h : KOks K B ws kvs) : ws.length = kvs.length := paired_len h
theorem re_dnew (h : ∀ p, c p = none → Q (.o p) (cu c p (.dic []))) : RE K E QX tDNewK e c Q := fun B H σ R X Qr k => fun p hp =>
  k _ B _ (.o p) _ (Same.refl _) (R.to (Same.refl _) (R.c.own (x := .dic []) hp ⟨[], upd_same, .nil⟩)) rfl (h p (R.c.fresh hp).2)
theorem re_dget {td ty : TE} (h : RE K E QX td e c fun x c1 => RE K E QX ty e c1 fun y c2 => ∃ a kvs k sl, x = .o a ∧ c2 a = some (.dic kvs) ∧ keyOf y = some k ∧ valS kvs k = some sl ∧ Q sl c2) : RE K E QX (tDGet td ty) e c Q := fun B H σ R X Qr k =>
  h B H σ R X _ fun v B1 H1 x c1 s1 R1 V1 h1 => h1 B1 H1 σ R1 (X.mono s1) _ fun u B2 H2 y c2 s2 R2 V2 ⟨a, kvs, kk, sl, hx, hc, hk, hv, q⟩ => by
    subst hx
    cases V1
    obtain ⟨_, ws, g1, g2⟩ := R2.c.ce a _ hc
    obtain ⟨w, h3, h4⟩ := (koks_val g2).1 sl hv
    refine ⟨a, w, rfl, ?_, k w B2 H2 sl c2 (s1.trans s2) R2 h4 q⟩
    rw [keyOf_ok V2 hk, ← h3]
    exact DGet.k g1
theorem re_din {td ty : TE} (h : RE K E QX ty e c fun y c1 => RE K E QX td e c1 fun x c2 => ∃ a kvs k, x = .o a ∧ c2 a = some (.dic kvs) ∧ keyOf y = some k ∧ Q (.d (.bool (valS kvs k).isSome)) c2) : RE K E QX (tDIn ty td) e c Q := fun B H σ R X Qr k =>
  h B H σ R X _ fun u B1 H1 y c1 s1 R1 V1 h1 => h1 B1 H1 σ R1 (X.mono s1) _ fun v B2 H2 x c2 s2 R2 V2 ⟨a, kvs, kk, hx, hc, hk, q⟩ => by
    subst hx
    cases V2
    obtain ⟨_, ws, g1, g2⟩ := R2.c.ce a _ hc
    refine ⟨a, valV ws kk, rfl, ?_, ?_⟩
    · rw [keyOf_ok V1 hk]; exact DGet.k g1
    · have e : (valV ws kk).isSome = (valS kvs kk).isSome := by
        cases z : valS kvs kk with
        | none => rw [(koks_val g2).2 z]; rfl
        | some sl => obtain ⟨w, h3, _⟩ := (koks_val g2).1 sl z; rw [h3]; rfl
      rw [e]
      exact k _ B2 H2 (.d (.bool _)) c2 (s1.trans s2) R2 (Td.bl _) q
theorem re_dnotin {td ty : TE} (h : RE K E QX ty e c fun y c1 => RE K E QX td e c1 fun x c2 => ∃ a kvs k, x = .o a ∧ c2 a = some (.dic kvs) ∧ keyOf y = some k ∧ Q (.d (.bool (!(valS kvs k).isSome))) c2) : RE K E QX (tDNotIn ty td) e c Q := fun B H σ R X Qr k =>
  h B H σ R X _ fun u B1 H1 y c1 s1 R1 V1 h1 => h1 B1 H1 σ R1 (X.mono s1) _ fun v B2 H2 x c2 s2 R2 V2 ⟨a, kvs, kk, hx, hc, hk, q⟩ => by
    subst hx
    cases V2
    obtain ⟨_, ws, g1, g2⟩ := R2.c.ce a _ hc
    refine ⟨a, valV ws kk, rfl, ?_, ?_⟩
    · rw [keyOf_ok V1 hk]; exact DGet.k g1
    · have e : (valV ws kk).isSome = (valS kvs kk).isSome := by
        cases z : valS kvs kk with
        | none => rw [(koks_val g2).2 z]; rfl
        | some sl => obtain ⟨w, h3, _⟩ := (koks_val g2).1 sl z; rw [h3]; rfl
      rw [e]
      exact k _ B2 H2 (.d (.bool _)) c2 (s1.trans s2) R2 (Td.bl _) q
theorem rs_dput {td ty tv : TE} {k : KS} (h : RE K E QX tv e c fun v c1 => RE K E QX td e c1 fun x c2 => RE K E QX ty e c2 fun y c3 => ∃ a kvs kk, x = .o a ∧ c3 a = some (.dic kvs) ∧ keyOf y = some kk ∧ kvs.length < sizeLine ∧ k.nx e (cu c3 a (.dic (putD kvs kk v)))) :
    RS K E QX (sDPut td ty tv) e c k := fun B H σ R X D o =>
  h B H σ R X _ fun vv B1 H1 v c1 s1 R1 V1 h1 => h1 B1 H1 σ R1 (X.mono s1) _ fun vx B2 H2 x c2 s2 R2 V2 h2 => h2 B2 H2 σ R2 (X.mono (s1.trans s2)) _ fun vy B3 H3 y c3 s3 R3 V3 ⟨a, kvs, kk, hx, hc, hk, hl, q⟩ => by
    subst hx
    cases V2
    obtain ⟨_, ws, g1, g2⟩ := R3.c.ce a _ hc
    have W := V1.mono (s2.trans s3)
    refine ⟨a, _, rfl, ?_, o.nx B3 _ σ e _ ((s1.trans s2).trans s3) (R3.to (Same.refl _) (R3.c.set (o := .dK (putK ws kk vv)) (x := .dic (putD kvs kk v)) hc ⟨_, upd_same, koks_put g2 W⟩)) q⟩
    rw [keyOf_ok V3 hk]
    exact DPut.k g1 (by rw [koks_len g2]; exact hl)
end
end Sy
/-! Sy5: loops and comprehensions over typed lists. -/
namespace Sy
open PySem L2

section
variable {K : PySem.W.Frag} {E : XK} {QX : XQ} {te ta tb tl tm : TE} {t : TS} {e e' : List Sl} {c c' : Ce} {i j : Nat} {sl x y : Sl} {Q : SK} {k : KS} {vs : List Nat} {g : TG}
theorem SlD.ty {d : PyData} (h : SlD c sl d) (hs : ∀ ns, sl ≠ .s ns) : TyS K c sl (.type (tyName d)) := by
  cases h with
  | d x => exact .d _
  | lst h => exact .ol h
  | tup h => exact .ot h
  | s ns => exact absurd rfl (hs ns)
theorem SlD.nun {d : PyData} (h : SlD c sl d) : sl ≠ .un := by
  cases h <;> intro z <;> cases z
theorem SlD.src {ds : List PyData} (h : SlD c sl (.list ds)) : lsrc sl c = some (ds.map Sl.d) := by
  cases h with
  | d x => rfl
  | lst h => exact lsrc_o h
  | s ns =>
    show some (ns.map fun n => Sl.d (.int n)) = _
    rw [List.map_map]; rfl
theorem SlD.tsrc {ds : List PyData} (h : SlD c sl (.tuple ds)) : tsrc sl c = some (ds.map Sl.d) := by
  cases h with
  | d x => rfl
  | tup h => exact tsrc_o h
theorem SlD.more {d : PyData} (h : SlD c sl d) (m : ∀ a x, c a = some x → c' a = some x) : SlD c' sl d := by
  cases h with
  | d x => exact .d _
  | lst h => exact .lst (m _ _ h)
  | tup h => exact .tup (m _ _ h)
  | s ns => exact .s ns
theorem lsrc_more {xs : List Sl} (h : lsrc sl c = some xs) (m : ∀ a x, c a = some x → c' a = some x) : lsrc sl c' = some xs := by
  unfold lsrc at h ⊢
  cases sl with
  | un => cases h
  | v x => cases h
  | s ns => exact h
  | d x => cases x <;> first | exact h | cases h
  | o a =>
    dsimp only at h ⊢
    cases q : c a with
    | none => rw [q] at h; cases h
    | some z => rw [q] at h; rw [m a z q]; exact h
theorem wL_of {xs : List Sl} (h : lsrc sl c = some xs) : wL sl i c = some ((xs.map Itm.one)[i]?) := by
  unfold wL; rw [h, List.getElem?_map]; rfl
theorem wE_of {xs : List Sl} (h : lsrc sl c = some xs) : wE sl i c = some ((xs.mapIdx fun i x => Itm.tup [.d (.int (i : Nat)), x])[i]?) := by
  unfold wE; rw [h, List.getElem?_mapIdx]; rfl
theorem wZ_of {xs ys : List Sl} {sm : Sl} (h : lsrc sl c = some xs) (h' : lsrc sm c = some ys) : wZ sl sm i c = some ((List.zipWith (fun x y => Itm.tup [x, y]) xs ys)[i]?) := by
  unfold wZ
  rw [h, h']
  show some _ = some _
  rw [List.getElem?_zipWith]
  cases xs[i]? <;> cases ys[i]? <;> rfl
theorem wR_of {lo : Int} {n : Nat} : wR lo n i c = some (((List.range n).map fun i => Itm.one (.d (.int (lo + (i : Nat)))))[i]?) := by
  unfold wR
  rw [List.getElem?_map]
  by_cases h : i < n
  · rw [if_pos h, List.getElem?_range h]; rfl
  · rw [if_neg h, List.getElem?_eq_none (by simpa using Nat.le_of_not_lt h)]; rfl
theorem bt {X Y : Prop} (h : X) : (true = true → X) ∧ (true = false → Y) := ⟨fun _ => h, fun z => (by cases z)⟩
theorem bf {X Y : Prop} (h : Y) : (false = true → X) ∧ (false = false → Y) := ⟨fun z => (by cases z), fun _ => h⟩
theorem bb {b : Bool} {X Y : Prop} (h1 : b = true → X) (h2 : b = false → Y) : (b = true → X) ∧ (b = false → Y) := ⟨h1, h2⟩
theorem exb {b : Bool} {R : Bool → Prop} (h : R b) : ∃ b', Sl.d (.bool b) = Sl.d (.bool b') ∧ R b' := ⟨b, rfl, h⟩
theorem exi {n : Int} {R : Int → Prop} (h : R n) : ∃ m, Sl.d (.int n) = Sl.d (.int m) ∧ R m := ⟨n, rfl, h⟩
theorem rl_lenL {ds : List PyData} (hx : SlD c x (.list ds)) (q : Q (.d (.int (ds.length : Nat))) c) : RL K (fun xs H Q => ∃ p ys, xs = [V.ref p] ∧ (SqL K H p ys ∨ SqT K H p ys) ∧ Q (.int ys.length) H) [x] c Q :=
  rl_len (.inl hx.src) (by rw [List.length_map]; exact q)
theorem rl_lenT {ds : List PyData} (hx : SlD c x (.tuple ds)) (q : Q (.d (.int (ds.length : Nat))) c) : RL K (fun xs H Q => ∃ p ys, xs = [V.ref p] ∧ (SqL K H p ys ∨ SqT K H p ys) ∧ Q (.int ys.length) H) [x] c Q :=
  rl_len (.inr hx.tsrc) (by rw [List.length_map]; exact q)
/-! ### for -/
theorem rs_forL {α : Type} (l : List α) (emb : α → Sl) (Iv : Nat → List Sl → Ce → Prop) (h : RE K E QX tl e c fun x c1 => Iv 0 e c1 ∧ (∀ i e c, i ≤ l.length → Iv i e c → lsrc x c = some (l.map emb)) ∧
    (∀ (i : Nat) (a : α) e c, l[i]? = some a → Iv i e c → RGm K E QX g (.one (emb a)) e c fun e2 c2 => RS K E QX t e2 c2 { k with nx := Iv (i + 1), ct := Iv (i + 1), bk := k.nx }) ∧ (∀ e c, Iv l.length e c → k.nx e c)) :
    RS K E QX (tFor (iList K tl) g t) e c k := by
  refine rs_forX (ri_list fun B H σ R X Qr kk => h B H σ R X Qr fun v B1 H1 x c1 s1 R1 V1 ⟨h0, hf, hs, hd⟩ => kk v B1 H1 x c1 s1 R1 V1 ⟨⟨_, hf 0 e c1 (Nat.zero_le _) h0⟩, ?_⟩)
  refine ⟨(l.map emb).map Itm.one, Iv, h0, fun i e c hi w => wL_of (hf i e c (by simpa using hi) w), fun i e c m hm w => ?_, fun e c w => hd e c (by simpa using w)⟩
  rw [List.map_map, List.getElem?_map] at hm
  cases q : l[i]? with
  | none => rw [q] at hm; cases hm
  | some a => rw [q] at hm; cases hm; exact hs i a e c q w
theorem rs_forE {α : Type} (l : List α) (emb : α → Sl) (Iv : Nat → List Sl → Ce → Prop) (h : RE K E QX tl e c fun x c1 => Iv 0 e c1 ∧ (∀ i e c, i ≤ l.length → Iv i e c → lsrc x c = some (l.map emb)) ∧
    (∀ (i : Nat) (a : α) e c, l[i]? = some a → Iv i e c → RGm K E QX g (.tup [.d (.int (i : Nat)), emb a]) e c fun e2 c2 => RS K E QX t e2 c2 { k with nx := Iv (i + 1), ct := Iv (i + 1), bk := k.nx }) ∧ (∀ e c, Iv l.length e c → k.nx e c)) :
    RS K E QX (tFor (iEnum K (tCons tl tNil)) g t) e c k := by
  refine rs_forX (ri_enum fun B H σ R X Qr kk => h B H σ R X Qr fun v B1 H1 x c1 s1 R1 V1 ⟨h0, hf, hs, hd⟩ => kk v B1 H1 x c1 s1 R1 V1 ⟨⟨_, hf 0 e c1 (Nat.zero_le _) h0⟩, ?_⟩)
  refine ⟨(l.map emb).mapIdx fun i x => Itm.tup [.d (.int (i : Nat)), x], Iv, h0, fun i e c hi w => wE_of (hf i e c (by simpa using hi) w), fun i e c m hm w => ?_, fun e c w => hd e c (by simpa using w)⟩
  rw [List.getElem?_mapIdx, List.getElem?_map] at hm
  cases q : l[i]? with
  | none => rw [q] at hm; cases hm
  | some a => rw [q] at hm; cases hm; exact hs i a e c q w
theorem rs_forZ {α β : Type} (l : List α) (m : List β) (emb : α → Sl) (emc : β → Sl) (Iv : Nat → List Sl → Ce → Prop) (h : RE K E QX tl e c fun x c1 => RE K E QX tm e c1 fun y c2 => Iv 0 e c2 ∧
    (∀ i e c, i ≤ min l.length m.length → Iv i e c → lsrc x c = some (l.map emb) ∧ lsrc y c = some (m.map emc)) ∧
    (∀ (i : Nat) (a : α) (b : β) e c, l[i]? = some a → m[i]? = some b → Iv i e c → RGm K E QX g (.tup [emb a, emc b]) e c fun e2 c2 => RS K E QX t e2 c2 { k with nx := Iv (i + 1), ct := Iv (i + 1), bk := k.nx }) ∧ (∀ e c, Iv (min l.length m.length) e c → k.nx e c)) :
    RS K E QX (tFor (iZip K (tCons tl (tCons tm tNil))) g t) e c k := by
  refine rs_forX (ri_zip fun B H σ R X Qr kk => h B H σ R X Qr fun v B1 H1 x c1 s1 R1 V1 hh => kk v B1 H1 x c1 s1 R1 V1 fun B H σ R X Qr kk => hh B H σ R X Qr fun v B1 H1 y c2 s1 R1 V1 ⟨h0, hf, hs, hd⟩ => kk v B1 H1 y c2 s1 R1 V1 ?_)
  obtain ⟨z1, z2⟩ := hf 0 e c2 (Nat.zero_le _) h0
  refine ⟨⟨_, z1⟩, ⟨_, z2⟩, List.zipWith (fun x y => Itm.tup [x, y]) (l.map emb) (m.map emc), Iv, h0, fun i e c hi w => ?_, fun i e c mm hm w => ?_, fun e c w => hd e c (by simpa using w)⟩
  · obtain ⟨y1, y2⟩ := hf i e c (by simpa using hi) w
    exact wZ_of y1 y2
  · rw [List.getElem?_zipWith, List.getElem?_map, List.getElem?_map] at hm
    cases q : l[i]? with
    | none => rw [q] at hm; cases hm
    | some a =>
      cases r : m[i]? with
      | none => rw [q, r] at hm; cases hm
      | some b => rw [q, r] at hm; cases hm; exact hs i a b e c q r w
theorem rs_forR {tn : TE} (n : Nat) (Iv : Nat → List Sl → Ce → Prop) (h : RE K E QX tn e c fun x c1 => x = .d (.int (n : Int)) ∧ n < 2 ^ 62 ∧ Iv 0 e c1 ∧
    (∀ (i : Nat) e c, i < n → Iv i e c → RGm K E QX g (.one (.d (.int (i : Int)))) e c fun e2 c2 => RS K E QX t e2 c2 { k with nx := Iv (i + 1), ct := Iv (i + 1), bk := k.nx }) ∧ (∀ e c, Iv n e c → k.nx e c)) :
    RS K E QX (tFor (iRng1 (tCons tn tNil)) g t) e c k := by
  refine rs_forX (ri_rng1 fun B H σ R X Qr kk => h B H σ R X Qr fun v B1 H1 x c1 s1 R1 V1 ⟨hx, hn, h0, hs, hd⟩ => kk v B1 H1 x c1 s1 R1 V1 ⟨(n : Int), hx, by omega, by omega, ?_⟩)
  refine ⟨(List.range n).map fun i => Itm.one (.d (.int (0 + (i : Nat)))), Iv, h0, fun i e c hi w => by rw [wR_of, Int.toNat_natCast], fun i e c m hm w => ?_, fun e c w => hd e c (by simpa using w)⟩
  rw [List.getElem?_map] at hm
  by_cases q : i < n
  · rw [List.getElem?_range q] at hm
    cases hm
    dsimp only
    rw [Int.zero_add]
    exact hs i e c q w
  · rw [List.getElem?_eq_none (by simpa using Nat.le_of_not_lt q)] at hm; cases hm
/-! ### comprehensions, no test, nothing else touched -/
theorem rn_lcL {α : Type} (l : List α) (emb G : α → Sl) {QN : List Sl → Ce → Prop} (h : RE K E QX tl e c fun x c1 => lsrc x c1 = some (l.map emb) ∧ l.length ≤ 100000 ∧
    (∀ (D : Addr) (acc : List Sl) (a : α), c1 D = none → a ∈ l → RGW K vs g (.one (emb a)) (wipeS e vs) (cu c1 D (.lst acc)) fun e2 c2 => RE K E0 X0 te e2 c2 fun y' c4 => y' = G a ∧ c4 = cu c1 D (.lst acc)) ∧ QN (l.map G) c1) :
    RN K E QX (tLc (iList K tl) g tYes te vs) e c QN := by
  refine rn_lcM (ri_list fun B H σ R X Qr kk => h B H σ R X Qr fun v B1 H1 x c1 s1 R1 V1 ⟨hx, hl, hs, q⟩ => kk v B1 H1 x c1 s1 R1 V1 ⟨⟨_, hx⟩, ?_⟩)
  refine ⟨(l.map emb).map Itm.one, l.map G, fun i c' m => wL_of (lsrc_more hx m), by simp, by simpa using hl, fun D acc i m y hD hm hy => ?_, q⟩
  rw [List.map_map, List.getElem?_map] at hm
  rw [List.getElem?_map] at hy
  cases r : l[i]? with
  | none => rw [r] at hm; cases hm
  | some a =>
    rw [r] at hm hy
    cases hm
    cases hy
    exact hs D acc a hD (List.mem_of_getElem? r)
theorem rn_lcE {α : Type} (l : List α) (emb : α → Sl) (G : Nat → α → Sl) {QN : List Sl → Ce → Prop} (h : RE K E QX tl e c fun x c1 => lsrc x c1 = some (l.map emb) ∧ l.length ≤ 100000 ∧
    (∀ (D : Addr) (acc : List Sl) (i : Nat) (a : α), c1 D = none → l[i]? = some a → RGW K vs g (.tup [.d (.int (i : Nat)), emb a]) (wipeS e vs) (cu c1 D (.lst acc)) fun e2 c2 => RE K E0 X0 te e2 c2 fun y' c4 => y' = G i a ∧ c4 = cu c1 D (.lst acc)) ∧ QN (l.mapIdx G) c1) :
    RN K E QX (tLc (iEnum K (tCons tl tNil)) g tYes te vs) e c QN := by
  refine rn_lcM (ri_enum fun B H σ R X Qr kk => h B H σ R X Qr fun v B1 H1 x c1 s1 R1 V1 ⟨hx, hl, hs, q⟩ => kk v B1 H1 x c1 s1 R1 V1 ⟨⟨_, hx⟩, ?_⟩)
  refine ⟨(l.map emb).mapIdx fun i x => Itm.tup [.d (.int (i : Nat)), x], l.mapIdx G, fun i c' m => wE_of (lsrc_more hx m), by simp, by simpa using hl, fun D acc i m y hD hm hy => ?_, q⟩
  rw [List.getElem?_mapIdx, List.getElem?_map] at hm
  rw [List.getElem?_mapIdx] at hy
  cases r : l[i]? with
  | none => rw [r] at hm; cases hm
  | some a =>
    rw [r] at hm hy
    cases hm
    cases hy
    exact hs D acc i a hD r
theorem rn_lcZ {α β : Type} (l : List α) (m : List β) (emb : α → Sl) (emc : β → Sl) (G : α → β → Sl) {QN : List Sl → Ce → Prop} (h : RE K E QX tl e c fun x c1 => RE K E QX tm e c1 fun y c2 => lsrc x c2 = some (l.map emb) ∧ lsrc y c2 = some (m.map emc) ∧ l.length ≤ 100000 ∧
    (∀ (D : Addr) (acc : List Sl) (i : Nat) (a : α) (b : β), c2 D = none → l[i]? = some a → m[i]? = some b → RGW K vs g (.tup [emb a, emc b]) (wipeS e vs) (cu c2 D (.lst acc)) fun e2 c3 => RE K E0 X0 te e2 c3 fun y' c4 => y' = G a b ∧ c4 = cu c2 D (.lst acc)) ∧ QN (List.zipWith G l m) c2) :
    RN K E QX (tLc (iZip K (tCons tl (tCons tm tNil))) g tYes te vs) e c QN := by
  refine rn_lcM (ri_zip fun B H σ R X Qr kk => h B H σ R X Qr fun v B1 H1 x c1 s1 R1 V1 hh => kk v B1 H1 x c1 s1 R1 V1 fun B H σ R X Qr kk => hh B H σ R X Qr fun v B1 H1 y c2 s1 R1 V1 ⟨hx, hy, hl, hs, q⟩ => kk v B1 H1 y c2 s1 R1 V1 ⟨⟨_, hx⟩, ⟨_, hy⟩, ?_⟩)
  refine ⟨List.zipWith (fun x y => Itm.tup [x, y]) (l.map emb) (m.map emc), List.zipWith G l m, fun i c' mm => wZ_of (lsrc_more hx mm) (lsrc_more hy mm), by simp, ?_, fun D acc i mm yy hD hm hyy => ?_, q⟩
  · simp only [List.length_zipWith, List.length_map]; omega
  rw [List.getElem?_zipWith, List.getElem?_map, List.getElem?_map] at hm
  rw [List.getElem?_zipWith] at hyy
  cases r : l[i]? with
  | none => rw [r] at hm; cases hm
  | some a =>
    cases r2 : m[i]? with
    | none => rw [r, r2] at hm; cases hm
    | some b =>
      rw [r, r2] at hm hyy
      cases hm
      cases hyy
      exact hs D acc i a b hD r r2
theorem rn_lcR {tn : TE} (n : Nat) (G : Nat → Sl) {QN : List Sl → Ce → Prop} (h : RE K E QX tn e c fun x c1 => x = .d (.int (n : Int)) ∧ n ≤ 100000 ∧
    (∀ (D : Addr) (acc : List Sl) (i : Nat), c1 D = none → i < n → RGW K vs g (.one (.d (.int (i : Int)))) (wipeS e vs) (cu c1 D (.lst acc)) fun e2 c2 => RE K E0 X0 te e2 c2 fun y' c4 => y' = G i ∧ c4 = cu c1 D (.lst acc)) ∧ QN ((List.range n).map G) c1) :
    RN K E QX (tLc (iRng1 (tCons tn tNil)) g tYes te vs) e c QN := by
  refine rn_lcM (ri_rng1 fun B H σ R X Qr kk => h B H σ R X Qr fun v B1 H1 x c1 s1 R1 V1 ⟨hx, hl, hs, q⟩ => kk v B1 H1 x c1 s1 R1 V1 ⟨(n : Int), hx, by omega, by omega, ?_⟩)
  refine ⟨(List.range n).map fun i => Itm.one (.d (.int (0 + (i : Nat)))), (List.range n).map G, fun i c' m => by rw [wR_of, Int.toNat_natCast], by simp, by simpa using hl, fun D acc i m y hD hm hy => ?_, q⟩
  rw [List.getElem?_map] at hm hy
  by_cases r : i < n
  · rw [List.getElem?_range r] at hm hy
    cases hm
    cases hy
    dsimp only
    rw [Int.zero_add]
    exact hs D acc i hD r
  · rw [List.getElem?_eq_none (by simpa using Nat.le_of_not_lt r)] at hm; cases hm
end
end Sy
/-! Sy6: rules that name the fragment K as a thing of its own. -/
namespace Sy
open PySem L2
section
variable {X : Cx} {KK : PySem.W.Frag}
theorem kAdd (eK : X.K = KK := by rfl) : OpR X (binaryOp .Add) (rAddU KK) := by
  subst eK
  exact op_addU
theorem kMul (eK : X.K = KK := by rfl) : OpR X (binaryOp .Mult) (rMulU KK) := by
  subst eK
  exact op_mulU
theorem kEq (hu : X.A.units + 64 < cLine) (eK : X.K = KK := by rfl) : OpR X (compareOp .Eq) (rEqD KK) := by
  subst eK
  exact op_eqD hu
theorem kNe (hu : X.A.units + 64 < cLine) (eK : X.K = KK := by rfl) : OpR X (compareOp .NotEq) (rNeD KK) := by
  subst eK
  exact op_neD hu
theorem kIx (eK : X.K = KK := by rfl) : IxR X (rIx KK) := by
  subst eK
  exact ix_seq
theorem kSl (eK : X.K = KK := by rfl) : SlR X (rSlU KK) := by
  subst eK
  exact sl_U
theorem kIsi (eK : X.K = KK := by rfl) : CallR X (.builtin "isinstance") (rIsi KK) := by
  subst eK
  exact call_isi
theorem kIsiT (eK : X.K = KK := by rfl) : CallR X (.builtin "isinstance") (rIsiT KK) := by
  subst eK
  exact call_isiT
theorem kLen (eK : X.K = KK := by rfl) : CallR X (.builtin "len") (fun xs H Q => ∃ p ys, xs = [.ref p] ∧ (SqL KK H p ys ∨ SqT KK H p ys) ∧ Q (.int ys.length) H) := by
  subst eK
  exact call_len_seq
theorem kList (eK : X.K = KK := by rfl) : CallR X (.type "list") (fun xs H Q => ∃ p ys, xs = [.ref p] ∧ (SqL KK H p ys ∨ SqT KK H p ys) ∧ ∀ l, H l = none → Q (.ref l) (upd H l (.lst ys))) := by
  subst eK
  exact call_list_of
theorem kTuple (eK : X.K = KK := by rfl) : CallR X (.type "tuple") (fun xs H Q => ∃ p ys, xs = [.ref p] ∧ ((SqL KK H p ys ∧ ∀ l, H l = none → Q (.ref l) (upd H l (.tup ys))) ∨ (SqT KK H p ys ∧ Q (.ref p) H))) := by
  subst eK
  exact call_tuple_of
theorem kSum (hc : X.calm = true) (eK : X.K = KK := by rfl) : CallR X (.builtin "sum") (rSum KK) := by
  subst eK
  exact cr_sum hc
theorem kAll (hc : X.calm = true) (eK : X.K = KK := by rfl) : CallR X (.builtin "all") (rAll KK) := by
  subst eK
  exact cr_all hc
theorem kAny (hc : X.calm = true) (eK : X.K = KK := by rfl) : CallR X (.builtin "any") (rAny KK) := by
  subst eK
  exact cr_any hc
theorem kMin (hc : X.calm = true) (eK : X.K = KK := by rfl) : CallR X (.builtin "min") (rMin KK) := by
  subst eK
  exact cr_min hc
theorem kMax (hc : X.calm = true) (eK : X.K = KK := by rfl) : CallR X (.builtin "max") (rMax KK) := by
  subst eK
  exact cr_max hc
theorem kStr (g : X.A.guards = some []) (hu : X.A.units + 64 < cLine) (eK : X.K = KK := by rfl) : CallR X (.type "str") (rStrD KK) := by
  subst eK
  exact call_strD g hu
theorem kFld {e : Expr} {f : Str} {pos : Pos} {ta : TE} (he : PE X e ta) (hb : attributeBase e f X.env (eval e X.env) = eval e X.env) (eK : X.K = KK := by rfl) : PE X (.Attribute e f pos) (tFld KK ta f) := by
  subst eK
  exact pe_fld he hb
theorem kIn (eK : X.K = KK := by rfl) : OpR X (compareOp .In) (rIn KK false) := by
  subst eK
  exact op_in_seq
theorem kNotIn (eK : X.K = KK := by rfl) : OpR X (compareOp .NotIn) (rIn KK true) := by
  subst eK
  exact op_notIn_seq
theorem kInD (hu : X.A.units + 65 < cLine) (eK : X.K = KK := by rfl) : OpR X (compareOp .In) (rInD KK) := by
  subst eK
  exact op_inD hu
theorem kNotInD (hu : X.A.units + 65 < cLine) (eK : X.K = KK := by rfl) : OpR X (compareOp .NotIn) (rNotInD KK) := by
  subst eK
  exact op_notInD hu
theorem kIList {l tg : Expr} {tl : TE} (hl : PE X l tl) (eK : X.K = KK := by rfl) : PI X tg l (iList KK tl) := by
  subst eK
  exact pi_list hl
theorem kITup {l tg : Expr} {tl : TE} (hl : PE X l tl) (eK : X.K = KK := by rfl) : PI X tg l (iTup KK tl) := by
  subst eK
  exact pi_tup hl
theorem kIEnum {e : Expr} {ta : TA} {p pos tpos : Pos} {elts : List Expr} {kk : Nat} (hg : Gl X "enumerate") (hm : X.mg "enumerate" = none) (ha : PA X [e] ta) (hs : starEach [e] X.env = [(false, eval e X.env)] := by rfl) (eK : X.K = KK := by rfl) : PI X (.Tuple elts kk tpos) (.Call (.Name "enumerate" p) [e] [] pos) (iEnum KK ta) := by
  subst eK
  exact pi_enum hg hm ha hs
theorem kIZip {e e2 : Expr} {ta : TA} {p pos tpos : Pos} {elts : List Expr} {kk : Nat} (hg : Gl X "zip") (hm : X.mg "zip" = none) (ha : PA X [e, e2] ta) (hs : starEach [e, e2] X.env = (false, eval e X.env) :: starEach [e2] X.env := by rfl) (hpl : (backTo pos (starEach [e2] X.env)).any (·.1) = false := by rfl) (eK : X.K = KK := by rfl) : PI X (.Tuple elts kk tpos) (.Call (.Name "zip" p) [e, e2] [] pos) (iZip KK ta) := by
  subst eK
  exact pi_zip hg hm ha hs hpl
theorem kGTup {es : List Expr} {k : Nat} {pos : Pos} {t : TGs} {n : Nat} (hc : X.calm = true) (h : PGs X es t) (hn : (assignEach es X.env).length = n := by rfl) (hst : (assignEach es X.env).findIdx? (·.1) = none := by rfl) (eK : X.K = KK := by rfl) : PG X (.Tuple es k pos) (gTup KK n t) := by
  subst eK
  exact pg_tup hc h hn hst
theorem kAppend {o e : Expr} {es : List Expr} {to : TE} {t : TA} {apos cpos : Pos} (ho : PE X o to) (ha : PA X (e :: es) t) (hbase : attributeBase o "append" X.env (eval o X.env) = eval o X.env := by rfl) (hfew : ((backTo cpos (starEach (e :: es) X.env)).all (fun x => !x.1) && (backToKw cpos (keywordEach [] X.env)).all (fun x => x.1.isSome) && decide ((e :: es).length + ([] : List Keyword).length + (if ([] : List Keyword).isEmpty then 0 else 1) < 30)) = true := by rfl) (hline : (apos.endLine == cpos.line) = true := by rfl) (hs : starEach (e :: es) X.env = (false, eval e X.env) :: starEach es X.env := by rfl) (hplain : (backTo cpos (starEach es X.env)).any (·.1) = false := by rfl) (eK : X.K = KK := by rfl) : PE X (.Call (.Attribute o "append" apos) (e :: es) [] cpos) (tBM KK "list" rAppend to t) := by
  subst eK
  exact pe_bm PySem.F.plainAttrs_list PySem.F.slot_list_append PySem.F.type_list_append mt_append ho ha hbase hfew hline hs hplain
end
end Sy
/-! Sy7: short cuts of the walk. -/
namespace Sy
open PySem L2
section
variable {K : PySem.W.Frag} {E : XK} {QX : XQ} {c : Ce} {x y : Sl} {Q : SK}
theorem atI_of {xs : List Sl} {i : Nat} (h : xs[i]? = some y) : atI xs (i : Int) = some y := by
  have hi : i < xs.length := (List.getElem?_eq_some_iff.mp h).1
  have e : ixN xs.length (i : Int) = some i := by simp [ixN, hi]
  show (ixN xs.length (i : Int)).bind _ = _
  rw [e]
  exact h
theorem ix_t0 {a : PyData} {r : List PyData} (q : Q (.d a) c) : R2 K (rIx K) (.d (.tuple (a :: r))) (.d (.int 0)) c Q := r2_ix (.inr (r2_ixT rfl (y := .d a) (atI_of (i := 0) rfl) q))
theorem ix_t1 {a b : PyData} {r : List PyData} (q : Q (.d b) c) : R2 K (rIx K) (.d (.tuple (a :: b :: r))) (.d (.int 1)) c Q := r2_ix (.inr (r2_ixT rfl (y := .d b) (atI_of (i := 1) rfl) q))
theorem ix_t2 {a b d : PyData} {r : List PyData} (q : Q (.d d) c) : R2 K (rIx K) (.d (.tuple (a :: b :: d :: r))) (.d (.int 2)) c Q := r2_ix (.inr (r2_ixT rfl (y := .d d) (atI_of (i := 2) rfl) q))
theorem ix_t3 {a b d f : PyData} {r : List PyData} (q : Q (.d f) c) : R2 K (rIx K) (.d (.tuple (a :: b :: d :: f :: r))) (.d (.int 3)) c Q := r2_ix (.inr (r2_ixT rfl (y := .d f) (atI_of (i := 3) rfl) q))
theorem eqv_int (m n : Int) : PyData.eqv (.int m) (.int n) = decide (m = n) := by simp [PyData.eqv]; rfl
theorem eqi {m n : Int} (q : Q (.d (.bool (decide (m = n)))) c) : R2 K (rEqD K) (.d (.int m)) (.d (.int n)) c Q := r2_eq (.d _) (.d _) rfl rfl (by rw [eqv_int]; exact q)
theorem nei {m n : Int} (q : Q (.d (.bool (!decide (m = n)))) c) : R2 K (rNeD K) (.d (.int m)) (.d (.int n)) c Q := r2_ne (.d _) (.d _) rfl rfl (by rw [eqv_int]; exact q)
/-- an item of a typed list by a place within -/
theorem ix_l {ds : List PyData} {i : Nat} {d : PyData} (hx : SlD c x (.list ds)) (hi : ds[i]? = some d) (q : Q (.d d) c) : R2 K (rIx K) x (.d (.int (i : Nat))) c Q :=
  r2_ix (.inl (r2_ixL hx.src (atI_of (by rw [List.getElem?_map, hi]; rfl)) q))
theorem ix_o {a : Addr} {xs : List Sl} {i : Nat} (hx : c a = some (.lst xs)) (hi : xs[i]? = some y) (q : Q y c) : R2 K (rIx K) (.o a) (.d (.int (i : Nat))) c Q :=
  r2_ix (.inl (r2_ixL (lsrc_o hx) (atI_of hi) q))
theorem u65 {A : Around} {k : Nat} (r : Room k A) : A.units + 65 < cLine := by have := r.un; omega
theorem r2_in {d : PyData} {ds : List PyData} (h1 : SlD c x d) (h2 : SlD c y (.list ds)) (s1 : SeqAt.shaped d = true) (s2 : SeqAt.shaped (.list ds) = true) (q : Q (.d (.bool (ds.any fun z => PyData.eqv z d))) c) : R2 K (rInD K) x y c Q := fun B H v u R V1 V2 Qr k =>
  ⟨d, ds, h1.dp R V1 (noDict s1), h2.dp R V2 (noDict s2), s1, s2, k _ B H (.d (.bool (ds.any fun z => PyData.eqv z d))) c (Same.refl _) R (Td.bl _) q⟩
theorem eqv_str (m n : Str) : PyData.eqv (.str m) (.str n) = decide (m = n) := by simp [PyData.eqv]; rfl
theorem eqs {m n : Str} (a : SeqAt.shaped (.str m) = true) (b : SeqAt.shaped (.str n) = true) (q : Q (.d (.bool (decide (m = n)))) c) : R2 K (rEqD K) (.d (.str m)) (.d (.str n)) c Q := r2_eq (.d _) (.d _) a b (by rw [eqv_str]; exact q)
theorem nes {m n : Str} (a : SeqAt.shaped (.str m) = true) (b : SeqAt.shaped (.str n) = true) (q : Q (.d (.bool (!decide (m = n)))) c) : R2 K (rNeD K) (.d (.str m)) (.d (.str n)) c Q := r2_ne (.d _) (.d _) a b (by rw [eqv_str]; exact q)
theorem isN {d : PyData} (q : Q (.d (.bool (isNone (.d d)))) c) : R2 K (fun x y H Q => y = .non ∧ Q (.bl (decide (x = .non))) H) (.d d) (.d .none) c Q := r2_isN (fun _ h => by cases h) q
theorem notN {d : PyData} (q : Q (.d (.bool (!isNone (.d d)))) c) : R2 K (fun x y H Q => y = .non ∧ Q (.bl (!decide (x = .non))) H) (.d d) (.d .none) c Q := r2_notN (fun _ h => by cases h) q
theorem rs_to {t : TS} {e : List Sl} {k : KS} (P : List Sl → Ce → Prop) (h : RS K E QX t e c { k with nx := P }) (w : ∀ e c, P e c → k.nx e c) : RS K E QX t e c k := fun B H σ R X D o =>
  h B H σ R X D ⟨fun B1 H1 σ1 e1 c1 s1 R1 q => o.nx B1 H1 σ1 e1 c1 s1 R1 (w _ _ q), o.rt, o.bk, o.ct⟩
theorem re_to {t : TE} {e : List Sl} (P : SK) (h : RE K E QX t e c P) (w : ∀ x c, P x c → Q x c) : RE K E QX t e c Q := fun B H σ R X Qr k =>
  h B H σ R X Qr fun v B1 H1 x c1 s1 R1 V1 q => k v B1 H1 x c1 s1 R1 V1 (w _ _ q)
theorem rt_to {t : TT} {e : List Sl} {Q : Bool → Ce → Prop} (P : Bool → Ce → Prop) (h : RT K E QX t e c P) (w : ∀ x c, P x c → Q x c) : RT K E QX t e c Q := fun B H σ R X Qr k =>
  h B H σ R X Qr fun b B1 H1 c1 s1 R1 q => k b B1 H1 c1 s1 R1 (w _ _ q)
theorem rgs_map {e : List Sl} {Q : List Sl → Ce → Prop} {g : TG} {gs : TGs} {d : PyData} {ds : List PyData} (h : RG K E QX g (.d d) e c fun e1 c1 => RGs K E QX gs (ds.map Sl.d) e1 c1 Q) : RGs K E QX (gCons g gs) ((d :: ds).map Sl.d) e c Q := rgs_cons h
theorem rgs_map0 {e : List Sl} {Q : List Sl → Ce → Prop} (q : Q e c) : RGs K E QX gNil (([] : List PyData).map Sl.d) e c Q := rgs_nil q
theorem rgws_map {vs : List Nat} {i : Nat} {e : List Sl} {Q : List Sl → Ce → Prop} {gs : TGs} {d : PyData} {ds : List PyData} (hi : i ∈ vs) (h : RGWs K vs gs (ds.map Sl.d) (e.set i (.d d)) c Q) : RGWs K vs (gCons (gName i) gs) ((d :: ds).map Sl.d) e c Q := rgws_name hi h
theorem rgws_map0 {vs : List Nat} {e : List Sl} {Q : List Sl → Ce → Prop} (q : Q e c) : RGWs K vs gNil (([] : List PyData).map Sl.d) e c Q := rgws_nil q
theorem noG {P : Program} {w : World} {mg : Str → Option Value} {base : Heap} {lev : Nat} {f : Addr} {fd : FuncData} {ps : List Str} : FnG P w K mg base lev f fd ps (spOf K ps.length fun _ _ _ _ => False) :=
  ⟨fun _ _ _ _ h => h.1, fun _ _ _ _ _ _ _ _ _ _ _ _ _ _ ⟨_, _, _, _, _, _, _, _, no, _⟩ => no.elim⟩
theorem dm1 {x0 : PyData} {R : List PyData → Prop} (h : R [x0]) : ∃ ds : List PyData, [Sl.d x0] = ds.map Sl.d ∧ ds.length ≤ 100000 ∧ R ds := ⟨[x0], rfl, by simp, h⟩
theorem dl1 {x0 : PyData} {R : List PyData → Prop} (h : R [x0]) : [Sl.d x0].length ≤ 100000 ∧ ∃ ds : List PyData, [Sl.d x0] = ds.map Sl.d ∧ R ds := ⟨by simp, [x0], rfl, h⟩
theorem dm2 {x0 x1 : PyData} {R : List PyData → Prop} (h : R [x0, x1]) : ∃ ds : List PyData, [Sl.d x0, Sl.d x1] = ds.map Sl.d ∧ ds.length ≤ 100000 ∧ R ds := ⟨[x0, x1], rfl, by simp, h⟩
theorem dl2 {x0 x1 : PyData} {R : List PyData → Prop} (h : R [x0, x1]) : [Sl.d x0, Sl.d x1].length ≤ 100000 ∧ ∃ ds : List PyData, [Sl.d x0, Sl.d x1] = ds.map Sl.d ∧ R ds := ⟨by simp, [x0, x1], rfl, h⟩
theorem dm3 {x0 x1 x2 : PyData} {R : List PyData → Prop} (h : R [x0, x1, x2]) : ∃ ds : List PyData, [Sl.d x0, Sl.d x1, Sl.d x2] = ds.map Sl.d ∧ ds.length ≤ 100000 ∧ R ds := ⟨[x0, x1, x2], rfl, by simp, h⟩
theorem dl3 {x0 x1 x2 : PyData} {R : List PyData → Prop} (h : R [x0, x1, x2]) : [Sl.d x0, Sl.d x1, Sl.d x2].length ≤ 100000 ∧ ∃ ds : List PyData, [Sl.d x0, Sl.d x1, Sl.d x2] = ds.map Sl.d ∧ R ds := ⟨by simp, [x0, x1, x2], rfl, h⟩
theorem dm4 {x0 x1 x2 x3 : PyData} {R : List PyData → Prop} (h : R [x0, x1, x2, x3]) : ∃ ds : List PyData, [Sl.d x0, Sl.d x1, Sl.d x2, Sl.d x3] = ds.map Sl.d ∧ ds.length ≤ 100000 ∧ R ds := ⟨[x0, x1, x2, x3], rfl, by simp, h⟩
theorem dl4 {x0 x1 x2 x3 : PyData} {R : List PyData → Prop} (h : R [x0, x1, x2, x3]) : [Sl.d x0, Sl.d x1, Sl.d x2, Sl.d x3].length ≤ 100000 ∧ ∃ ds : List PyData, [Sl.d x0, Sl.d x1, Sl.d x2, Sl.d x3] = ds.map Sl.d ∧ R ds := ⟨by simp, [x0, x1, x2, x3], rfl, h⟩
theorem dm5 {x0 x1 x2 x3 x4 : PyData} {R : List PyData → Prop} (h : R [x0, x1, x2, x3, x4]) : ∃ ds : List PyData, [Sl.d x0, Sl.d x1, Sl.d x2, Sl.d x3, Sl.d x4] = ds.map Sl.d ∧ ds.length ≤ 100000 ∧ R ds := ⟨[x0, x1, x2, x3, x4], rfl, by simp, h⟩
theorem dl5 {x0 x1 x2 x3 x4 : PyData} {R : List PyData → Prop} (h : R [x0, x1, x2, x3, x4]) : [Sl.d x0, Sl.d x1, Sl.d x2, Sl.d x3, Sl.d x4].length ≤ 100000 ∧ ∃ ds : List PyData, [Sl.d x0, Sl.d x1, Sl.d x2, Sl.d x3, Sl.d x4] = ds.map Sl.d ∧ R ds := ⟨by simp, [x0, x1, x2, x3, x4], rfl, h⟩
theorem dm6 {x0 x1 x2 x3 x4 x5 : PyData} {R : List PyData → Prop} (h : R [x0, x1, x2, x3, x4, x5]) : ∃ ds : List PyData, [Sl.d x0, Sl.d x1, Sl.d x2, Sl.d x3, Sl.d x4, Sl.d x5] = ds.map Sl.d ∧ ds.length ≤ 100000 ∧ R ds := ⟨[x0, x1, x2, x3, x4, x5], rfl, by simp, h⟩
theorem dl6 {x0 x1 x2 x3 x4 x5 : PyData} {R : List PyData → Prop} (h : R [x0, x1, x2, x3, x4, x5]) : [Sl.d x0, Sl.d x1, Sl.d x2, Sl.d x3, Sl.d x4, Sl.d x5].length ≤ 100000 ∧ ∃ ds : List PyData, [Sl.d x0, Sl.d x1, Sl.d x2, Sl.d x3, Sl.d x4, Sl.d x5] = ds.map Sl.d ∧ R ds := ⟨by simp, [x0, x1, x2, x3, x4, x5], rfl, h⟩
theorem dl0 {R : List PyData → Prop} (h : R []) : ([] : List Sl).length ≤ 100000 ∧ ∃ ds : List PyData, ([] : List Sl) = ds.map Sl.d ∧ R ds := ⟨by simp, [], rfl, h⟩
theorem rs_forR_ {tn : TE} {g : TG} {t : TS} {e : List Sl} {k : KS} (h : RE K E QX tn e c fun x c1 => ∃ (n : Nat) (Iv : Nat → List Sl → Ce → Prop), x = .d (.int (n : Int)) ∧ n < 2 ^ 62 ∧ Iv 0 e c1 ∧
    (∀ (i : Nat) e c, i < n → Iv i e c → RGm K E QX g (.one (.d (.int (i : Int)))) e c fun e2 c2 => RS K E QX t e2 c2 { k with nx := Iv (i + 1), ct := Iv (i + 1), bk := k.nx }) ∧ (∀ e c, Iv n e c → k.nx e c)) :
    RS K E QX (tFor (iRng1 (tCons tn tNil)) g t) e c k := by
  refine rs_forX (ri_rng1 fun B H σ R X Qr kk => h B H σ R X Qr fun v B1 H1 x c1 s1 R1 V1 ⟨n, Iv, hx, hn, h0, hs, hd⟩ => kk v B1 H1 x c1 s1 R1 V1 ⟨(n : Int), hx, by omega, by omega, ?_⟩)
  refine ⟨(List.range n).map fun i => Itm.one (.d (.int (0 + (i : Nat)))), Iv, h0, fun i e c hi w => by rw [wR_of, Int.toNat_natCast], fun i e c m hm w => ?_, fun e c w => hd e c (by simpa using w)⟩
  rw [List.getElem?_map] at hm
  by_cases q : i < n
  · rw [List.getElem?_range q] at hm
    cases hm
    dsimp only
    rw [Int.zero_add]
    exact hs i e c q w
  · rw [List.getElem?_eq_none (by simpa using Nat.le_of_not_lt q)] at hm; cases hm
theorem ix_ints {l : List Int} {n : Int} (h0 : 0 ≤ n) (h1 : n < l.length) (q : ∀ p ∈ l, Q (.d (.int p)) c) : R2 K (rIx K) (.d (.tuple (l.map PyData.int))) (.d (.int n)) c Q := by
  obtain ⟨i, rfl⟩ : ∃ i : Nat, n = (i : Int) := ⟨n.toNat, by omega⟩
  have hi : i < l.length := by omega
  exact r2_ix (.inr (r2_ixT rfl (y := .d (.int l[i])) (atI_of (by rw [List.getElem?_map, List.getElem?_map, List.getElem?_eq_getElem hi]; rfl)) (q _ (List.getElem_mem hi))))
end
end Sy
/-! Sy8: xs[::-1], a call by one of some methods. -/
namespace Sy
open PySem L2 PyProof.Rows
theorem fmap_of {α β : Type} {f : α → Option β} {g : α → β} : ∀ {l : List α}, (∀ k ∈ l, f k = some (g k)) → l.filterMap f = l.map g
  | [], _ => rfl
  | k :: l, h => by
    rw [List.filterMap_cons, h k (by simp), List.map_cons, fmap_of fun k hk => h k (by simp [hk])]
theorem slicePick_rev (its : List Value) : slicePick its.toArray none none (some (-1)) = its.reverse.toArray := by
  have e : sliceBounds none none (some (-1)) its.toArray.size = ((its.length : Int) - 1, -1, -1) := by
    simp [sliceBounds]
  unfold slicePick
  rw [e]
  congr 1
  have c : sliceRange ((its.length : Int) - 1) (-1) (-1) = (List.range its.length).map fun k => its.length - 1 - k := by
    unfold sliceRange
    have n : (if (-1 : Int) > 0 then (if ((its.length : Int) - 1) < -1 then (-1 - ((its.length : Int) - 1) + -1 - 1) / -1 else 0) else (if ((its.length : Int) - 1) > -1 then (((its.length : Int) - 1) - -1 - -1 - 1) / (- -1) else 0)).toNat = its.length := by
      rw [if_neg (by decide)]
      split
      · rw [Int.neg_neg, Int.ediv_one]; omega
      · omega
    dsimp only
    rw [n]
    refine List.map_congr_left fun k _ => ?_
    omega
  rw [c]
  refine List.ext_getElem? fun i => ?_
  rw [List.filterMap_map]
  have g : (List.range its.length).filterMap ((fun x => its.toArray[x]?) ∘ fun k => its.length - 1 - k) = its.reverse := by
    refine List.ext_getElem? fun i => ?_
    have m : (List.range its.length).filterMap ((fun x => its.toArray[x]?) ∘ fun k => its.length - 1 - k) = (List.range its.length).map fun k => its.getD (its.length - 1 - k) .none := by
      refine fmap_of fun k hk => ?_
      have hk : k < its.length := List.mem_range.mp hk
      have : its.length - 1 - k < its.length := by omega
      simp [this]
    rw [m, List.getElem?_map]
    by_cases h : i < its.length
    · rw [List.getElem?_range h, List.getElem?_reverse h]
      have : its.length - 1 - i < its.length := by omega
      simp [this]
    · rw [List.getElem?_eq_none (by simpa using Nat.le_of_not_lt h), List.getElem?_eq_none (by simpa using Nat.le_of_not_lt h)]
      rfl
  rw [g]
def tRev (K : PySem.W.Frag) (te th : TE) : TE := fun σ H Q => te σ H fun x H1 => th σ H1 fun y H2 => y = .int (-1) ∧ ∃ a xs, x = .ref a ∧ SqL K H2 a xs ∧ ∀ p, H2 p = none → Q (.ref p) (upd H2 p (.lst xs.reverse))
theorem paired_revA {α β : Type} {R : α → β → Prop} : ∀ {xs : List α} {ys : List β}, Paired R xs ys → Paired R xs.reverse ys.reverse
  | _, _, .nil => .nil
  | _, _, .cons h t => by
    rw [List.reverse_cons, List.reverse_cons]
    exact paired_append (paired_revA t) (.cons h .nil)
section
variable {X : Cx} {KK : PySem.W.Frag}
theorem pe_rev {e stp : Expr} {te th : TE} {pos p2 : Pos} (he : PE X e te) (hs : PE X stp th) (eK : X.K = KK := by rfl) : PE X (.Subscript e (.Slice none none (some stp) p2) pos) (tRev KK te th) := by
  subst eK
  refine ⟨fun pins s σ H Q I h => ?_⟩
  refine Subscript_ (thn (he.run pins s σ H _ I h) fun v s1 ⟨x, H1, I1, r1, q1⟩ => ?_)
  refine wpAny_Slice ?_
  rw [evalPart_none]
  refine wpAny_pure ?_
  refine wpAny_pure ?_
  rw [evalPart_some]
  refine thn (hs.run pins s1 σ H1 _ I1 q1) fun u s2 ⟨y, H2, I2, ry, ey, a, xs, ex, hx, q⟩ => ?_
  subst ey ex
  obtain ⟨t, rfl⟩ := ry
  cases r1
  have I4 : Inv X pins σ H2 { s2 with heap := s2.heap.push { cls := .type "slice", data := .fields #[.none, .none, .int (-1) t] } } := I2.kept (t' := s2.toks) fun b ob q => Heap.get?_push_of_some _ q
  obtain ⟨its, r, ht, hz⟩ := I4.list hx
  have hg : wpAny (model X.prog X.w) X.A (getItem (.ref a) (.ref s2.heap.objs.size)) (EP X pins σ Q) X.xe { s2 with heap := s2.heap.push { cls := .type "slice", data := .fields #[.none, .none, .int (-1) t] } } := by
    refine wpAny_getItem_list_slice ht.isList (Heap.IsSliceOf.new ..) .none .none (.int _ _) (by simp) ?_ (by rw [List.size_toArray, ← r.length] <;> exact hz)
    rw [slicePick_rev]
    refine ⟨.ref _, _, I4.laid (t' := s2.toks) (o := .lst xs.reverse) (fun b ob q => Heap.get?_push_of_some _ q) (Nat.le_refl _) ?_, rfl, q _ (I4.hok.fresh (Nat.le_refl _))⟩
    exact ⟨by rw [List.length_reverse]; exact hz, _, 0, paired_revA r, Heap.get?_push_size _ rfl⟩
  show wpAny (model X.prog X.w) X.A (subscriptTail e (.Slice none none (some stp) p2) (.ref a) (.ref s2.heap.objs.size)) (EP X pins σ Q) X.xe { s2 with heap := s2.heap.push { cls := .type "slice", data := .fields #[.none, .none, .int (-1) t] } }
  exact tail_any (ops := [.ref a, .ref s2.heap.objs.size]) ht.isList.typeIs PySem.F.slot_list_getitem.lookup hg rfl
/-- x not in t, t a tuple of any flat data -/
def rNotInT (K : PySem.W.Frag) : L2.R2 := fun x y H Q => ∃ d ds, Dp K H x d ∧ Dp K H y (.tuple ds) ∧ d.plain = true ∧ PyData.plainAll ds = true ∧ d.depth ≤ 60 ∧ Q (.bl (!ds.any fun z => PyData.eqv z d)) H
theorem kNotInT (hu : X.A.units + 64 < cLine) (eK : X.K = KK := by rfl) : OpR X (compareOp .NotIn) (rNotInT KK) := by
  subst eK
  intro pins s σ H x y v u Q I rx ry h
  obtain ⟨d, ds, hd, he, pd, ps, dd, q⟩ := h
  obtain ⟨as, r1⟩ := Dp.reads I d x v hd rx
  obtain ⟨bs, r2⟩ := Dp.reads I (.tuple ds) y u he ry
  exact SeqAt.notIn_tuple_data r2 r1 ps pd (by omega) ⟨.bl _, H, I, rfl, q⟩
def tOr2 (t1 t2 : TE) : TE := fun σ H Q => t1 σ H Q ∨ t2 σ H Q
theorem pe_or {e : Expr} {t1 t2 : TE} (h1 : PE X e t1) (h2 : PE X e t2) : PE X e (tOr2 t1 t2) :=
  ⟨fun pins s σ H Q I h => h.elim (h1.run pins s σ H Q I) (h2.run pins s σ H Q I)⟩
end
section
variable {K : PySem.W.Frag} {E : XK} {QX : XQ} {c : Ce} {x y : Sl} {Q : SK} {e : List Sl} {te th t1 t2 : TE}
theorem rn_rev {QN : List Sl → Ce → Prop} (h : RE K E QX te e c fun x c1 => RE K E QX th e c1 fun y c2 => y = .d (.int (-1)) ∧ ∃ xs, lsrc x c2 = some xs ∧ QN xs.reverse c2) : RN K E QX (tRev K te th) e c QN := fun B H σ R X Qr k =>
  h B H σ R X _ fun v B1 H1 x c1 s1 R1 V1 h1 => h1 B1 H1 σ R1 (X.mono s1) _ fun u B2 H2 y c2 s2 R2 V2 ⟨hy, xs, hx, q⟩ => by
    subst hy
    cases V2
    obtain ⟨a, vs, rfl, hs, W⟩ := lsrc_ok R2.c (V1.mono s2) hx
    refine ⟨rfl, a, vs, rfl, hs, laid (QN := QN) R2.c (paired_revA W) q ?_⟩
    intro p B3 H3 us zs c3 s3 R3 nb nc l W3 q3
    exact k p B3 H3 us zs c3 ((s1.trans s2).trans s3) (R2.to s3 R3) nb nc l W3 q3
theorem re_o1 (h : RE K E QX t1 e c Q) : RE K E QX (tOr2 t1 t2) e c Q := fun B H σ R X Qr k => .inl (h B H σ R X Qr k)
theorem re_o2 (h : RE K E QX t2 e c Q) : RE K E QX (tOr2 t1 t2) e c Q := fun B H σ R X Qr k => .inr (h B H σ R X Qr k)
theorem eqv_bool (m n : Bool) : PyData.eqv (.bool m) (.bool n) = decide (m = n) := by cases m <;> cases n <;> rfl
theorem eqb {m n : Bool} (q : Q (.d (.bool (decide (m = n)))) c) : R2 K (rEqD K) (.d (.bool m)) (.d (.bool n)) c Q := r2_eq (.d _) (.d _) rfl rfl (by rw [eqv_bool]; exact q)
theorem neb {m n : Bool} (q : Q (.d (.bool (!decide (m = n)))) c) : R2 K (rNeD K) (.d (.bool m)) (.d (.bool n)) c Q := r2_ne (.d _) (.d _) rfl rfl (by rw [eqv_bool]; exact q)
theorem RepC.less {B H : Hp} {c c' : Ce} (R : RepC K B H c) (m : ∀ b y, c' b = some y → c b = some y) : RepC K B H c' := ⟨R.bh, fun b y z => R.ce b y (m b y z)⟩
theorem re_forget {te : TE} (h : RE K E QX te e c fun x c1 => ∃ c2, (∀ b y, c2 b = some y → c1 b = some y) ∧ Q x c2) : RE K E QX te e c Q := fun B H σ R X Qr k =>
  h B H σ R X _ fun v B1 H1 x c1 s1 R1 V1 ⟨c2, m, q⟩ => k v B1 H1 x c2 s1 ⟨R1.c.less m, R1.e⟩ V1 q
theorem rs_forget {t : TS} {k : KS} (P : List Sl → Ce → Prop) (h : RS K E QX t e c { k with nx := P }) (w : ∀ e c, P e c → ∃ c2, (∀ b y, c2 b = some y → c b = some y) ∧ k.nx e c2) : RS K E QX t e c k := fun B H σ R X D o =>
  h B H σ R X D ⟨fun B1 H1 σ1 e1 c1 s1 R1 q => by
    obtain ⟨c2, m, q2⟩ := w _ _ q
    exact o.nx B1 H1 σ1 e1 c2 s1 ⟨R1.c.less m, R1.e⟩ q2, o.rt, o.bk, o.ct⟩
theorem rs_forgetR {t : TS} {k : KS} (h : RS K E QX t e c { k with rt := fun x c1 => ∃ c2, (∀ b y, c2 b = some y → c1 b = some y) ∧ k.rt x c2 }) : RS K E QX t e c k := fun B H σ R X D o =>
  h B H σ R X D ⟨o.nx, fun v B1 H1 x c1 s1 R1 V1 ⟨c2, m, q2⟩ => o.rt v B1 H1 x c2 s1 (R1.less m) V1 q2, o.bk, o.ct⟩
theorem r2_notInT {d : PyData} {ds : List PyData} (h1 : SlD c x d) (h2 : SlD c y (.tuple ds)) (s1 : SeqAt.shaped d = true) (s2 : SeqAt.shaped (.tuple ds) = true) (p1 : d.plain = true) (p2 : PyData.plainAll ds = true) (dd : d.depth ≤ 60)
    (q : Q (.d (.bool (!ds.any fun z => PyData.eqv z d))) c) : R2 K (rNotInT K) x y c Q := fun B H v u R V1 V2 Qr k =>
  ⟨d, ds, h1.dp R V1 (noDict s1), h2.dp R V2 (noDict s2), p1, p2, dd, k _ B H (.d (.bool (!ds.any fun z => PyData.eqv z d))) c (Same.refl _) R (Td.bl _) q⟩
theorem kitAny2 {t u1 u2 : Value} {b1 b2 : Bool} (h1 : PySem.W.kitOne K t u1 = some b1) (h2 : PySem.W.kitOne K t u2 = some b2) : PySem.W.kitAny K t [u1, u2] = some (b1 || b2) := by
  unfold PySem.W.kitAny
  rw [h1]
  cases b1
  · unfold PySem.W.kitAny
    rw [h2]
    cases b2
    · rfl
    · rfl
  · rfl
end
end Sy
/-! Sy9: loops over written tuples, lists of numbers. -/
namespace Sy
open PySem L2
section
variable {K : PySem.W.Frag} {E : XK} {QX : XQ} {c : Ce} {x y sl : Sl} {Q : SK} {e : List Sl} {te tl : TE} {t : TS} {g : TG} {k : KS} {vs : List Nat}
theorem wT_of {xs : List Sl} {i : Nat} (h : tsrc sl c = some xs) : wT sl i c = some ((xs.map Itm.one)[i]?) := by
  simp [wT, h]
theorem rs_forT (h : RE K E QX tl e c fun x c1 => ∃ (ds : List PyData) (Iv : Nat → List Sl → Ce → Prop), x = .d (.tuple ds) ∧ Iv 0 e c1 ∧
    (∀ (i : Nat) (d : PyData) e c, ds[i]? = some d → Iv i e c → RGm K E QX g (.one (.d d)) e c fun e2 c2 => RS K E QX t e2 c2 { k with nx := Iv (i + 1), ct := Iv (i + 1), bk := k.nx }) ∧ (∀ e c, Iv ds.length e c → k.nx e c)) :
    RS K E QX (tFor (iTup K tl) g t) e c k := by
  refine rs_forX (ri_tup fun B H σ R X Qr kk => h B H σ R X Qr fun v B1 H1 x c1 s1 R1 V1 ⟨ds, Iv, hx, h0, hs, hd⟩ => kk v B1 H1 x c1 s1 R1 V1 ⟨⟨ds.map .d, by rw [hx]; rfl⟩, ?_⟩)
  refine ⟨(ds.map Sl.d).map Itm.one, Iv, h0, fun i e c hi w => wT_of (by rw [hx]; rfl), fun i e c m hm w => ?_, fun e c w => hd e c (by simpa using w)⟩
  rw [List.map_map, List.getElem?_map] at hm
  cases q : ds[i]? with
  | none => rw [q] at hm; cases hm
  | some a => rw [q] at hm; cases hm; exact hs i a e c q w
theorem rn_lcT {QN : List Sl → Ce → Prop} (h : RE K E QX tl e c fun x c1 => ∃ (ds : List PyData) (G : PyData → Sl), x = .d (.tuple ds) ∧ ds.length ≤ 100000 ∧
    (∀ (D : Addr) (acc : List Sl) (a : PyData), c1 D = none → a ∈ ds → RGW K vs g (.one (.d a)) (wipeS e vs) (cu c1 D (.lst acc)) fun e2 c2 => RE K E0 X0 te e2 c2 fun y' c4 => y' = G a ∧ c4 = cu c1 D (.lst acc)) ∧ QN (ds.map G) c1) :
    RN K E QX (tLc (iTup K tl) g tYes te vs) e c QN := by
  refine rn_lcM (ri_tup fun B H σ R X Qr kk => h B H σ R X Qr fun v B1 H1 x c1 s1 R1 V1 ⟨ds, G, hx, hl, hs, q⟩ => kk v B1 H1 x c1 s1 R1 V1 ⟨⟨ds.map .d, by rw [hx]; rfl⟩, ?_⟩)
  refine ⟨(ds.map Sl.d).map Itm.one, ds.map G, fun i c' m => wT_of (by rw [hx]; rfl), by simp, by simpa using hl, fun D acc i m y hD hm hy => ?_, q⟩
  rw [List.map_map, List.getElem?_map] at hm
  rw [List.getElem?_map] at hy
  cases r : ds[i]? with
  | none => rw [r] at hm; cases hm
  | some a =>
    rw [r] at hm hy
    cases hm
    cases hy
    exact hs D acc a hD (List.mem_of_getElem? r)
theorem ints_shaped (ws : List Int) : SeqAt.shaped (.list (ws.map .int)) = true := by
  have h1 : ∀ l : List Int, PyData.canLayAll0 (l.map PyData.int) = true := by
    intro l
    induction l with
    | nil => rfl
    | cons s r ih =>
      rw [List.map_cons]
      simp only [PyData.canLayAll0, PyData.canLay0, ih, Bool.and_true]
  have h2 : ∀ l : List Int, PyData.depthAll (l.map PyData.int) = 0 := by
    intro l
    induction l with
    | nil => rfl
    | cons s r ih =>
      rw [List.map_cons]
      simp [PyData.depthAll, PyData.depth, ih]
  simp only [SeqAt.shaped, PyData.canLay0, h1, Bool.true_and, decide_eq_true_eq, PyData.depth, h2]
  omega
theorem ints_eqv (ws : List Int) : PyData.eqv (.list (ws.map .int)) (.list (ws.map .int)) = true := SeqAt.eqv_refl _ (SeqAt.canLay_of_shaped (ints_shaped ws))
/-- a place from the end on -/
theorem ixN_neg {n i : Nat} (h : i < n) : ixN n (-1 - (i : Int)) = some (n - 1 - i) := by
  unfold ixN
  rw [if_neg (by omega), if_pos (by omega)]
  congr 1
  omega
theorem ixN_pos {n i : Nat} (h : i < n) : ixN n (i : Int) = some i := by
  unfold ixN
  rw [if_pos (by omega), if_pos (by omega)]
  simp
end
end Sy
open PySem L2 Sy PyProof.Rows
local macro_rules | `(tactic| walk_at "s") => `(tactic| first
  | ((with_reducible refine re_varD (x := ?x) ?h ?_); (case h => exact rfl))
  | ((with_reducible refine re_varO (a := ?x) ?h ?_); (case h => exact rfl))
  | ((with_reducible refine re_varV (x := ?x) ?h ?_); (case h => exact rfl))
  | ((with_reducible refine re_var (sl := ?x) ?h ?n ?_); (case h => exact rfl); (case n => first | assumption | (intro h; cases h)))
  | (with_reducible refine re_int ?_)
  | (with_reducible refine re_bl ?_)
  | (with_reducible refine re_str ?_)
  | (with_reducible refine re_non ?_)
  | (with_reducible refine re_cV ?_)
  | (with_reducible refine re_op ?_)
  | (with_reducible refine re_cb ?_)
  | (with_reducible refine ra_cons ?_)
  | (with_reducible refine ra_nil ?_)
  | (with_reducible refine re_call ?_)
  | (with_reducible refine re_andV ?_)
  | (with_reducible refine re_orV ?_)
  | (with_reducible refine re_notV ?_)
  | (with_reducible refine re_chain ?_)
  | (with_reducible refine re_un ?_)
  | (with_reducible refine re_if ?_)
  | (with_reducible refine rs_seq ?_)
  | (with_reducible refine rs_if ?_)
  | (with_reducible refine rs_ret ?_)
  | (with_reducible refine rs_drop ?_)
  | (with_reducible refine rs_asg ?_)
  | (with_reducible refine rs_retN ?_)
  | (with_reducible refine rs_next ?_)
  | (with_reducible refine rt_test ?_)
  | (with_reducible refine rt_B ?_)
  | (with_reducible refine rt_and ?_)
  | (with_reducible refine rt_or ?_)
  | (with_reducible refine rt_not ?_)
  | (with_reducible refine rg_name ?_)
  | (with_reducible refine r2_bool ?_)
  | (with_reducible refine add_int ?_)
  | (with_reducible refine r2_int ?_)
  | (with_reducible refine re_make ?_) | (with_reducible refine rs_par ?_) | (with_reducible refine rs_par3 ?_) | (with_reducible refine rip_int ?_)
  | (with_reducible refine rgs_map ?_) | (with_reducible refine rgs_map0 ?_) | (with_reducible refine rgws_map (by decide) ?_) | (with_reducible refine rgws_map0 ?_)
  | (with_reducible refine dm1 ?_) | (with_reducible refine dl1 ?_) | (with_reducible refine dm2 ?_) | (with_reducible refine dl2 ?_) | (with_reducible refine dm3 ?_) | (with_reducible refine dl3 ?_) | (with_reducible refine dm4 ?_) | (with_reducible refine dl4 ?_) | (with_reducible refine dm5 ?_) | (with_reducible refine dl5 ?_) | (with_reducible refine dm6 ?_) | (with_reducible refine dl6 ?_) | (with_reducible refine dl0 ?_)
  | (with_reducible refine re_sl ?_) | (with_reducible refine ro_none ?_) | (with_reducible refine ro_some ?_)
  | (with_reducible refine re_fld ?_) | (with_reducible refine rs_fld ?_) | (with_reducible refine re_app (a := (0 : Nat)) (xs := []) ?_) | (with_reducible refine re_call ?_) | (with_reducible refine re_meth ?_)
  | (with_reducible refine ix_t0 ?_) | (with_reducible refine ix_t1 ?_) | (with_reducible refine ix_t2 ?_) | (with_reducible refine ix_t3 ?_)
  | (with_reducible refine eqb ?_) | (with_reducible refine neb ?_) | (with_reducible refine eqi ?_) | (with_reducible refine nei ?_) | (with_reducible refine rl_min ?_) | (with_reducible refine rl_max ?_)
  | (with_reducible refine rgm_name ?_) | (with_reducible refine rgm_tup rfl ?_) | (with_reducible refine rgs_cons ?_) | (with_reducible refine rgs_nil ?_) | (with_reducible refine rg_tup rfl ?_)
  | (with_reducible refine rgw_name (by decide) ?_) | (with_reducible refine rgw_tup rfl ?_) | (with_reducible refine rgw_tupD rfl ?_) | (with_reducible refine rgws_name (by decide) ?_) | (with_reducible refine rgws_nil ?_)
  | ((with_reducible refine eqs ?a ?b ?_); (case a => first | assumption | decide +kernel); (case b => decide +kernel)) | ((with_reducible refine nes ?a ?b ?_); (case a => first | assumption | decide +kernel); (case b => decide +kernel)) | (with_reducible refine isN ?_) | (with_reducible refine notN ?_)
  | (with_reducible refine exb ?_) | (with_reducible refine exi ?_)
  | (refine rs_raise (fun _ _ _ h => h) ?_)
  | (refine bt ?_) | (refine bf ?_))
local macro_rules | `(tactic| walk_at "ss") => `(tactic| repeat walk_at "s")
local macro_rules | `(tactic| walk_at "dd") => `(tactic| repeat (first | walk_at "s" | (with_reducible refine re_tup ?_) | (with_reducible refine re_new (rn_lst ?_))))
namespace Rp
def top (i : Nat) : Stmt := PySem.Challenge.pw_ropecabins_k07_plans_by_hand.main.body.getD i (.Pass ⟨0, 0, 0, 0⟩)
structure Bltn (mg : Str → Option Value) : Prop where
  h_len : mg "len" = none
  h_int : mg "int" = none
  h_bool : mg "bool" = none
  h_str : mg "str" = none
  h_list : mg "list" = none
  h_tuple : mg "tuple" = none
  h_isinstance : mg "isinstance" = none
  h_sum : mg "sum" = none
  h_all : mg "all" = none
  h_any : mg "any" = none
  h_min : mg "min" = none
  h_max : mg "max" = none
  h_abs : mg "abs" = none
  h_range : mg "range" = none
  h_enumerate : mg "enumerate" = none
  h_zip : mg "zip" = none
structure Ad where
  (Rope Keeps Bars Right Wrong Answer Run RopeError BadStations BadSpace BadCabins BadTicks BadStation BadTale Full Empty : Addr)
/-- an error class of the text, under ValueError -/
structure ErrF (K : PySem.W.Frag) (mg : Str → Option Value) (x : Str) (C : Addr) : Prop where
  g : mg x = some (.ref C)
  x : PySem.W.excIn K C [.type "ValueError", .type "Exception", .type "BaseException", .type "object"] "ValueError.__new__" = true
  k : PySem.W.keepIn K (.ref C) = true
  b : PySem.W.subIn K (.ref C) (.type "BaseException") = some true
  t : PySem.W.typeIn K (.ref C) = some (.type "type")
/-- which instance is of which class -/
structure Kits (K : PySem.W.Frag) (a : Ad) : Prop where
  Keeps_Keeps : PySem.W.kitOne K (.ref a.Keeps) (.ref a.Keeps) = some true
  Keeps_Bars : PySem.W.kitOne K (.ref a.Keeps) (.ref a.Bars) = some false
  Keeps_Right : PySem.W.kitOne K (.ref a.Keeps) (.ref a.Right) = some false
  Keeps_Wrong : PySem.W.kitOne K (.ref a.Keeps) (.ref a.Wrong) = some false
  Keeps_Answer : PySem.W.kitOne K (.ref a.Keeps) (.ref a.Answer) = some true
  Bars_Keeps : PySem.W.kitOne K (.ref a.Bars) (.ref a.Keeps) = some false
  Bars_Bars : PySem.W.kitOne K (.ref a.Bars) (.ref a.Bars) = some true
  Bars_Right : PySem.W.kitOne K (.ref a.Bars) (.ref a.Right) = some false
  Bars_Wrong : PySem.W.kitOne K (.ref a.Bars) (.ref a.Wrong) = some false
  Bars_Answer : PySem.W.kitOne K (.ref a.Bars) (.ref a.Answer) = some true
  Right_Keeps : PySem.W.kitOne K (.ref a.Right) (.ref a.Keeps) = some false
  Right_Bars : PySem.W.kitOne K (.ref a.Right) (.ref a.Bars) = some false
  Right_Right : PySem.W.kitOne K (.ref a.Right) (.ref a.Right) = some true
  Right_Wrong : PySem.W.kitOne K (.ref a.Right) (.ref a.Wrong) = some false
  Right_Answer : PySem.W.kitOne K (.ref a.Right) (.ref a.Answer) = some true
  Wrong_Keeps : PySem.W.kitOne K (.ref a.Wrong) (.ref a.Keeps) = some false
  Wrong_Bars : PySem.W.kitOne K (.ref a.Wrong) (.ref a.Bars) = some false
  Wrong_Right : PySem.W.kitOne K (.ref a.Wrong) (.ref a.Right) = some false
  Wrong_Wrong : PySem.W.kitOne K (.ref a.Wrong) (.ref a.Wrong) = some true
  Wrong_Answer : PySem.W.kitOne K (.ref a.Wrong) (.ref a.Answer) = some true
structure Cl_Answer (K : PySem.W.Frag) (mg : Str → Option Value) (C : Addr) : Prop where
  cl : Cls K C
  g : mg "Answer" = some (.ref C)
  ha : PySem.W.findIn K (.ref C) "__class__" = some (some (.builtin "object.__class__"))
  hn : PySem.W.specialIn K (.builtin "object.__class__") "__get__" = some (some (.builtin "getset_descriptor.__get__"))
  htk : PySem.W.takesIn K (.builtin "object.__class__") = some true
  hm : PySem.W.mroIn K C (.type "object") = some true
structure Cl_Keeps (K : PySem.W.Frag) (mg : Str → Option Value) (C : Addr) : Prop where
  cl : Cls K C
  g : mg "Keeps" = some (.ref C)
  n_waits : NoAttr K C "waits"
  ha : PySem.W.findIn K (.ref C) "__class__" = some (some (.builtin "object.__class__"))
  hn : PySem.W.specialIn K (.builtin "object.__class__") "__get__" = some (some (.builtin "getset_descriptor.__get__"))
  htk : PySem.W.takesIn K (.builtin "object.__class__") = some true
  hm : PySem.W.mroIn K C (.type "object") = some true
structure Cl_Bars (K : PySem.W.Frag) (mg : Str → Option Value) (C : Addr) : Prop where
  cl : Cls K C
  g : mg "Bars" = some (.ref C)
  n_text : NoAttr K C "text"
  n_station : NoAttr K C "station"
  ha : PySem.W.findIn K (.ref C) "__class__" = some (some (.builtin "object.__class__"))
  hn : PySem.W.specialIn K (.builtin "object.__class__") "__get__" = some (some (.builtin "getset_descriptor.__get__"))
  htk : PySem.W.takesIn K (.builtin "object.__class__") = some true
  hm : PySem.W.mroIn K C (.type "object") = some true
/-! ### forms -/
def isWhole : PyData → Bool
  | .int _ => true
  | _ => false
def P_is_whole (_ : Ad) : SpS := fun xs c Q _ => ∃ t : PyData, xs = [.d t] ∧ Q (.d (.bool (isWhole t))) c
def inRange (t : PyData) (lo hi : Int) : Bool := match t with
  | .int n => decide (lo ≤ n) && decide (n ≤ hi)
  | _ => false
def P_within (_ : Ad) : SpS := fun xs c Q _ => ∃ (t : PyData) (lo hi : Int), xs = [.d t, .d (.int lo), .d (.int hi)] ∧ Q (.d (.bool (inRange t lo hi))) c
def isStation : PyData → Bool
  | .tuple [a, b, c] => inRange a 1 30 && inRange b 0 20 && inRange c 1 9
  | _ => false
def P_is_station (_ : Ad) : SpS := fun xs c Q _ => ∃ t : PyData, xs = [.d t] ∧ Q (.d (.bool (isStation t))) c
def stOk : PyData → Bool
  | .list ds => decide (1 ≤ ds.length) && decide (ds.length ≤ 4) && ds.all isStation
  | _ => false
def P_check_stations (a : Ad) : SpS := fun xs c Q QX => ∃ sl t, xs = [sl] ∧ SlD c sl t ∧ (∀ ns, sl ≠ .s ns) ∧ (stOk t = true → Q (.d .none) c) ∧ (stOk t = false → QX (.ref a.BadStations) c)
def P_check_space (a : Ad) : SpS := fun xs c Q QX => ∃ t, xs = [.d t] ∧ (inRange t 1 9 = true → Q (.d .none) c) ∧ (inRange t 1 9 = false → QX (.ref a.BadSpace) c)
abbrev s_is_whole : Stmt := top 12
abbrev N_is_whole : List Str := ["thing"]
theorem sc_is_whole : FnScope N_is_whole ["thing"] (defScope s_is_whole) := ⟨rfl, rfl, rfl, by decide +kernel, rfl, by decide +kernel, by decide +kernel⟩
theorem ok_is_whole {P : Program} {w : World} {K : PySem.W.Frag} {mg : Str → Option Value} {base : Heap} (a : Ad) (B : Bltn mg)  {fa : Addr} {fd : FuncData} (F : Fun K "is_whole" "is_whole" s_is_whole fa fd) : FnG P w K mg base 1 fa fd ["thing"] (spOf K 1 (P_is_whole a)) := by
  refine okG F sc_is_whole ?_
  intro cdv A out s H E g room xs c QS QE hl hp
  refine ⟨_, (pss_one (ps_ret (pe_and (pe_callB (kIsi (KK := K)) (by rfl) B.h_isinstance (by decide +kernel) (pa_cons (pv 0) (pa_cons (pe_bltn (v := .ty "int") (by rfl) B.h_int (by decide +kernel) rfl) pa_nil))) (pe_one (pe_not (pe_callB (kIsi (KK := K)) (by rfl) B.h_isinstance (by decide +kernel) (pa_cons (pv 0) (pa_cons (pe_bltn (v := .ty "bool") (by rfl) B.h_bool (by decide +kernel) rfl) pa_nil)))))))), ?_⟩
  try dsimp only [L2.cxOf]
  obtain ⟨t, rfl, q⟩ := hp
  walk_at "ss"
  refine rl_isi (.d t) (.ty _) (kit_int t) ⟨_, rfl, fun hb => ?_, fun hb => ?_⟩
  · walk_at "ss"
    refine rl_isi (.d t) (.ty _) (kit_bool t) ⟨_, rfl, ?_⟩
    cases t <;> first | exact q | cases hb
  · cases t <;> first | exact q | cases hb
abbrev s_within : Stmt := top 13
abbrev N_within : List Str := ["thing", "low", "high"]
theorem sc_within : FnScope N_within ["thing", "low", "high"] (defScope s_within) := ⟨rfl, rfl, rfl, by decide +kernel, rfl, by decide +kernel, by decide +kernel⟩
theorem ok_within {P : Program} {w : World} {K : PySem.W.Frag} {mg : Str → Option Value} {base : Heap} (a : Ad) (B : Bltn mg) (D_is_whole : DefG P w K mg base "is_whole" 1 ["thing"] (P_is_whole a)) {fa : Addr} {fd : FuncData} (F : Fun K "within" "within" s_within fa fd) : FnG P w K mg base 2 fa fd ["thing", "low", "high"] (spOf K 3 (P_within a)) := by
  refine okG F sc_within ?_
  intro cdv A out s H E g room xs c QS QE hl hp
  refine ⟨_, (pss_one (ps_ret (pe_and (pe_d D_is_whole g (room.mono (by decide)) (by rfl) passC (pa_cons (pv 0) pa_nil)) (pe_one (pe_chain op_le op_le (pv 1) (pv 0) (pv 2)))))), ?_⟩
  try dsimp only [L2.cxOf]
  obtain ⟨t, lo, hi, rfl, q⟩ := hp
  walk_at "ss"
  refine ⟨rfl, t, rfl, _, rfl, fun hb => ?_, fun hb => ?_⟩
  · cases t <;> first | cases hb | skip
    rename_i n
    walk_at "ss"
    refine bb (fun hb => ?_) (fun hb => ?_)
    · walk_at "ss"
      simp only [inRange, hb, Bool.true_and] at q
      exact q
    · simp only [inRange, hb, Bool.false_and] at q
      exact q
  · cases t <;> first | exact q | cases hb
abbrev s_is_station : Stmt := top 14
abbrev N_is_station : List Str := ["thing"]
theorem sc_is_station : FnScope N_is_station ["thing"] (defScope s_is_station) := ⟨rfl, rfl, rfl, by decide +kernel, rfl, by decide +kernel, by decide +kernel⟩
theorem ok_is_station {P : Program} {w : World} {K : PySem.W.Frag} {mg : Str → Option Value} {base : Heap} (a : Ad) (B : Bltn mg) (D_within : DefG P w K mg base "within" 2 ["thing", "low", "high"] (P_within a)) {fa : Addr} {fd : FuncData} (F : Fun K "is_station" "is_station" s_is_station fa fd) : FnG P w K mg base 3 fa fd ["thing"] (spOf K 1 (P_is_station a)) := by
  refine okG F sc_is_station ?_
  intro cdv A out s H E g room xs c QS QE hl hp
  refine ⟨_, (pss_cons (ps_if (PW.pt (pw_or (pt_not (pt_val (pe_callB (kIsi (KK := K)) (by rfl) B.h_isinstance (by decide +kernel) (pa_cons (pv 0) (pa_cons (pe_bltn (v := .ty "tuple") (by rfl) B.h_tuple (by decide +kernel) rfl) pa_nil))))) (pw_or1 (pt_cmpR (kNe (KK := K) room.units) (pe_callB (kLen (KK := K)) (by rfl) B.h_len (by decide +kernel) (pa_cons (pv 0) pa_nil)) pe_int (nomark _)))))
        (pss_one (ps_ret pe_bl))
        pss_nil)
      (pss_one (ps_ret (pe_and (pe_d D_within g (room.mono (by decide)) (by rfl) passC (pa_cons (pe_ix (kIx (KK := K)) (pv 0) pe_int (fun _ _ => rfl)) (pa_cons pe_int (pa_cons pe_int pa_nil)))) (pe_and (pe_d D_within g (room.mono (by decide)) (by rfl) passC (pa_cons (pe_ix (kIx (KK := K)) (pv 0) pe_int (fun _ _ => rfl)) (pa_cons pe_int (pa_cons pe_int pa_nil)))) (pe_one (pe_d D_within g (room.mono (by decide)) (by rfl) passC (pa_cons (pe_ix (kIx (KK := K)) (pv 0) pe_int (fun _ _ => rfl)) (pa_cons pe_int (pa_cons pe_int pa_nil)))))))))), ?_⟩
  try dsimp only [L2.cxOf]
  obtain ⟨t, rfl, q⟩ := hp
  have other : isStation t = false → QS (.d (.bool false)) c := fun h => by rw [h] at q; exact q
  walk_at "ss"
  refine rl_isi (.d t) (.ty _) (kit_tuple t) ⟨_, rfl, ?_⟩
  cases t with
  | tuple ds =>
    walk_at "ss"
    refine rl_len (.inr rfl) ?_
    walk_at "ss"
    refine bb (fun hb => ?_) (fun hb => ?_)
    · walk_at "ss"
      refine other ?_
      match ds, hb with
      | [], _ => rfl
      | [_], _ => rfl
      | [_, _], _ => rfl
      | _ :: _ :: _ :: _ :: _, _ => rfl
    · match ds, hb with
      | [x, y, z], _ =>
        walk_at "ss"
        refine ⟨rfl, _, _, _, rfl, _, rfl, bb (fun h1 => ?_) (fun h1 => ?_)⟩
        · walk_at "ss"
          refine ⟨rfl, _, _, _, rfl, _, rfl, bb (fun h2 => ?_) (fun h2 => ?_)⟩
          · walk_at "ss"
            refine ⟨rfl, _, _, _, rfl, ?_⟩
            have e : isStation (.tuple [x, y, z]) = inRange z 1 9 := by show (inRange x 1 30 && inRange y 0 20 && inRange z 1 9) = _; rw [h1, h2]; rfl
            rw [e] at q
            exact q
          · exact other (by show (inRange x 1 30 && inRange y 0 20 && inRange z 1 9) = _; rw [h1, h2]; rfl)
        · exact other (by show (inRange x 1 30 && inRange y 0 20 && inRange z 1 9) = _; rw [h1]; rfl)
      | [], hb => cases hb
      | [_], hb => cases hb
      | [_, _], hb => cases hb
      | p1 :: p2 :: p3 :: p4 :: r, hb =>
        simp at hb
        omega
  | _ =>
    walk_at "ss"
    exact other rfl
abbrev s_check_stations : Stmt := top 15
abbrev N_check_stations : List Str := ["stations", "one"]
theorem sc_check_stations : FnScope N_check_stations ["stations"] (defScope s_check_stations) := ⟨rfl, rfl, rfl, by decide +kernel, rfl, by decide +kernel, by decide +kernel⟩
theorem ok_check_stations {P : Program} {w : World} {K : PySem.W.Frag} {mg : Str → Option Value} {base : Heap} (a : Ad) (B : Bltn mg) (R_BadStations : ErrF K mg "BadStations" a.BadStations) (D_is_station : DefG P w K mg base "is_station" 3 ["thing"] (P_is_station a)) {fa : Addr} {fd : FuncData} (F : Fun K "check_stations" "check_stations" s_check_stations fa fd) : FnG P w K mg base 4 fa fd ["stations"] (spOf K 1 (P_check_stations a)) := by
  refine okG F sc_check_stations ?_
  intro cdv A out s H E g room xs c QS QE hl hp
  refine ⟨_, (pss_one (ps_if (PW.pt (pw_or (pt_not (pt_val (pe_callB (kIsi (KK := K)) (by rfl) B.h_isinstance (by decide +kernel) (pa_cons (pv 0) (pa_cons (pe_bltn (v := .ty "list") (by rfl) B.h_list (by decide +kernel) rfl) pa_nil))))) (pw_or (pt_not (pt_chain op_le op_le pe_int (pe_callB (kLen (KK := K)) (by rfl) B.h_len (by decide +kernel) (pa_cons (pv 0) pa_nil)) pe_int)) (pw_or1 (pt_not (pt_val (pe_callB (kAll (KK := K) rfl) (by rfl) B.h_all (by decide +kernel) (pa_cons (pe_lc (own := [("one", 1)]) (g := gName 1) (tt := tYes) rfl sc_check_stations.nd (kIList (KK := K) (pv 0)) (blkOk_by (by kernel_rfl)) (fun _ _ _ _ _ => (pg_name (i := 1) sc_check_stations.nd (by rfl) (Or.inl rfl))) (fun _ _ _ _ _ => pts_nil) (fun _ _ _ _ _ => (pe_d D_is_station g (room.mono (by decide)) (by rfl) passL (pa_cons (pv 1) pa_nil)))) pa_nil))))))))
        (pss_one (ps_raise rfl (takes_of rfl rfl rfl rfl) (pmk_own PySem.F.excBase_ValueError R_BadStations.x R_BadStations.g R_BadStations.k (raises_own R_BadStations.b R_BadStations.t) rfl)))
        pss_nil)), ?_⟩
  try dsimp only [L2.cxOf]
  obtain ⟨sl, t, rfl, hd, hns, q1, q2⟩ := hp
  have hu := hd.nun
  walk_at "ss"
  refine rl_isi (hd.ty hns) (.ty _) (kit_list t) ?_
  walk_at "ss"
  refine bb (fun hb => ?_) (fun hb => ?_)
  · walk_at "ss"
    refine q2 ?_
    cases t <;> first | rfl | cases hb
  · cases t <;> first | cases hb | skip
    rename_i ds
    walk_at "ss"
    refine rl_lenL hd ?_
    walk_at "ss"
    refine bb (fun h1 => ?_) (fun h1 => ?_)
    · walk_at "ss"
      refine bb (fun h2 => ?_) (fun h2 => ?_)
      · walk_at "ss"
        refine q2 ?_
        have : ¬ ds.length ≤ 4 := by simp at h2; omega
        simp only [stOk, this, decide_false, Bool.false_and, Bool.and_false]
      · have h2' : ds.length ≤ 4 := by simp at h2; omega
        have h1' : 1 ≤ ds.length := by simp at h1; omega
        walk_at "ss"
        refine re_new (rn_lcL ds Sl.d (fun d => .d (.bool (isStation d))) ?_)
        walk_at "ss"
        refine ⟨hd.src, by omega, fun D acc d _ _ => ?_, ds.map (fun d => .bool (isStation d)), by rw [List.map_map]; rfl, ?_⟩
        · refine rgw_name (by decide) ?_
          walk_at "ss"
          exact ⟨rfl, d, rfl, rfl, rfl⟩
        · walk_at "ss"
          refine rl_all (ns := ds.map isStation) (by simp [lsrc, Function.comp_def]) ?_
          walk_at "ss"
          refine bb (fun h3 => ?_) (fun h3 => ?_)
          · walk_at "ss"
            refine q2 ?_
            simp at h3
            simp [stOk, h1', h2', h3]
          · walk_at "ss"
            refine q1 ?_
            simp at h3
            simp [stOk, h1', h2']
            exact h3
    · walk_at "ss"
      refine q2 ?_
      have : ¬ 1 ≤ ds.length := by simp at h1; omega
      simp only [stOk, this, decide_false, Bool.false_and]
abbrev s_check_space : Stmt := top 16
abbrev N_check_space : List Str := ["space"]
theorem sc_check_space : FnScope N_check_space ["space"] (defScope s_check_space) := ⟨rfl, rfl, rfl, by decide +kernel, rfl, by decide +kernel, by decide +kernel⟩
theorem ok_check_space {P : Program} {w : World} {K : PySem.W.Frag} {mg : Str → Option Value} {base : Heap} (a : Ad) (B : Bltn mg) (R_BadSpace : ErrF K mg "BadSpace" a.BadSpace) (D_within : DefG P w K mg base "within" 2 ["thing", "low", "high"] (P_within a)) {fa : Addr} {fd : FuncData} (F : Fun K "check_space" "check_space" s_check_space fa fd) : FnG P w K mg base 3 fa fd ["space"] (spOf K 1 (P_check_space a)) := by
  refine okG F sc_check_space ?_
  intro cdv A out s H E g room xs c QS QE hl hp
  refine ⟨_, (pss_one (ps_if (pt_not (pt_val (pe_d D_within g (room.mono (by decide)) (by rfl) passC (pa_cons (pv 0) (pa_cons pe_int (pa_cons pe_int pa_nil))))))
        (pss_one (ps_raise rfl (takes_of rfl rfl rfl rfl) (pmk_own PySem.F.excBase_ValueError R_BadSpace.x R_BadSpace.g R_BadSpace.k (raises_own R_BadSpace.b R_BadSpace.t) rfl)))
        pss_nil)), ?_⟩
  try dsimp only [L2.cxOf]
  obtain ⟨t, rfl, q1, q2⟩ := hp
  walk_at "ss"
  refine ⟨rfl, t, 1, 9, rfl, ?_⟩
  walk_at "ss"
  refine bb (fun h => ?_) (fun h => ?_)
  · walk_at "ss"
    exact q2 (by simpa using h)
  · walk_at "ss"
    exact q1 (by simpa using h)
end Rp
namespace Rp
/-! ### stations, answers -/
abbrev St3 := Int × Int × Int
abbrev stD (s : St3) : PyData := .tuple [.int s.1, .int s.2.1, .int s.2.2]
def stsD (ss : List St3) : PyData := .list (ss.map stD)
def okSt (s : St3) : Prop := (1 ≤ s.1 ∧ s.1 ≤ 30) ∧ (0 ≤ s.2.1 ∧ s.2.1 ≤ 20) ∧ (1 ≤ s.2.2 ∧ s.2.2 ≤ 9)
def okSts (ss : List St3) : Prop := (1 ≤ ss.length ∧ ss.length ≤ 4) ∧ ∀ s ∈ ss, okSt s
theorem inRange_of {t : PyData} {lo hi : Int} (h : inRange t lo hi = true) : ∃ n, t = .int n ∧ lo ≤ n ∧ n ≤ hi := by
  cases t <;> first | cases h | skip
  rename_i n
  simp [inRange] at h
  exact ⟨n, rfl, h.1, h.2⟩
theorem isStation_of {t : PyData} (h : isStation t = true) : ∃ s, t = stD s ∧ okSt s := by
  match t, h with
  | .tuple [x, y, z], h =>
    simp only [isStation, Bool.and_eq_true] at h
    obtain ⟨⟨h1, h2⟩, h3⟩ := h
    obtain ⟨n1, rfl, a1, b1⟩ := inRange_of h1
    obtain ⟨n2, rfl, a2, b2⟩ := inRange_of h2
    obtain ⟨n3, rfl, a3, b3⟩ := inRange_of h3
    exact ⟨(n1, n2, n3), rfl, ⟨a1, b1⟩, ⟨a2, b2⟩, a3, b3⟩
theorem stations_of : ∀ {ds : List PyData}, ds.all isStation = true → ∃ ss : List St3, ds = ss.map stD ∧ ∀ s ∈ ss, okSt s
  | [], _ => ⟨[], rfl, by simp⟩
  | d :: ds, h => by
    rw [List.all_cons, Bool.and_eq_true] at h
    obtain ⟨s, rfl, h1⟩ := isStation_of h.1
    obtain ⟨ss, rfl, h2⟩ := stations_of h.2
    exact ⟨s :: ss, rfl, fun x hx => by rcases List.mem_cons.mp hx with e | e <;> first | exact e ▸ h1 | exact h2 x e⟩
theorem stOk_of {t : PyData} (h : stOk t = true) : ∃ ss, t = stsD ss ∧ okSts ss := by
  cases t <;> first | cases h | skip
  rename_i ds
  simp only [stOk, Bool.and_eq_true, decide_eq_true_eq] at h
  obtain ⟨⟨h1, h2⟩, h3⟩ := h
  obtain ⟨ss, rfl, h4⟩ := stations_of h3
  rw [List.length_map] at h1 h2
  exact ⟨ss, rfl, ⟨h1, h2⟩, h4⟩
theorem stOk_sts {ss : List St3} (h : okSts ss) : stOk (stsD ss) = true := by
  obtain ⟨⟨h1, h2⟩, h3⟩ := h
  simp only [stOk, stsD, List.length_map, h1, h2, decide_true, Bool.true_and, List.all_map]
  refine List.all_eq_true.mpr fun s hs => ?_
  obtain ⟨a, b, c⟩ := h3 s hs
  simp [isStation, stD, inRange, a.1, a.2, b.1, b.2, c.1, c.2]
/-- cells stay, others may come -/
def CeX (c c' : Ce) : Prop := ∀ b y, c b = some y → c' b = some y
theorem CeX.refl (c : Ce) : CeX c c := fun _ _ h => h
theorem CeX.trans {c c1 c2 : Ce} (h : CeX c c1) (h' : CeX c1 c2) : CeX c c2 := fun b y e => h' b y (h b y e)
theorem CeX.new {c : Ce} {p : Addr} {x : Cell} (h : c p = none) : CeX c (cu c p x) := fun _ _ e => cu_old e h
theorem CeX.mut {c c' : Ce} {p : Addr} {x : Cell} (e : CeX c c') (h : c p = none) : CeX c (cu c' p x) := fun b y q => cu_to (ce_ne q h) (e b y q)
theorem CeX.free {c c' : Ce} {p : Addr} (e : CeX c c') (h : c' p = none) : c p = none := by
  cases q : c p with
  | none => rfl
  | some x => rw [e p x q] at h; cases h
theorem _root_.Sy.SlD.old {c : Ce} {sl : Sl} {d : PyData} {p : Addr} {x : Cell} (h : SlD c sl d) (hp : c p = none) : SlD (cu c p x) sl d := h.more (CeX.new hp)
def intsD (ns : List Int) : PyData := .list (ns.map .int)
abbrev fKeeps (w : Addr) : List (Str × Sl) := [("waits", .o w)]
abbrev fBars (t s : PyData) : List (Str × Sl) := [("text", .d t), ("station", .d s)]
theorem fKeeps_w (w : Addr) : (fKeeps w).lookup ("waits" : Str) = some (Sl.o w) := by kernel_rfl
theorem fBars_t (t s : PyData) : (fBars t s).lookup ("text" : Str) = some (Sl.d t) := by kernel_rfl
theorem fBars_s (t s : PyData) : (fBars t s).lookup ("station" : Str) = some (Sl.d s) := by kernel_rfl
def P_Keeps_init (a : Ad) : SpS := fun xs c Q _ => ∃ x sl ds, xs = [.o x, sl] ∧ c x = some (.ins a.Keeps []) ∧ SlD c sl (.list ds) ∧ ds.length ≤ 100000 ∧
  ∀ w, c w = none → Q (.d .none) (cu (cu c w (.lst (ds.map .d))) x (.ins a.Keeps (fKeeps w)))
def keepsShows (ws : List Int) (ss : List St3) (sp m t : Int) : Bool :=
  !(decide (ws.length ≠ ss.length) || decide (t < sp)) && (List.zip ws ss).all (fun p => decide (p.2.2.1 ≤ p.1) && decide (p.1 < p.2.2.2 * t)) && decide (ws.sum + (ss.map (·.1)).sum = m * t)
def small (t : Int) : Prop := -(2 ^ 64) < t ∧ t < 2 ^ 64
def P_Keeps_shows (a : Ad) : SpS := fun xs c Q _ => ∃ k w ws sl ss sp m t, xs = [.o k, sl, .d (.int sp), .d (.int m), .d (.int t)] ∧ c k = some (.ins a.Keeps (fKeeps w)) ∧ c w = some (.lst ((ws.map PyData.int).map .d)) ∧ SlD c sl (stsD ss) ∧ small t ∧ ss.length ≤ 1000 ∧
  Q (.d (.bool (keepsShows ws ss sp m t))) c
theorem take_all_succ {α : Type} {l : List α} {i : Nat} {a : α} {f : α → Bool} (h : l[i]? = some a) : (l.take (i + 1)).all f = ((l.take i).all f && f a) := by
  rw [List.take_add_one, h, List.all_append]
  simp
theorem keepsShows_no {ws : List Int} {ss : List St3} {sp m t : Int} {p : Int × St3} (h : p ∈ List.zip ws ss) (hp : (decide (p.2.2.1 ≤ p.1) && decide (p.1 < p.2.2.2 * t)) = false) : keepsShows ws ss sp m t = false := by
  have : (List.zip ws ss).all (fun p => decide (p.2.2.1 ≤ p.1) && decide (p.1 < p.2.2.2 * t)) = false := by
    rw [List.all_eq_false]
    exact ⟨p, h, by rw [hp]; simp⟩
  simp only [keepsShows, this, Bool.and_false, Bool.false_and]
abbrev s_Keeps_init : Stmt := inClass (top 2) 0
abbrev N_Keeps_init : List Str := ["self", "waits"]
theorem sc_Keeps_init : FnScope N_Keeps_init ["self", "waits"] (defScope s_Keeps_init) := ⟨rfl, rfl, rfl, by decide +kernel, rfl, by decide +kernel, by decide +kernel⟩
theorem ok_Keeps_init {P : Program} {w : World} {K : PySem.W.Frag} {mg : Str → Option Value} {base : Heap} (a : Ad) (B : Bltn mg) (T_Keeps : Cl_Keeps K mg a.Keeps) {fa : Addr} {fd : FuncData} (F : Fun K "__init__" "Keeps.__init__" s_Keeps_init fa fd) : FnG P w K mg base 1 fa fd ["self", "waits"] (spOf K 2 (P_Keeps_init a)) := by
  refine okG F sc_Keeps_init ?_
  intro cdv A out s H E g room xs c QS QE hl hp
  refine ⟨_, (pss_one (ps_fld (pv 0) (pe_callTy (kList (KK := K)) (by rfl) B.h_list (by decide +kernel) (pa_cons (pv 1) pa_nil)) (by rfl))), ?_⟩
  try dsimp only [L2.cxOf]
  obtain ⟨x, sl, ds, rfl, hx, hd, hz, q⟩ := hp
  have hu := hd.nun
  refine rs_fld ?_
  walk_at "ss"
  refine rl_own (rln_list (.inl hd.src) fun w hw => ?_)
  walk_at "ss"
  refine ⟨x, a.Keeps, [], rfl, cu_old hx hw, T_Keeps.cl, T_Keeps.n_waits, by decide, ?_⟩
  exact q w hw
abbrev s_Keeps_shows : Stmt := inClass (top 2) 1
abbrev N_Keeps_shows : List Str := ["self", "stations", "space", "many", "ticks", "wait", "one"]
theorem sc_Keeps_shows : FnScope N_Keeps_shows ["self", "stations", "space", "many", "ticks"] (defScope s_Keeps_shows) := ⟨rfl, rfl, rfl, by decide +kernel, rfl, by decide +kernel, by decide +kernel⟩
theorem ok_Keeps_shows {P : Program} {w : World} {K : PySem.W.Frag} {mg : Str → Option Value} {base : Heap} (a : Ad) (B : Bltn mg) (T_Keeps : Cl_Keeps K mg a.Keeps) {fa : Addr} {fd : FuncData} (F : Fun K "shows" "Keeps.shows" s_Keeps_shows fa fd) : FnG P w K mg base 1 fa fd ["self", "stations", "space", "many", "ticks"] (spOf K 5 (P_Keeps_shows a)) := by
  refine okG F sc_Keeps_shows ?_
  intro cdv A out s H E g room xs c QS QE hl hp
  refine ⟨_, (pss_cons (ps_if (PW.pt (pw_or (pt_cmpR (kNe (KK := K) room.units) (pe_callB (kLen (KK := K)) (by rfl) B.h_len (by decide +kernel) (pa_cons (kFld (KK := K) (pv 0) (by rfl)) pa_nil)) (pe_callB (kLen (KK := K)) (by rfl) B.h_len (by decide +kernel) (pa_cons (pv 1) pa_nil)) (nomark _)) (pw_or1 (pt_cmpR op_lt (pv 4) (pv 2) (nomark _)))))
        (pss_one (ps_ret pe_bl))
        pss_nil)
      (pss_cons (ps_for (passes_of rfl) rfl (kIZip (KK := K) (by rfl) B.h_zip (pa_cons (kFld (KK := K) (pv 0) (by rfl)) (pa_cons (pv 1) pa_nil))) (kGTup (KK := K) rfl (pgs_cons (pg_name (i := 5) sc_Keeps_shows.nd (by rfl) (Or.inl rfl)) (pgs_cons (pg_name (i := 6) sc_Keeps_shows.nd (by rfl) (Or.inl rfl)) pgs_nil)))
        (pss_one (ps_if (pt_not (pt_chain op_le op_lt (pe_ix (kIx (KK := K)) (pv 6) pe_int (fun _ _ => rfl)) (pv 5) (pe_op (kMul (KK := K)) (pe_ix (kIx (KK := K)) (pv 6) pe_int (fun _ _ => rfl)) (pv 4))))
        (pss_one (ps_ret pe_bl))
        pss_nil)))
      (pss_one (ps_ret (pe_cmpR (kEq (KK := K) room.units) (pe_op (kAdd (KK := K)) (pe_callB (kSum (KK := K) rfl) (by rfl) B.h_sum (by decide +kernel) (pa_cons (kFld (KK := K) (pv 0) (by rfl)) pa_nil)) (pe_callB (kSum (KK := K) rfl) (by rfl) B.h_sum (by decide +kernel) (pa_cons (pe_lc (own := [("one", 6)]) (g := gName 6) (tt := tYes) rfl sc_Keeps_shows.nd (kIList (KK := K) (pv 1)) (blkOk_by (by kernel_rfl)) (fun _ _ _ _ _ => (pg_name (i := 6) sc_Keeps_shows.nd (by rfl) (Or.inl rfl))) (fun _ _ _ _ _ => pts_nil) (fun _ _ _ _ _ => (pe_ix (kIx (KK := K)) (pv 6) pe_int (fun _ _ => rfl)))) pa_nil))) (pe_op (kMul (KK := K)) (pv 3) (pv 4)) (nomark _)))))), ?_⟩
  try dsimp only [L2.cxOf]
  obtain ⟨k, w, ws, sl, ss, sp, m, t, rfl, hk, hw, hd, ht, hz, q⟩ := hp
  have hu := hd.nun
  have hww : SlD c (.o w) (.list (ws.map .int)) := .lst hw
  walk_at "ss"
  refine ⟨_, _, _, _, rfl, hk, T_Keeps.cl, T_Keeps.n_waits, fKeeps_w w, ?_⟩
  walk_at "ss"
  refine rl_lenL hww ?_
  walk_at "ss"
  refine rl_lenL hd ?_
  rw [List.length_map, List.length_map]
  walk_at "ss"
  refine bb (fun h1 => ?_) (fun h1 => ?_)
  · walk_at "ss"
    have : keepsShows ws ss sp m t = false := by
      have : ws.length ≠ ss.length := by simp at h1; omega
      simp [keepsShows, this]
    rw [this] at q
    exact q
  walk_at "ss"
  refine bb (fun h2 => ?_) (fun h2 => ?_)
  · walk_at "ss"
    have : keepsShows ws ss sp m t = false := by simp at h2; simp [keepsShows, h2]
    rw [this] at q
    exact q
  have h1 : ws.length = ss.length := by simp at h1; omega
  have h2 : ¬ t < sp := by simpa using h2
  walk_at "ss"
  refine rs_forZ ws ss (fun n => .d (.int n)) (fun s => .d (stD s)) (fun i e c' => c' = c ∧ (∃ x y, e = [.o k, sl, .d (.int sp), .d (.int m), .d (.int t), x, y]) ∧ ((List.zip ws ss).take i).all (fun p => decide (p.2.2.1 ≤ p.1) && decide (p.1 < p.2.2.2 * t)) = true) ?_
  walk_at "ss"
  refine ⟨_, _, _, _, rfl, hk, T_Keeps.cl, T_Keeps.n_waits, fKeeps_w w, ?_⟩
  walk_at "ss"
  refine ⟨⟨rfl, ⟨_, _, rfl⟩, rfl⟩, ?_, ?_, ?_⟩
  · rintro i e c' _ ⟨rfl, _, _⟩
    refine ⟨?_, ?_⟩
    · rw [hww.src, List.map_map]; rfl
    · rw [hd.src, List.map_map]; rfl
  · rintro i n b e c' hn hb ⟨rfl, ⟨x, y, rfl⟩, hall⟩
    have hzip : (List.zip ws ss)[i]? = some (n, b) := by simp [List.getElem?_zip_eq_some, hn, hb]
    walk_at "ss"
    refine bb (fun h3 => ?_) (fun h3 => ?_)
    · walk_at "ss"
      refine mul_int (.inr ht) ?_
      walk_at "ss"
      refine bb (fun h4 => ?_) (fun h4 => ?_)
      · walk_at "ss"
        have : keepsShows ws ss sp m t = false := keepsShows_no (List.mem_of_getElem? hzip) (by simp at h4; simp; intro _; omega)
        rw [this] at q
        exact q
      · walk_at "ss"
        refine ⟨rfl, ⟨_, _, rfl⟩, ?_⟩
        rw [take_all_succ hzip, hall]
        simp at h3 h4
        simp [h3, h4]
    · walk_at "ss"
      have : keepsShows ws ss sp m t = false := keepsShows_no (List.mem_of_getElem? hzip) (by simp at h3; simp; intro _; omega)
      rw [this] at q
      exact q
  · rintro e c' ⟨rfl, ⟨x, y, rfl⟩, hall⟩
    walk_at "ss"
    refine ⟨_, _, _, _, rfl, hk, T_Keeps.cl, T_Keeps.n_waits, fKeeps_w w, ?_⟩
    walk_at "ss"
    refine rl_sum (ns := ws) (by rw [hww.src, List.map_map]; rfl) ?_
    walk_at "ss"
    refine re_new (rn_lcL ss (fun s => .d (stD s)) (fun s => .d (.int s.1)) ?_)
    walk_at "ss"
    refine ⟨by rw [hd.src, List.map_map]; rfl, by omega, fun D acc s _ _ => ?_, ss.map (fun s => .int s.1), by rw [List.map_map]; rfl, ?_⟩
    · walk_at "ss"
      exact ⟨rfl, rfl⟩
    walk_at "ss"
    refine rl_sum (ns := ss.map (·.1)) (by simp [lsrc]) ?_
    walk_at "ss"
    refine mul_int (.inr ht) ?_
    walk_at "ss"
    have : keepsShows ws ss sp m t = decide (ws.sum + (ss.map (·.1)).sum = m * t) := by
      have hz : (List.zip ws ss).take (min ws.length ss.length) = List.zip ws ss := by rw [← List.length_zip, List.take_length]
      rw [hz] at hall
      simp only [keepsShows, h1, h2, hall]
      simp
    rw [this] at q
    exact q
def rides (ss : List St3) : Int := (ss.map fun s => s.1 + s.2.1).sum
def most (ss : List St3) (t : Int) : Int := (ss.map fun s => s.1 + s.2.2 * t - 1).sum
def barsL (ss : List St3) (sp m t : Int) : List Str := (if t < sp then [("space" : Str)] else []) ++ ((if m * t < rides ss then [("few" : Str)] else []) ++ (if most ss t < m * t then [("many" : Str)] else []))
theorem barsL_shaped (ss : List St3) (sp m t : Int) : SeqAt.shaped (.list ((barsL ss sp m t).map .str)) = true := by
  unfold barsL
  split <;> split <;> split <;> decide +kernel
def P_bars_of (a : Ad) : SpS := fun xs c Q _ => ∃ sl ss sp m t, xs = [sl, .d (.int sp), .d (.int m), .d (.int t)] ∧ SlD c sl (stsD ss) ∧ small t ∧ ss.length ≤ 1000 ∧
  Q (.d (.list ((barsL ss sp m t).map .str))) c
def roomBad (ss : List St3) (t : Int) (n : Int) : Bool := decide (0 ≤ n) && decide (n < ss.length) && (match ss[n.toNat]? with | some s => decide (s.2.2 * t ≤ s.2.1) | none => false)
def barsShows (tx : Str) (st : PyData) (ss : List St3) (sp m t : Int) : Bool :=
  if tx = ("room" : Str) then (match st with | .int n => roomBad ss t n | _ => false)
  else isNone (.d st) && (barsL ss sp m t).contains tx
def isNI : PyData → Prop
  | .none => True
  | .int _ => True
  | _ => False
def P_Bars_init (a : Ad) : SpS := fun xs c Q _ => ∃ x tx st, xs = [.o x, .d tx, .d st] ∧ c x = some (.ins a.Bars []) ∧ Q (.d .none) (cu c x (.ins a.Bars (fBars tx st)))
def P_Bars_shows (a : Ad) : SpS := fun xs c Q _ => ∃ k tx st sl ss sp m t, xs = [.o k, sl, .d (.int sp), .d (.int m), .d (.int t)] ∧ c k = some (.ins a.Bars (fBars (.str tx) st)) ∧ SeqAt.shaped (.str tx) = true ∧ isNI st ∧ SlD c sl (stsD ss) ∧ small t ∧ ss.length ≤ 1000 ∧
  Q (.d (.bool (barsShows tx st ss sp m t))) c
abbrev s_Bars_init : Stmt := inClass (top 3) 0
abbrev N_Bars_init : List Str := ["self", "text", "station"]
theorem sc_Bars_init : FnScope N_Bars_init ["self", "text", "station"] (defScope s_Bars_init) := ⟨rfl, rfl, rfl, by decide +kernel, rfl, by decide +kernel, by decide +kernel⟩
theorem ok_Bars_init {P : Program} {w : World} {K : PySem.W.Frag} {mg : Str → Option Value} {base : Heap} (a : Ad) (B : Bltn mg) (T_Bars : Cl_Bars K mg a.Bars) {fa : Addr} {fd : FuncData} (F : Fun K "__init__" "Bars.__init__" s_Bars_init fa fd) : FnG P w K mg base 1 fa fd ["self", "text", "station"] (spOf K 3 (P_Bars_init a)) := by
  refine okG F sc_Bars_init ?_
  intro cdv A out s H E g room xs c QS QE hl hp
  refine ⟨_, (pss_cons (ps_fld (pv 0) (pv 1) (by rfl))
      (pss_one (ps_fld (pv 0) (pv 2) (by rfl)))), ?_⟩
  try dsimp only [L2.cxOf]
  obtain ⟨x, tx, st, rfl, hx, q⟩ := hp
  walk_at "ss"
  refine ⟨x, a.Bars, [], rfl, hx, T_Bars.cl, T_Bars.n_text, by simp, ?_⟩
  walk_at "ss"
  refine ⟨x, a.Bars, _, rfl, cu_same .., T_Bars.cl, T_Bars.n_station, by simp [putS], ?_⟩
  rw [cu_cu]
  exact q
abbrev s_bars_of : Stmt := top 4
abbrev N_bars_of : List Str := ["stations", "space", "many", "ticks", "found", "one"]
theorem sc_bars_of : FnScope N_bars_of ["stations", "space", "many", "ticks"] (defScope s_bars_of) := ⟨rfl, rfl, rfl, by decide +kernel, rfl, by decide +kernel, by decide +kernel⟩
theorem ok_bars_of {P : Program} {w : World} {K : PySem.W.Frag} {mg : Str → Option Value} {base : Heap} (a : Ad) (B : Bltn mg)  {fa : Addr} {fd : FuncData} (F : Fun K "bars_of" "bars_of" s_bars_of fa fd) : FnG P w K mg base 1 fa fd ["stations", "space", "many", "ticks"] (spOf K 4 (P_bars_of a)) := by
  refine okG F sc_bars_of ?_
  intro cdv A out s H E g room xs c QS QE hl hp
  refine ⟨_, (pss_cons (ps_set (i := 4) sc_bars_of.nd (by rfl) (Or.inl rfl) (pe_lst pa_nil))
      (pss_cons (ps_if (pt_cmpR op_lt (pv 3) (pv 1) (nomark _))
        (pss_one (ps_expr (kAppend (KK := K) (pv 4) (pa_cons pe_str pa_nil))))
        pss_nil)
      (pss_cons (ps_if (pt_cmpR op_lt (pe_op (kMul (KK := K)) (pv 2) (pv 3)) (pe_callB (kSum (KK := K) rfl) (by rfl) B.h_sum (by decide +kernel) (pa_cons (pe_lc (own := [("one", 5)]) (g := gName 5) (tt := tYes) rfl sc_bars_of.nd (kIList (KK := K) (pv 0)) (blkOk_by (by kernel_rfl)) (fun _ _ _ _ _ => (pg_name (i := 5) sc_bars_of.nd (by rfl) (Or.inl rfl))) (fun _ _ _ _ _ => pts_nil) (fun _ _ _ _ _ => (pe_op (kAdd (KK := K)) (pe_ix (kIx (KK := K)) (pv 5) pe_int (fun _ _ => rfl)) (pe_ix (kIx (KK := K)) (pv 5) pe_int (fun _ _ => rfl))))) pa_nil)) (nomark _))
        (pss_one (ps_expr (kAppend (KK := K) (pv 4) (pa_cons pe_str pa_nil))))
        pss_nil)
      (pss_cons (ps_if (pt_cmpR op_gt (pe_op (kMul (KK := K)) (pv 2) (pv 3)) (pe_callB (kSum (KK := K) rfl) (by rfl) B.h_sum (by decide +kernel) (pa_cons (pe_lc (own := [("one", 5)]) (g := gName 5) (tt := tYes) rfl sc_bars_of.nd (kIList (KK := K) (pv 0)) (blkOk_by (by kernel_rfl)) (fun _ _ _ _ _ => (pg_name (i := 5) sc_bars_of.nd (by rfl) (Or.inl rfl))) (fun _ _ _ _ _ => pts_nil) (fun _ _ _ _ _ => (pe_op op_sub (pe_op (kAdd (KK := K)) (pe_ix (kIx (KK := K)) (pv 5) pe_int (fun _ _ => rfl)) (pe_op (kMul (KK := K)) (pe_ix (kIx (KK := K)) (pv 5) pe_int (fun _ _ => rfl)) (pv 3))) pe_int))) pa_nil)) (nomark _))
        (pss_one (ps_expr (kAppend (KK := K) (pv 4) (pa_cons pe_str pa_nil))))
        pss_nil)
      (pss_one (ps_ret (pv 4))))))), ?_⟩
  try dsimp only [L2.cxOf]
  obtain ⟨sl, ss, sp, m, t, rfl, hd, ht, hz, q⟩ := hp
  have hu := hd.nun
  refine rs_seq (rs_asg (re_own (rn_lst ?_)))
  walk_at "ss"
  refine ⟨by simp, fun f hf => ?_⟩
  have hd1 : ∀ x, SlD (cu c f x) sl (stsD ss) := fun x => hd.old hf
  let L1 : List Str := if t < sp then [("space" : Str)] else []
  let L2 : List Str := if m * t < rides ss then [("few" : Str)] else []
  let L3 : List Str := if most ss t < m * t then [("many" : Str)] else []
  have lens : (L1 ++ L2).length ≤ 2 ∧ L1.length ≤ 1 := by
    constructor
    · rw [List.length_append]; show (if t < sp then [("space" : Str)] else []).length + (if m * t < rides ss then [("few" : Str)] else []).length ≤ 2
      split <;> split <;> decide
    · show (if t < sp then [("space" : Str)] else []).length ≤ 1
      split <;> decide
  refine rg_name ?_
  refine rs_seq (rs_to (fun e' c' => (∃ x, e' = [sl, .d (.int sp), .d (.int m), .d (.int t), .o f, x]) ∧ c' = cu c f (.lst ((L1.map PyData.str).map .d))) ?_ ?_)
  · walk_at "ss"
    refine bb (fun h1 => ?_) (fun h1 => ?_)
    · walk_at "ss"
      refine ⟨f, rfl, ⟨_, cu_same ..⟩, ?_⟩
      walk_at "ss"
      refine ⟨_, cu_same .., by simp, ⟨_, rfl⟩, ?_⟩
      rw [cu_cu]
      simp at h1
      simp [L1, h1]
    · walk_at "ss"
      refine ⟨⟨_, rfl⟩, ?_⟩
      simp at h1
      have : ¬ t < sp := by omega
      simp [L1, this]
  rintro _ _ ⟨⟨x, rfl⟩, rfl⟩
  refine rs_seq (rs_to (fun e' c' => (∃ x, e' = [sl, .d (.int sp), .d (.int m), .d (.int t), .o f, x]) ∧ c' = cu c f (.lst (((L1 ++ L2).map PyData.str).map .d))) ?_ ?_)
  · walk_at "ss"
    refine mul_int (.inr ht) ?_
    walk_at "ss"
    refine re_new (rn_lcL ss (fun s => .d (stD s)) (fun s => .d (.int (s.1 + s.2.1))) ?_)
    walk_at "ss"
    refine ⟨by rw [(hd1 _).src, List.map_map]; rfl, by omega, fun D acc s _ _ => ?_, ss.map (fun s => .int (s.1 + s.2.1)), by rw [List.map_map]; rfl, ?_⟩
    · walk_at "ss"
      exact ⟨rfl, rfl⟩
    walk_at "ss"
    refine rl_sum (ns := ss.map (fun s => s.1 + s.2.1)) (by simp [lsrc]) ?_
    walk_at "ss"
    refine bb (fun h1 => ?_) (fun h1 => ?_)
    · walk_at "ss"
      refine ⟨f, rfl, ⟨_, cu_same ..⟩, ?_⟩
      walk_at "ss"
      refine ⟨_, cu_same .., by simp; omega, ⟨_, rfl⟩, ?_⟩
      rw [cu_cu]
      simp only [decide_eq_true_eq] at h1
      have h1 : m * t < rides ss := h1
      simp [L2, h1]
    · walk_at "ss"
      refine ⟨⟨_, rfl⟩, ?_⟩
      simp only [decide_eq_false_iff_not] at h1
      have h1 : ¬ m * t < rides ss := h1
      simp [L2, h1]
  rintro _ _ ⟨⟨x, rfl⟩, rfl⟩
  refine rs_seq (rs_to (fun e' c' => (∃ x, e' = [sl, .d (.int sp), .d (.int m), .d (.int t), .o f, x]) ∧ c' = cu c f (.lst (((L1 ++ (L2 ++ L3)).map PyData.str).map .d))) ?_ ?_)
  · walk_at "ss"
    refine mul_int (.inr ht) ?_
    walk_at "ss"
    refine re_new (rn_lcL ss (fun s => .d (stD s)) (fun s => .d (.int (s.1 + s.2.2 * t - 1))) ?_)
    walk_at "ss"
    refine ⟨by rw [(hd1 _).src, List.map_map]; rfl, by omega, fun D acc s _ _ => ?_, ss.map (fun s => .int (s.1 + s.2.2 * t - 1)), by rw [List.map_map]; rfl, ?_⟩
    · walk_at "ss"
      refine mul_int (.inr ht) ?_
      walk_at "ss"
      exact ⟨rfl, rfl⟩
    walk_at "ss"
    refine rl_sum (ns := ss.map (fun s => s.1 + s.2.2 * t - 1)) (by simp [lsrc]) ?_
    walk_at "ss"
    refine bb (fun h1 => ?_) (fun h1 => ?_)
    · walk_at "ss"
      refine ⟨f, rfl, ⟨_, cu_same ..⟩, ?_⟩
      walk_at "ss"
      refine ⟨_, cu_same .., by simp at lens ⊢; omega, ⟨_, rfl⟩, ?_⟩
      rw [cu_cu]
      simp only [decide_eq_true_eq] at h1
      have h1 : most ss t < m * t := h1
      simp [L3, h1]
    · walk_at "ss"
      refine ⟨⟨_, rfl⟩, ?_⟩
      simp only [decide_eq_false_iff_not] at h1
      have h1 : ¬ most ss t < m * t := h1
      simp [L3, h1]
  rintro _ _ ⟨⟨x, rfl⟩, rfl⟩
  refine rs_ret (re_varF rfl (cu_same ..) ?_)
  rw [cd_cu hf]
  exact q
abbrev s_Bars_shows : Stmt := inClass (top 3) 1
abbrev N_Bars_shows : List Str := ["self", "stations", "space", "many", "ticks"]
theorem sc_Bars_shows : FnScope N_Bars_shows ["self", "stations", "space", "many", "ticks"] (defScope s_Bars_shows) := ⟨rfl, rfl, rfl, by decide +kernel, rfl, by decide +kernel, by decide +kernel⟩
theorem ok_Bars_shows {P : Program} {w : World} {K : PySem.W.Frag} {mg : Str → Option Value} {base : Heap} (a : Ad) (B : Bltn mg) (T_Bars : Cl_Bars K mg a.Bars) (D_bars_of : DefG P w K mg base "bars_of" 1 ["stations", "space", "many", "ticks"] (P_bars_of a)) {fa : Addr} {fd : FuncData} (F : Fun K "shows" "Bars.shows" s_Bars_shows fa fd) : FnG P w K mg base 2 fa fd ["self", "stations", "space", "many", "ticks"] (spOf K 5 (P_Bars_shows a)) := by
  refine okG F sc_Bars_shows ?_
  intro cdv A out s H E g room xs c QS QE hl hp
  refine ⟨_, (pss_cons (ps_if (pt_cmpR (kEq (KK := K) room.units) (kFld (KK := K) (pv 0) (by rfl)) pe_str (nomark _))
        (pss_cons (ps_if (PW.pt (pw_or (pt_cmpR op_isN (kFld (KK := K) (pv 0) (by rfl)) pe_non (nomark _)) (pw_or1 (pt_not (pt_chain op_le op_lt pe_int (kFld (KK := K) (pv 0) (by rfl)) (pe_callB (kLen (KK := K)) (by rfl) B.h_len (by decide +kernel) (pa_cons (pv 1) pa_nil)))))))
        (pss_one (ps_ret pe_bl))
        pss_nil)
      (pss_one (ps_ret (pe_cmpR op_ge (pe_ix (kIx (KK := K)) (pe_ix (kIx (KK := K)) (pv 1) (kFld (KK := K) (pv 0) (by rfl)) (fun _ _ => rfl)) pe_int (fun _ _ => rfl)) (pe_op (kMul (KK := K)) (pe_ix (kIx (KK := K)) (pe_ix (kIx (KK := K)) (pv 1) (kFld (KK := K) (pv 0) (by rfl)) (fun _ _ => rfl)) pe_int (fun _ _ => rfl)) (pv 4)) (nomark _)))))
        pss_nil)
      (pss_one (ps_ret (pe_and (pe_cmpR op_isN (kFld (KK := K) (pv 0) (by rfl)) pe_non (nomark _)) (pe_one (pe_cmpR (kInD (KK := K) (u65 room)) (kFld (KK := K) (pv 0) (by rfl)) (pe_d D_bars_of g (room.mono (by decide)) (by rfl) passC (pa_cons (pv 1) (pa_cons (pv 2) (pa_cons (pv 3) (pa_cons (pv 4) pa_nil))))) (by rfl))))))), ?_⟩
  try dsimp only [L2.cxOf]
  obtain ⟨k, tx, st, sl, ss, sp, m, t, rfl, hk, htx, hni, hd, ht, hz, q⟩ := hp
  have hu := hd.nun
  walk_at "ss"
  refine ⟨_, _, _, _, rfl, hk, T_Bars.cl, T_Bars.n_text, fBars_t .., ?_⟩
  walk_at "ss"
  refine bb (fun h1 => ?_) (fun h1 => ?_)
  · walk_at "ss"
    refine ⟨_, _, _, _, rfl, hk, T_Bars.cl, T_Bars.n_station, fBars_s .., ?_⟩
    walk_at "ss"
    have h1 : tx = ("room" : Str) := by simpa using h1
    simp only [barsShows, h1, if_true] at q
    cases st <;> first | exact hni.elim | skip
    · walk_at "ss"
      exact q
    · rename_i n
      walk_at "ss"
      refine ⟨_, _, _, _, rfl, hk, T_Bars.cl, T_Bars.n_station, fBars_s .., ?_⟩
      walk_at "ss"
      refine bb (fun h2 => ?_) (fun h2 => ?_)
      · walk_at "ss"
        refine rl_lenL hd ?_
        rw [List.length_map]
        walk_at "ss"
        refine bb (fun h3 => ?_) (fun h3 => ?_)
        · walk_at "ss"
          simp only [Bool.not_eq_true', decide_eq_false_iff_not] at h3
          simp [roomBad, h3] at q
          exact q
        · walk_at "ss"
          simp at h2 h3
          obtain ⟨i, rfl⟩ : ∃ i : Nat, n = (i : Int) := ⟨n.toNat, by omega⟩
          obtain ⟨s, hs⟩ : ∃ s, ss[i]? = some s := ⟨ss[i]'(by omega), by simp⟩
          have hs' : (ss.map fun s => stD s)[i]? = some (stD s) := by rw [List.getElem?_map, hs]; rfl
          refine ⟨_, _, _, _, rfl, hk, T_Bars.cl, T_Bars.n_station, fBars_s .., ?_⟩
          refine ix_l hd hs' ?_
          walk_at "ss"
          refine ⟨_, _, _, _, rfl, hk, T_Bars.cl, T_Bars.n_station, fBars_s .., ?_⟩
          refine ix_l hd hs' ?_
          walk_at "ss"
          refine mul_int (.inr ht) ?_
          walk_at "ss"
          simp [roomBad, h2, h3, hs] at q
          simpa using q
      · walk_at "ss"
        simp at h2
        have : ¬ (0 : Int) ≤ n := by omega
        simp [roomBad, this] at q
        exact q
  · walk_at "ss"
    have h1 : ¬ tx = ("room" : Str) := by simpa using h1
    simp only [barsShows, h1, if_false] at q
    refine ⟨_, _, _, _, rfl, hk, T_Bars.cl, T_Bars.n_station, fBars_s .., ?_⟩
    walk_at "ss"
    refine bb (fun h2 => ?_) (fun h2 => ?_)
    · walk_at "ss"
      refine ⟨_, _, _, _, rfl, hk, T_Bars.cl, T_Bars.n_text, fBars_t .., ?_⟩
      walk_at "ss"
      refine ⟨rfl, sl, ss, sp, m, t, rfl, hd, ht, hz, ?_⟩
      refine r2_in (.d _) (.d _) htx ?_ ?_
      · exact barsL_shaped ..
      · rw [h2, Bool.true_and] at q
        have : ((barsL ss sp m t).map PyData.str).any (fun z => PyData.eqv z (.str tx)) = (barsL ss sp m t).contains tx := by
          rw [List.any_map, List.contains_eq_any_beq]
          congr 1
          funext z
          simp only [Function.comp, eqv_str]
          by_cases e : z = tx
          · simp [e]
          · have : tx ≠ z := fun h => e h.symm
            simp [e, this]
        rw [this]
        walk_at "ss"
        exact q
    · walk_at "ss"
      rw [h2, Bool.false_and] at q
      exact q
end Rp
namespace Rp
/-! ### plans -/
inductive Plan | keeps (ws : List Int) | bars (tx : Str) (st : PyData)
theorem cu3 {c : Ce} {x w : Addr} {a b d : Cell} (h : w ≠ x) : cu (cu (cu c x a) w b) x d = cu (cu c w b) x d := by
  funext y
  by_cases e : y = x
  · subst e; rw [cu_same, cu_same]
  · rw [cu_ne e, cu_ne e]
    by_cases e' : y = w
    · subst e'; rw [cu_same, cu_same]
    · rw [cu_ne e', cu_ne e', cu_ne e]
/-- which rooms never do -/
def badAt (ss : List St3) (t : Int) : Option Nat := ss.findIdx? fun s => decide (s.2.2 * t ≤ s.2.1)
def fillL : List St3 → Int → Int → List Int
  | [], _, _ => []
  | s :: r, t, left => (s.2.1 + min left (s.2.2 * t - 1 - s.2.1)) :: fillL r t (left - min left (s.2.2 * t - 1 - s.2.1))
def plan (ss : List St3) (sp m t : Int) : Plan := match badAt ss t with
  | some i => .bars "room" (.int (i : Nat))
  | none => match barsL ss sp m t with
    | b :: _ => .bars b .none
    | [] => .keeps (fillL ss t (m * t - rides ss))
def P_planned (a : Ad) : SpS := fun xs c Q QX => ∃ sl ss sp m t, xs = [sl, .d (.int sp), .d (.int m), .d (.int t)] ∧ SlD c sl (stsD ss) ∧ (∀ ns, sl ≠ .s ns) ∧ okSts ss ∧ (1 ≤ sp ∧ sp ≤ 9) ∧ (1 ≤ m ∧ m ≤ 36) ∧ (1 ≤ t ∧ t ≤ 60) ∧
  (∀ tx st, plan ss sp m t = .bars tx st → ∀ x, c x = none → Q (.o x) (cu c x (.ins a.Bars (fBars (.str tx) st)))) ∧
  (∀ ws, plan ss sp m t = .keeps ws → ∀ x w, c x = none → c w = none → x ≠ w → Q (.o x) (cu (cu c w (.lst ((ws.map PyData.int).map .d))) x (.ins a.Keeps (fKeeps w))))
abbrev s_planned : Stmt := top 18
abbrev N_planned : List Str := ["stations", "space", "many", "ticks", "at", "one", "bars", "waits", "left", "ride", "stay", "room", "more"]
theorem sc_planned : FnScope N_planned ["stations", "space", "many", "ticks"] (defScope s_planned) := ⟨rfl, rfl, rfl, by decide +kernel, rfl, by decide +kernel, by decide +kernel⟩
theorem ok_planned {P : Program} {w : World} {K : PySem.W.Frag} {mg : Str → Option Value} {base : Heap} (a : Ad) (B : Bltn mg) (R_BadCabins : ErrF K mg "BadCabins" a.BadCabins) (R_BadTicks : ErrF K mg "BadTicks" a.BadTicks) (T_Keeps : Cl_Keeps K mg a.Keeps) (T_Bars : Cl_Bars K mg a.Bars) (D_check_stations : DefG P w K mg base "check_stations" 4 ["stations"] (P_check_stations a)) (D_check_space : DefG P w K mg base "check_space" 3 ["space"] (P_check_space a)) (D_bars_of : DefG P w K mg base "bars_of" 1 ["stations", "space", "many", "ticks"] (P_bars_of a)) (D_within : DefG P w K mg base "within" 2 ["thing", "low", "high"] (P_within a)) (D_Keeps : MakeG P w K mg base "Keeps" a.Keeps 1 ["self", "waits"] (P_Keeps_init a)) (D_Bars : MakeG P w K mg base "Bars" a.Bars 1 ["self", "text", "station"] (P_Bars_init a)) {fa : Addr} {fd : FuncData} (F : Fun K "planned" "planned" s_planned fa fd) : FnG P w K mg base 5 fa fd ["stations", "space", "many", "ticks"] (spOf K 4 (P_planned a)) := by
  refine okG F sc_planned ?_
  intro cdv A out s H E g room xs c QS QE hl hp
  refine ⟨_, (pss_cons (ps_expr (pe_d D_check_stations g (room.mono (by decide)) (by rfl) passC (pa_cons (pv 0) pa_nil)))
      (pss_cons (ps_expr (pe_d D_check_space g (room.mono (by decide)) (by rfl) passC (pa_cons (pv 1) pa_nil)))
      (pss_cons (ps_if (pt_not (pt_val (pe_d D_within g (room.mono (by decide)) (by rfl) passC (pa_cons (pv 2) (pa_cons pe_int (pa_cons pe_int pa_nil))))))
        (pss_one (ps_raise rfl (takes_of rfl rfl rfl rfl) (pmk_own PySem.F.excBase_ValueError R_BadCabins.x R_BadCabins.g R_BadCabins.k (raises_own R_BadCabins.b R_BadCabins.t) rfl)))
        pss_nil)
      (pss_cons (ps_if (pt_not (pt_val (pe_d D_within g (room.mono (by decide)) (by rfl) passC (pa_cons (pv 3) (pa_cons pe_int (pa_cons pe_int pa_nil))))))
        (pss_one (ps_raise rfl (takes_of rfl rfl rfl rfl) (pmk_own PySem.F.excBase_ValueError R_BadTicks.x R_BadTicks.g R_BadTicks.k (raises_own R_BadTicks.b R_BadTicks.t) rfl)))
        pss_nil)
      (pss_cons (ps_for (passes_of rfl) rfl (kIEnum (KK := K) (by rfl) B.h_enumerate (pa_cons (pv 0) pa_nil)) (kGTup (KK := K) rfl (pgs_cons (pg_name (i := 4) sc_planned.nd (by rfl) (Or.inl rfl)) (pgs_cons (pg_name (i := 5) sc_planned.nd (by rfl) (Or.inl rfl)) pgs_nil)))
        (pss_one (ps_if (pt_cmpR op_ge (pe_ix (kIx (KK := K)) (pv 5) pe_int (fun _ _ => rfl)) (pe_op (kMul (KK := K)) (pe_ix (kIx (KK := K)) (pv 5) pe_int (fun _ _ => rfl)) (pv 3)) (nomark _))
        (pss_one (ps_ret (pe_k D_Bars g (room.mono (by decide)) (by rfl) passC (pa_cons pe_str (pa_cons (pv 4) pa_nil)))))
        pss_nil)))
      (pss_cons (ps_set (i := 6) sc_planned.nd (by rfl) (Or.inl rfl) (pe_d D_bars_of g (room.mono (by decide)) (by rfl) passC (pa_cons (pv 0) (pa_cons (pv 1) (pa_cons (pv 2) (pa_cons (pv 3) pa_nil))))))
      (pss_cons (ps_if (pt_cmpR (kNe (KK := K) room.units) (pv 6) (pe_lst pa_nil) (nomark _))
        (pss_one (ps_ret (pe_k D_Bars g (room.mono (by decide)) (by rfl) passC (pa_cons (pe_ix (kIx (KK := K)) (pv 6) pe_int (fun _ _ => rfl)) (pa_cons pe_non pa_nil)))))
        pss_nil)
      (pss_cons (ps_par (i := 7) (j := 8) rfl sc_planned.nd (by rfl) (by rfl) (by decide) rfl rfl (pa_cons (pe_lst pa_nil) (pa_cons (pe_op op_sub (pe_op (kMul (KK := K)) (pv 2) (pv 3)) (pe_callB (kSum (KK := K) rfl) (by rfl) B.h_sum (by decide +kernel) (pa_cons (pe_lc (own := [("one", 5)]) (g := gName 5) (tt := tYes) rfl sc_planned.nd (kIList (KK := K) (pv 0)) (blkOk_by (by kernel_rfl)) (fun _ _ _ _ _ => (pg_name (i := 5) sc_planned.nd (by rfl) (Or.inl rfl))) (fun _ _ _ _ _ => pts_nil) (fun _ _ _ _ _ => (pe_op (kAdd (KK := K)) (pe_ix (kIx (KK := K)) (pv 5) pe_int (fun _ _ => rfl)) (pe_ix (kIx (KK := K)) (pv 5) pe_int (fun _ _ => rfl))))) pa_nil))) pa_nil)) (by rfl))
      (pss_cons (ps_for (passes_of rfl) rfl (kIList (KK := K) (pv 0)) (kGTup (KK := K) rfl (pgs_cons (pg_name (i := 9) sc_planned.nd (by rfl) (Or.inl rfl)) (pgs_cons (pg_name (i := 10) sc_planned.nd (by rfl) (Or.inl rfl)) (pgs_cons (pg_name (i := 11) sc_planned.nd (by rfl) (Or.inl rfl)) pgs_nil))))
        (pss_cons (ps_set (i := 12) sc_planned.nd (by rfl) (Or.inl rfl) (pe_callB (call_min2 rfl) (by rfl) B.h_min (by decide +kernel) (pa_cons (pv 8) (pa_cons (pe_op op_sub (pe_op op_sub (pe_op (kMul (KK := K)) (pv 11) (pv 3)) pe_int) (pv 10)) pa_nil))))
      (pss_cons (ps_expr (kAppend (KK := K) (pv 7) (pa_cons (pe_op (kAdd (KK := K)) (pv 10) (pv 12)) pa_nil)))
      (pss_one (ps_aug (i := 8) sc_planned.nd (by rfl) (Or.inl rfl) (pv 12) ip_sub)))))
      (pss_one (ps_ret (pe_k D_Keeps g (room.mono (by decide)) (by rfl) passC (pa_cons (pv 7) pa_nil))))))))))))), ?_⟩
  try dsimp only [L2.cxOf]
  obtain ⟨sl, ss, sp, m, t, rfl, hd, hns, hok, hsp, hm, ht, q1, q2⟩ := hp
  have hu := hd.nun
  have st : small t := ⟨by omega, by omega⟩
  have hl : ss.length ≤ 4 := hok.1.2
  walk_at "ss"
  refine ⟨rfl, sl, stsD ss, rfl, hd, hns, fun _ => ?_, fun h => ?_⟩
  rotate_left
  · rw [stOk_sts hok] at h; cases h
  walk_at "ss"
  refine ⟨rfl, .int sp, rfl, fun _ => ?_, fun h => ?_⟩
  rotate_left
  · simp [inRange] at h; omega
  walk_at "ss"
  refine ⟨rfl, .int m, 1, 36, rfl, ?_⟩
  walk_at "ss"
  refine bb (fun h => ?_) (fun _ => ?_)
  · simp [inRange] at h; omega
  walk_at "ss"
  refine ⟨rfl, .int t, 1, 60, rfl, ?_⟩
  walk_at "ss"
  refine bb (fun h => ?_) (fun _ => ?_)
  · simp [inRange] at h; omega
  walk_at "ss"
  refine rs_forE ss (fun s => .d (stD s)) (fun i e c' => c' = c ∧ (∃ x y, e = [sl, .d (.int sp), .d (.int m), .d (.int t), x, y, .un, .un, .un, .un, .un, .un, .un]) ∧ ∀ s ∈ ss.take i, ¬ s.2.2 * t ≤ s.2.1) ?_
  walk_at "ss"
  refine ⟨⟨rfl, ⟨_, _, rfl⟩, by simp⟩, ?_, ?_, ?_⟩
  · rintro i e c' _ ⟨rfl, _, _⟩
    rw [hd.src, List.map_map]; rfl
  · rintro i s e c' hi ⟨rfl, ⟨x, y, rfl⟩, hall⟩
    walk_at "ss"
    refine mul_int (.inr st) ?_
    walk_at "ss"
    refine bb (fun h => ?_) (fun h => ?_)
    · have hb : badAt ss t = some i := by
        have hlt : i < ss.length := (List.getElem?_eq_some_iff.mp hi).1
        have e : ss[i] = s := (List.getElem?_eq_some_iff.mp hi).2
        refine List.findIdx?_eq_some_iff_getElem.mpr ⟨hlt, ?_, fun j hj => ?_⟩
        · rw [e]; simpa using h
        · have := hall ss[j] (List.mem_take_iff_getElem.mpr ⟨j, by omega, rfl⟩)
          simpa using this
      walk_at "ss"
      intro x hx
      refine ⟨rfl, x, _, _, rfl, cu_same .., rfl, ?_⟩
      rw [cu_cu]
      exact q1 _ _ (by rw [plan, hb]) x hx
    · walk_at "ss"
      refine ⟨rfl, ⟨_, _, rfl⟩, ?_⟩
      intro s' hs'
      rw [List.take_add_one, hi] at hs'
      rcases List.mem_append.mp hs' with h' | h'
      · exact hall _ h'
      · have : s' = s := by simpa using h'
        subst this
        simpa using h
  rintro e c' ⟨rfl, ⟨x, y, rfl⟩, hall⟩
  have hb : badAt ss t = none := by
    refine List.findIdx?_eq_none_iff.mpr fun s hs => ?_
    have := hall s (by rw [List.take_length]; exact hs)
    simpa using this
  walk_at "ss"
  refine ⟨rfl, sl, ss, sp, m, t, rfl, hd, st, by omega, ?_⟩
  walk_at "ss"
  refine re_new (rn_lst ?_)
  walk_at "ss"
  refine r2_ne (.d _) (.d _) (barsL_shaped ..) rfl ?_
  cases hbl : barsL ss sp m t with
  | cons b r =>
    walk_at "ss"
    refine r2_ix (.inl (r2_ixL rfl (atI_of (i := 0) rfl) ?_))
    walk_at "ss"
    intro x hx
    refine ⟨rfl, x, _, _, rfl, cu_same .., rfl, ?_⟩
    rw [cu_cu]
    exact q1 _ _ (by simp only [plan, hb, hbl]) x hx
  | nil =>
    walk_at "ss"
    refine re_own (rn_lst ?_)
    walk_at "ss"
    refine ⟨by simp, fun w hw => ?_⟩
    have hd1 : ∀ x, SlD (cu c' w x) sl (stsD ss) := fun x => hd.old hw
    walk_at "ss"
    refine mul_int (.inr st) ?_
    walk_at "ss"
    refine re_new (rn_lcL ss (fun s => .d (stD s)) (fun s => .d (.int (s.1 + s.2.1))) ?_)
    walk_at "ss"
    refine ⟨by rw [(hd1 _).src, List.map_map]; rfl, by omega, fun D acc s _ _ => ?_, ss.map (fun s => .int (s.1 + s.2.1)), by rw [List.map_map]; rfl, ?_⟩
    · walk_at "ss"
      exact ⟨rfl, rfl⟩
    walk_at "ss"
    refine rl_sum (ns := ss.map (fun s => s.1 + s.2.1)) (by simp [lsrc]) ?_
    walk_at "ss"
    refine ⟨_, _, rfl, ?_⟩
    refine rs_seq (rs_forL ss (fun s => .d (stD s)) (fun i e c1 => ∃ acc left x y z a b f g, e = [sl, .d (.int sp), .d (.int m), .d (.int t), x, y, z, .o w, .d (.int left), a, b, f, g] ∧ c1 = cu c' w (.lst ((acc.map PyData.int).map .d)) ∧
      fillL ss t (m * t - rides ss) = acc ++ fillL (ss.drop i) t left ∧ acc.length = i) ?_)
    walk_at "ss"
    refine ⟨⟨[], _, _, _, _, _, _, _, _, rfl, rfl, rfl, rfl⟩, ?_, ?_, ?_⟩
    · rintro i e c1 _ ⟨acc, left, x, y, z, a, b, f, g, rfl, rfl, _, _⟩
      rw [(hd1 _).src, List.map_map]; rfl
    · rintro i s e c1 hi ⟨acc, left, x, y, z, a, b, f, g, rfl, rfl, hf, hacc⟩
      have hlt : i < ss.length := (List.getElem?_eq_some_iff.mp hi).1
      have he : ss[i] = s := (List.getElem?_eq_some_iff.mp hi).2
      refine rgm_one (rg_tup rfl ?_)
      walk_at "ss"
      refine mul_int (.inr st) ?_
      walk_at "ss"
      refine ⟨w, rfl, ⟨_, cu_same ..⟩, ?_⟩
      walk_at "ss"
      refine ⟨_, cu_same .., by simp; omega, ?_⟩
      rw [cu_cu]
      refine rs_aug (sl := .d (.int left)) rfl (by intro h; cases h) ?_
      walk_at "ss"
      have hmin : (if s.2.2 * t - 1 - s.2.1 < left then s.2.2 * t - 1 - s.2.1 else left) = min left (s.2.2 * t - 1 - s.2.1) := by
        rw [Int.min_def]; split <;> split <;> omega
      rw [hmin]
      refine ⟨acc ++ [s.2.1 + min left (s.2.2 * t - 1 - s.2.1)], _, _, _, _, _, _, _, _, rfl, by simp, ?_, by simp [hacc]⟩
      rw [hf, List.drop_eq_getElem_cons hlt, he]
      simp [fillL]
    · rintro e c1 ⟨acc, left, x, y, z, a, b, f, g, rfl, rfl, hf, hacc⟩
      have hf : fillL ss t (m * t - rides ss) = acc := by
        rw [hf, List.drop_length]; simp [fillL]
      refine rs_ret (re_make (ra_cons (re_varF rfl (cu_same ..) ?_)))
      rw [cd_cu hw]
      walk_at "ss"
      intro x hx
      refine ⟨rfl, x, _, _, rfl, cu_same .., .d _, by simp; omega, fun v hv => ⟨rfl, ?_⟩⟩
      have hxv : v ≠ x := fun e => by rw [e, cu_same] at hv; cases hv
      rw [cu3 hxv]
      rw [cu_ne hxv] at hv
      exact q2 acc (by simp only [plan, hb, hbl, hf]) x v hx hv hxv.symm
end Rp
namespace Rp
/-! ### numbers by the cells -/
def cellAt (ns : List Int) (k : Nat) : Int := (ns[k]?).getD 0
def P_law_cell_at (_ : Ad) : SpS := fun xs c Q _ => ∃ (ns : List Int) (k : Nat), xs = [.s ns, .d (.int (k : Nat))] ∧ Q (.d (.int (cellAt ns k))) c
def P_law_draw (_ : Ad) : SpS := fun xs c Q _ => ∃ (cell k m : Int), xs = [.d (.int cell), .d (.int k), .d (.int m)] ∧ 0 ≤ k ∧ k ≤ 100000 ∧ 0 < m ∧ ∀ n, 0 ≤ n → n < m → Q (.d (.int n)) c
def P_law_number (_ : Ad) : SpS := fun xs c Q _ => ∃ (cell k m : Int), xs = [.d (.int cell), .d (.int k), .d (.int m)] ∧ 0 ≤ k ∧ k ≤ 100000 ∧ 0 < m ∧ ∀ n, 0 ≤ n → n < m → Q (.d (.int n)) c
abbrev s_law_cell_at : Stmt := top 20
abbrev N_law_cell_at : List Str := ["_law_script", "_law_k"]
theorem sc_law_cell_at : FnScope N_law_cell_at ["_law_script", "_law_k"] (defScope s_law_cell_at) := ⟨rfl, rfl, rfl, by decide +kernel, rfl, by decide +kernel, by decide +kernel⟩
theorem ok_law_cell_at {P : Program} {w : World} {K : PySem.W.Frag} {mg : Str → Option Value} {base : Heap} (a : Ad) (B : Bltn mg)  {fa : Addr} {fd : FuncData} (F : Fun K "_law_cell_at" "_law_cell_at" s_law_cell_at fa fd) : FnG P w K mg base 1 fa fd ["_law_script", "_law_k"] (spOf K 2 (P_law_cell_at a)) := by
  refine okG F sc_law_cell_at ?_
  intro cdv A out s H E g room xs c QS QE hl hp
  refine ⟨_, (pss_cons (ps_if (pt_cmpR op_lt (pv 1) (pe_callB (kLen (KK := K)) (by rfl) B.h_len (by decide +kernel) (pa_cons (pv 0) pa_nil)) (nomark _))
        (pss_one (ps_ret (pe_ix (kIx (KK := K)) (pv 0) (pv 1) (fun _ _ => rfl))))
        pss_nil)
      (pss_one (ps_ret pe_int))), ?_⟩
  try dsimp only [L2.cxOf]
  obtain ⟨ns, k, rfl, q⟩ := hp
  walk_at "ss"
  refine rl_len (xs := ns.map fun n => .d (.int n)) (.inl (by rfl)) ?_
  rw [List.length_map]
  walk_at "ss"
  refine bb (fun h => ?_) (fun h => ?_)
  · walk_at "ss"
    have h : k < ns.length := by simpa using h
    refine r2_ix (.inl (r2_ixL (xs := ns.map fun n => .d (.int n)) (by rfl) (atI_of (y := .d (.int ns[k])) (by rw [List.getElem?_map, List.getElem?_eq_getElem h]; rfl)) ?_))
    have : cellAt ns k = ns[k] := by simp [cellAt, h]
    rw [this] at q
    exact q
  · walk_at "ss"
    have h : ¬ k < ns.length := by simpa using h
    have : cellAt ns k = 0 := by simp [cellAt, List.getElem?_eq_none (Nat.le_of_not_lt h)]
    rw [this] at q
    exact q
abbrev s_law_draw : Stmt := top 21
abbrev N_law_draw : List Str := ["_law_cell", "_law_k", "_law_most", "_law_primes"]
theorem sc_law_draw : FnScope N_law_draw ["_law_cell", "_law_k", "_law_most"] (defScope s_law_draw) := ⟨rfl, rfl, rfl, by decide +kernel, rfl, by decide +kernel, by decide +kernel⟩
theorem ok_law_draw {P : Program} {w : World} {K : PySem.W.Frag} {mg : Str → Option Value} {base : Heap} (a : Ad) (B : Bltn mg)  {fa : Addr} {fd : FuncData} (F : Fun K "_law_draw" "_law_draw" s_law_draw fa fd) : FnG P w K mg base 1 fa fd ["_law_cell", "_law_k", "_law_most"] (spOf K 3 (P_law_draw a)) := by
  refine okG F sc_law_draw ?_
  intro cdv A out s H E g room xs c QS QE hl hp
  refine ⟨_, (pss_cons (ps_set (i := 3) sc_law_draw.nd (by rfl) (Or.inl rfl) (pe_tup (pa_cons pe_int (pa_cons pe_int (pa_cons pe_int (pa_cons pe_int (pa_cons pe_int (pa_cons pe_int (pa_cons pe_int (pa_cons pe_int (pa_cons pe_int (pa_cons pe_int (pa_cons pe_int (pa_cons pe_int (pa_cons pe_int (pa_cons pe_int (pa_cons pe_int (pa_cons pe_int pa_nil))))))))))))))))))
      (pss_one (ps_ret (pe_op op_mod (pe_op op_mod (pe_op (kAdd (KK := K)) (pe_op (kMul (KK := K)) (pv 0) pe_int) (pe_op (kMul (KK := K)) (pv 1) pe_int)) (pe_ix (kIx (KK := K)) (pv 3) (pe_op op_mod (pv 1) pe_int) (fun _ _ => rfl))) (pv 2))))), ?_⟩
  try dsimp only [L2.cxOf]
  obtain ⟨cell, k, m, rfl, h0, h1, hm, q⟩ := hp
  walk_at "ss"
  refine re_tup ?_
  walk_at "ss"
  refine ⟨[.int 1000003, .int 1000033, .int 1000037, .int 1000039, .int 1000081, .int 1000099, .int 1000117, .int 1000121, .int 1000133, .int 1000151, .int 1000159, .int 1000171, .int 1000183, .int 1000187, .int 1000193, .int 1000199], rfl, by simp, ?_⟩
  walk_at "ss"
  refine mul_int (.inr ⟨by omega, by omega⟩) ?_
  walk_at "ss"
  refine mul_int (.inr ⟨by omega, by omega⟩) ?_
  walk_at "ss"
  refine r2_intC (C := fun _ j => 0 < j) (g := fun i j => i % j) (by omega) ?_
  refine ix_ints (l := [1000003, 1000033, 1000037, 1000039, 1000081, 1000099, 1000117, 1000121, 1000133, 1000151, 1000159, 1000171, 1000183, 1000187, 1000193, 1000199]) (by omega) (by simp; omega) fun p hp => ?_
  have hp : 0 < p := by revert p; decide
  refine r2_intC (C := fun _ j => 0 < j) (g := fun i j => i % j) hp ?_
  walk_at "ss"
  refine r2_intC (C := fun _ j => 0 < j) (g := fun i j => i % j) hm ?_
  exact q _ (Int.emod_nonneg _ (by omega)) (Int.emod_lt_of_pos _ hm)
abbrev s_law_number : Stmt := top 22
abbrev N_law_number : List Str := ["_law_cell", "_law_k", "_law_limit", "_law_small"]
theorem sc_law_number : FnScope N_law_number ["_law_cell", "_law_k", "_law_limit"] (defScope s_law_number) := ⟨rfl, rfl, rfl, by decide +kernel, rfl, by decide +kernel, by decide +kernel⟩
theorem ok_law_number {P : Program} {w : World} {K : PySem.W.Frag} {mg : Str → Option Value} {base : Heap} (a : Ad) (B : Bltn mg) (D_law_draw : DefG P w K mg base "_law_draw" 1 ["_law_cell", "_law_k", "_law_most"] (P_law_draw a)) {fa : Addr} {fd : FuncData} (F : Fun K "_law_number" "_law_number" s_law_number fa fd) : FnG P w K mg base 2 fa fd ["_law_cell", "_law_k", "_law_limit"] (spOf K 3 (P_law_number a)) := by
  refine okG F sc_law_number ?_
  intro cdv A out s H E g room xs c QS QE hl hp
  refine ⟨_, (pss_cons (ps_if (pt_cmpR op_ge (pv 0) (pe_op op_pow pe_int pe_int) (nomark _))
        (pss_one (ps_ret (pe_op op_mod (pe_op op_fdiv (pe_op op_sub (pv 0) (pe_op op_pow pe_int pe_int)) (pe_ix (kIx (KK := K)) (pe_tup (pa_cons pe_int (pa_cons pe_int (pa_cons pe_int (pa_cons pe_int (pa_cons pe_int pa_nil)))))) (pe_op op_mod (pv 1) pe_int) (fun _ _ => rfl))) (pv 2))))
        pss_nil)
      (pss_cons (ps_set (i := 3) sc_law_number.nd (by rfl) (Or.inl rfl) (pe_op op_mod (pv 0) pe_int))
      (pss_one (ps_ret (pe_op op_mod (pe_d D_law_draw g (room.mono (by decide)) (by rfl) passC (pa_cons (pe_op (kMul (KK := K)) (pe_op (kAdd (KK := K)) (pv 3) (pe_op (kMul (KK := K)) pe_int (pv 1))) (pe_op (kAdd (KK := K)) (pe_op (kAdd (KK := K)) (pv 3) (pe_op (kMul (KK := K)) pe_int (pv 1))) pe_int)) (pa_cons (pe_op (kAdd (KK := K)) (pe_op op_mod (pv 1) pe_int) pe_int) (pa_cons pe_int pa_nil)))) (pv 2)))))), ?_⟩
  try dsimp only [L2.cxOf]
  obtain ⟨cell, k, m, rfl, h0, h1, hm, q⟩ := hp
  walk_at "ss"
  refine r2_intC (C := CPow) (g := fun i j => i ^ j.toNat) (by unfold CPow; decide) ?_
  walk_at "ss"
  refine bb (fun h => ?_) (fun h => ?_)
  · walk_at "ss"
    refine r2_intC (C := CPow) (g := fun i j => i ^ j.toNat) (by unfold CPow; decide) ?_
    walk_at "ss"
    refine re_tup ?_
    walk_at "ss"
    refine r2_intC (C := fun _ j => 0 < j) (g := fun i j => i % j) (by omega) ?_
    refine ix_ints (l := [1, 7, 49, 343, 2401]) (by omega) (by simp; omega) fun p hp => ?_
    have hp : 0 < p ∧ p < 1073741824 := by revert p; decide
    refine r2_intC (C := CDiv) (g := fun i j => i / j) hp ?_
    walk_at "ss"
    refine r2_intC (C := fun _ j => 0 < j) (g := fun i j => i % j) hm ?_
    exact q _ (Int.emod_nonneg _ (by omega)) (Int.emod_lt_of_pos _ hm)
  · walk_at "ss"
    refine r2_intC (C := fun _ j => 0 < j) (g := fun i j => i % j) (by omega) ?_
    walk_at "ss"
    have b1 := Int.emod_nonneg cell (show (1000003 : Int) ≠ 0 by omega)
    have b2 := Int.emod_lt_of_pos cell (show (0 : Int) < 1000003 by omega)
    refine mul_int (.inl ⟨by omega, by omega⟩) ?_
    walk_at "ss"
    refine mul_int (.inl ⟨by omega, by omega⟩) ?_
    walk_at "ss"
    refine mul_int (.inl ⟨by omega, by omega⟩) ?_
    walk_at "ss"
    refine r2_intC (C := fun _ j => 0 < j) (g := fun i j => i % j) (by omega) ?_
    walk_at "ss"
    refine ⟨rfl, _, _, _, rfl, by omega, by omega, by omega, fun n _ _ => ?_⟩
    walk_at "ss"
    refine r2_intC (C := fun _ j => 0 < j) (g := fun i j => i % j) hm ?_
    exact q _ (Int.emod_nonneg _ (by omega)) (Int.emod_lt_of_pos _ hm)
end Rp
namespace Rp
abbrev planD (ss : List St3) (sp m t : Int) : PyData := .tuple [stsD ss, .int sp, .int m, .int t]
def okPlan (ss : List St3) (sp m t : Int) : Prop := okSts ss ∧ (1 ≤ sp ∧ sp ≤ 9) ∧ (1 ≤ m ∧ m ≤ 36) ∧ (1 ≤ t ∧ t ≤ 60)
def P_law_plan (_ : Ad) : SpS := fun xs c Q _ => ∃ (ns : List Int) (k : Nat), xs = [.s ns, .d (.int (k : Nat))] ∧ k ≤ 100 ∧ ∀ ss sp m t, okPlan ss sp m t → Q (.d (planD ss sp m t)) c
abbrev s_law_plan : Stmt := top 23
abbrev N_law_plan : List Str := ["_law_script", "_law_by", "_law_cell", "_law_kind", "_law_stations", "_law_at", "_law_other", "_law_road", "_law_stay", "_law_space", "_law_ticks", "_law_many", "_law_one"]
theorem sc_law_plan : FnScope N_law_plan ["_law_script", "_law_by"] (defScope s_law_plan) := ⟨rfl, rfl, rfl, by decide +kernel, rfl, by decide +kernel, by decide +kernel⟩
theorem ok_law_plan {P : Program} {w : World} {K : PySem.W.Frag} {mg : Str → Option Value} {base : Heap} (a : Ad) (B : Bltn mg) (D_law_cell_at : DefG P w K mg base "_law_cell_at" 1 ["_law_script", "_law_k"] (P_law_cell_at a)) (D_law_number : DefG P w K mg base "_law_number" 2 ["_law_cell", "_law_k", "_law_limit"] (P_law_number a)) {fa : Addr} {fd : FuncData} (F : Fun K "_law_plan" "_law_plan" s_law_plan fa fd) : FnG P w K mg base 3 fa fd ["_law_script", "_law_by"] (spOf K 2 (P_law_plan a)) := by
  refine okG F sc_law_plan ?_
  intro cdv A out s H E g room xs c QS QE hl hp
  refine ⟨_, (pss_cons (ps_set (i := 2) sc_law_plan.nd (by rfl) (Or.inl rfl) (pe_d D_law_cell_at g (room.mono (by decide)) (by rfl) passC (pa_cons (pv 0) (pa_cons (pv 1) pa_nil))))
      (pss_cons (ps_par (i := 3) (j := 4) rfl sc_law_plan.nd (by rfl) (by rfl) (by decide) rfl rfl (pa_cons (pe_d D_law_number g (room.mono (by decide)) (by rfl) passC (pa_cons (pv 2) (pa_cons (pe_op (kAdd (KK := K)) (pv 1) pe_int) (pa_cons pe_int pa_nil)))) (pa_cons (pe_lst pa_nil) pa_nil)) (by rfl))
      (pss_cons (ps_for (passes_of rfl) rfl (pi_range1 (by rfl) B.h_range (pa_cons (pe_op (kAdd (KK := K)) pe_int (pe_d D_law_number g (room.mono (by decide)) (by rfl) passC (pa_cons (pv 2) (pa_cons (pe_op (kAdd (KK := K)) (pv 1) pe_int) (pa_cons pe_int pa_nil))))) pa_nil)) (pg_name (i := 5) sc_law_plan.nd (by rfl) (Or.inl rfl))
        (pss_cons (ps_set (i := 6) sc_law_plan.nd (by rfl) (Or.inl rfl) (pe_op (kAdd (KK := K)) (pe_d D_law_cell_at g (room.mono (by decide)) (by rfl) passC (pa_cons (pv 0) (pa_cons (pe_op (kAdd (KK := K)) (pe_op (kAdd (KK := K)) (pv 1) (pv 5)) pe_int) pa_nil))) (pe_op (kMul (KK := K)) pe_int (pv 5))))
      (pss_cons (ps_par (i := 7) (j := 8) rfl sc_law_plan.nd (by rfl) (by rfl) (by decide) rfl rfl (pa_cons (pe_op (kAdd (KK := K)) pe_int (pe_d D_law_number g (room.mono (by decide)) (by rfl) passC (pa_cons (pv 6) (pa_cons (pe_op (kAdd (KK := K)) (pv 5) pe_int) (pa_cons pe_int pa_nil))))) (pa_cons (pe_d D_law_number g (room.mono (by decide)) (by rfl) passC (pa_cons (pv 6) (pa_cons (pe_op (kAdd (KK := K)) (pv 5) pe_int) (pa_cons pe_int pa_nil)))) pa_nil)) (by rfl))
      (pss_one (ps_expr (kAppend (KK := K) (pv 4) (pa_cons (pe_tup (pa_cons (pv 7) (pa_cons (pv 8) (pa_cons (pe_op (kAdd (KK := K)) pe_int (pe_d D_law_number g (room.mono (by decide)) (by rfl) passC (pa_cons (pv 6) (pa_cons (pe_op (kAdd (KK := K)) (pv 5) pe_int) (pa_cons (pe_ifExp (pt_cmpR op_lt (pv 3) pe_int (nomark _)) pe_int pe_int) pa_nil))))) pa_nil)))) pa_nil)))))))
      (pss_cons (ps_asg (pe_tup (pa_cons (pe_op (kAdd (KK := K)) pe_int (pe_d D_law_number g (room.mono (by decide)) (by rfl) passC (pa_cons (pv 2) (pa_cons (pe_op (kAdd (KK := K)) (pv 1) pe_int) (pa_cons pe_int pa_nil))))) (pa_cons (pe_op (kAdd (KK := K)) pe_int (pe_d D_law_number g (room.mono (by decide)) (by rfl) passC (pa_cons (pv 2) (pa_cons (pe_op (kAdd (KK := K)) (pv 1) pe_int) (pa_cons (pe_ifExp (pt_cmpR (kEq (KK := K) room.units) (pv 3) pe_int (nomark _)) pe_int pe_int) pa_nil))))) pa_nil))) (kGTup (KK := K) rfl (pgs_cons (pg_name (i := 9) sc_law_plan.nd (by rfl) (Or.inl rfl)) (pgs_cons (pg_name (i := 10) sc_law_plan.nd (by rfl) (Or.inr rfl)) pgs_nil))))
      (pss_cons (ps_set (i := 11) sc_law_plan.nd (by rfl) (Or.inl rfl) (pe_op (kAdd (KK := K)) pe_int (pe_d D_law_number g (room.mono (by decide)) (by rfl) passC (pa_cons (pv 2) (pa_cons (pe_op (kAdd (KK := K)) (pv 1) pe_int) (pa_cons pe_int pa_nil))))))
      (pss_cons (ps_if (pt_cmpR (kEq (KK := K) room.units) (pv 3) pe_int (nomark _))
        (pss_one (ps_set (i := 11) sc_law_plan.nd (by rfl) (Or.inl rfl) (pe_op (kAdd (KK := K)) (pe_op op_fdiv (pe_callB (kSum (KK := K) rfl) (by rfl) B.h_sum (by decide +kernel) (pa_cons (pe_lc (own := [("_law_one", 12)]) (g := gName 12) (tt := tYes) rfl sc_law_plan.nd (kIList (KK := K) (pv 4)) (blkOk_by (by kernel_rfl)) (fun _ _ _ _ _ => (pg_name (i := 12) sc_law_plan.nd (by rfl) (Or.inl rfl))) (fun _ _ _ _ _ => pts_nil) (fun _ _ _ _ _ => (pe_op (kAdd (KK := K)) (pe_ix (kIx (KK := K)) (pv 12) pe_int (fun _ _ => rfl)) (pe_ix (kIx (KK := K)) (pv 12) pe_int (fun _ _ => rfl))))) pa_nil)) (pv 10)) (pe_d D_law_number g (room.mono (by decide)) (by rfl) passC (pa_cons (pv 2) (pa_cons (pe_op (kAdd (KK := K)) (pv 1) pe_int) (pa_cons pe_int pa_nil)))))))
        pss_nil)
      (pss_cons (ps_if (pt_cmpR (kEq (KK := K) room.units) (pv 3) pe_int (nomark _))
        (pss_one (ps_set (i := 11) sc_law_plan.nd (by rfl) (Or.inl rfl) (pe_op (kAdd (KK := K)) (pe_op op_fdiv (pe_callB (kSum (KK := K) rfl) (by rfl) B.h_sum (by decide +kernel) (pa_cons (pe_lc (own := [("_law_one", 12)]) (g := gName 12) (tt := tYes) rfl sc_law_plan.nd (kIList (KK := K) (pv 4)) (blkOk_by (by kernel_rfl)) (fun _ _ _ _ _ => (pg_name (i := 12) sc_law_plan.nd (by rfl) (Or.inl rfl))) (fun _ _ _ _ _ => pts_nil) (fun _ _ _ _ _ => (pe_op op_sub (pe_op (kAdd (KK := K)) (pe_ix (kIx (KK := K)) (pv 12) pe_int (fun _ _ => rfl)) (pe_op (kMul (KK := K)) (pe_ix (kIx (KK := K)) (pv 12) pe_int (fun _ _ => rfl)) (pv 10))) pe_int))) pa_nil)) (pv 10)) (pe_d D_law_number g (room.mono (by decide)) (by rfl) passC (pa_cons (pv 2) (pa_cons (pe_op (kAdd (KK := K)) (pv 1) pe_int) (pa_cons pe_int pa_nil)))))))
        pss_nil)
      (pss_one (ps_ret (pe_tup (pa_cons (pv 4) (pa_cons (pv 9) (pa_cons (pe_callB (call_max2 rfl) (by rfl) B.h_max (by decide +kernel) (pa_cons pe_int (pa_cons (pe_callB (call_min2 rfl) (by rfl) B.h_min (by decide +kernel) (pa_cons pe_int (pa_cons (pv 11) pa_nil))) pa_nil))) (pa_cons (pv 10) pa_nil)))))))))))))), ?_⟩
  try dsimp only [L2.cxOf]
  obtain ⟨ns, k, rfl, hk, q⟩ := hp
  walk_at "ss"
  refine ⟨rfl, ns, k, rfl, ?_⟩
  walk_at "ss"
  refine ⟨rfl, _, _, _, rfl, by omega, by omega, by omega, fun kind k0 k1 => ?_⟩
  walk_at "ss"
  refine re_own (rn_lst ?_)
  walk_at "ss"
  refine ⟨by simp, fun p hp => ?_⟩
  walk_at "ss"
  refine ⟨_, _, rfl, ?_⟩
  refine rs_seq ?_
  refine rs_forR_ ?_
  walk_at "ss"
  refine ⟨rfl, _, _, _, rfl, by omega, by omega, by omega, fun j j0 j1 => ?_⟩
  walk_at "ss"
  obtain ⟨j, rfl⟩ : ∃ i : Nat, j = (i : Int) := ⟨j.toNat, by omega⟩
  have j1 : j < 4 := by omega
  refine ⟨1 + j, fun i e c' => ∃ (ss : List St3) (x y z u : Sl), e = [.s ns, .d (.int (k : Nat)), .d (.int (cellAt ns k)), .d (.int kind), .o p, x, y, z, u, .un, .un, .un, .un] ∧ c' = cu c p (.lst ((ss.map stD).map .d)) ∧ ss.length = i ∧ ∀ s ∈ ss, okSt s, by rw [Int.natCast_add]; rfl, by omega, ⟨[], _, _, _, _, rfl, rfl, rfl, by simp⟩, ?_, ?_⟩
  · rintro i e c' hi ⟨ss, x, y, z, u, rfl, rfl, hl2, hok⟩
    walk_at "ss"
    refine ⟨rfl, ns, k + i + 1, rfl, ?_⟩
    walk_at "ss"
    refine mul_int (.inl ⟨by omega, by omega⟩) ?_
    walk_at "ss"
    refine ⟨rfl, _, _, _, rfl, by omega, by omega, by omega, fun n1 a1 b1 => ?_⟩
    walk_at "ss"
    refine ⟨rfl, _, _, _, rfl, by omega, by omega, by omega, fun n2 a2 b2 => ?_⟩
    walk_at "ss"
    refine ⟨_, _, rfl, ?_⟩
    walk_at "ss"
    refine ⟨p, rfl, ⟨_, cu_same ..⟩, ?_⟩
    refine re_tup ?_
    walk_at "ss"
    have go : ∀ lim : Int, (lim = 9 ∨ lim = 3) → ∀ n3 : Int, 0 ≤ n3 → n3 < lim → okSt (1 + n1, n2, 1 + n3) := by
      intro lim hlim n3 a3 b3
      refine ⟨⟨?_, ?_⟩, ⟨?_, ?_⟩, ?_, ?_⟩ <;> simp only <;> omega
    have done : ∀ n3 : Int, okSt (1 + n1, n2, 1 + n3) → ∀ v, (∃ (ss' : List St3) (x y z u : Sl), [.s ns, .d (.int (k : Nat)), .d (.int (cellAt ns k)), .d (.int kind), .o p, .d (.int (i : Nat)), v, .d (.int (1 + n1)), .d (.int n2), .un, .un, .un, .un] = [.s ns, .d (.int (k : Nat)), .d (.int (cellAt ns k)), .d (.int kind), Sl.o p, x, y, z, u, Sl.un, .un, .un, .un] ∧
        cu c p (.lst ((ss.map stD).map .d ++ [.d (.tuple [.int (1 + n1), .int n2, .int (1 + n3)])])) = cu c p (.lst ((ss'.map stD).map .d)) ∧ ss'.length = i + 1 ∧ ∀ s ∈ ss', okSt s) := by
      intro n3 h3 v
      refine ⟨ss ++ [(1 + n1, n2, 1 + n3)], _, _, _, _, rfl, by simp, by simp [hl2], ?_⟩
      intro s hs
      rcases List.mem_append.mp hs with h | h
      · exact hok s h
      · have : s = (1 + n1, n2, 1 + n3) := by simpa using h
        rw [this]; exact h3
    refine bb (fun h => ?_) (fun h => ?_)
    · walk_at "ss"
      refine ⟨rfl, _, _, _, rfl, by omega, by omega, by omega, fun n3 a3 b3 => ?_⟩
      walk_at "ss"
      refine ⟨_, cu_same .., by simp; omega, ?_⟩
      rw [cu_cu]
      exact done n3 (go 9 (.inl rfl) n3 a3 b3) _
    · walk_at "ss"
      refine ⟨rfl, _, _, _, rfl, by omega, by omega, by omega, fun n3 a3 b3 => ?_⟩
      walk_at "ss"
      refine ⟨_, cu_same .., by simp; omega, ?_⟩
      rw [cu_cu]
      exact done n3 (go 3 (.inr rfl) n3 a3 b3) _
  rintro e c' ⟨ss, x, y, z, u, rfl, rfl, hl2, hok⟩
  have okS : okSts ss := ⟨⟨by omega, by omega⟩, hok⟩
  generalize hcc : cu c p (.lst ((ss.map stD).map .d)) = cc
  have hsl : SlD cc (.o p) (stsD ss) := .lst (by rw [← hcc]; exact cu_same ..)
  have hu := hsl.nun
  refine rs_seq (rs_to (fun e' c' => ∃ sp t : Int, (1 ≤ sp ∧ sp ≤ 9) ∧ (1 ≤ t ∧ t ≤ 30) ∧ e' = [.s ns, .d (.int (k : Nat)), .d (.int (cellAt ns k)), .d (.int kind), .o p, x, y, z, u, .d (.int sp), .d (.int t), .un, .un] ∧ cc = c') ?_ ?_)
  · refine rs_asg (re_tup ?_)
    walk_at "ss"
    refine ⟨rfl, _, _, _, rfl, by omega, by omega, by omega, fun n1 a1 b1 => ?_⟩
    walk_at "ss"
    refine bb (fun h => ?_) (fun h => ?_)
    · walk_at "ss"
      refine ⟨rfl, _, _, _, rfl, by omega, by omega, by omega, fun n2 a2 b2 => ?_⟩
      walk_at "ss"
      exact ⟨_, _, ⟨by omega, by omega⟩, ⟨by omega, by omega⟩, rfl, rfl⟩
    · walk_at "ss"
      refine ⟨rfl, _, _, _, rfl, by omega, by omega, by omega, fun n2 a2 b2 => ?_⟩
      walk_at "ss"
      exact ⟨_, _, ⟨by omega, by omega⟩, ⟨by omega, by omega⟩, rfl, rfl⟩
  rintro _ _ ⟨sp, t, hsp, ht, rfl, rfl⟩
  have st : small t := ⟨by omega, by omega⟩
  refine rs_seq (rs_to (fun e' c' => ∃ (m : Int) (v : Sl), e' = [.s ns, .d (.int (k : Nat)), .d (.int (cellAt ns k)), .d (.int kind), .o p, x, y, z, u, .d (.int sp), .d (.int t), .d (.int m), v] ∧ cc = c') ?_ ?_)
  · walk_at "ss"
    refine ⟨rfl, _, _, _, rfl, by omega, by omega, by omega, fun n1 a1 b1 => ?_⟩
    walk_at "ss"
    exact ⟨_, _, rfl, rfl⟩
  rintro _ _ ⟨m, v, rfl, rfl⟩
  refine rs_seq (rs_to (fun e' c' => ∃ (m : Int) (v : Sl), e' = [.s ns, .d (.int (k : Nat)), .d (.int (cellAt ns k)), .d (.int kind), .o p, x, y, z, u, .d (.int sp), .d (.int t), .d (.int m), v] ∧ cc = c') ?_ ?_)
  · walk_at "ss"
    refine bb (fun h => ?_) (fun h => ?_)
    · walk_at "ss"
      refine re_new (rn_lcL ss (fun s => .d (stD s)) (fun s => .d (.int (s.1 + s.2.1))) ?_)
      walk_at "ss"
      refine ⟨by rw [hsl.src, List.map_map]; rfl, by omega, fun D acc s _ _ => ?_, ss.map (fun s => .int (s.1 + s.2.1)), by rw [List.map_map]; rfl, ?_⟩
      · walk_at "ss"
        exact ⟨rfl, rfl⟩
      walk_at "ss"
      refine rl_sum (ns := ss.map (fun s => s.1 + s.2.1)) (by simp [lsrc]) ?_
      walk_at "ss"
      refine r2_intC (C := CDiv) (g := fun i j => i / j) ⟨by omega, by omega⟩ ?_
      walk_at "ss"
      refine ⟨rfl, _, _, _, rfl, by omega, by omega, by omega, fun n1 a1 b1 => ?_⟩
      walk_at "ss"
      exact ⟨_, _, rfl, rfl⟩
    · walk_at "ss"
      exact ⟨_, _, rfl, rfl⟩
  rintro _ _ ⟨m, v, rfl, rfl⟩
  refine rs_seq (rs_to (fun e' c' => ∃ (m : Int) (v : Sl), e' = [.s ns, .d (.int (k : Nat)), .d (.int (cellAt ns k)), .d (.int kind), .o p, x, y, z, u, .d (.int sp), .d (.int t), .d (.int m), v] ∧ cc = c') ?_ ?_)
  · walk_at "ss"
    refine bb (fun h => ?_) (fun h => ?_)
    · walk_at "ss"
      refine re_new (rn_lcL ss (fun s => .d (stD s)) (fun s => .d (.int (s.1 + s.2.2 * t - 1))) ?_)
      walk_at "ss"
      refine ⟨by rw [hsl.src, List.map_map]; rfl, by omega, fun D acc s _ _ => ?_, ss.map (fun s => .int (s.1 + s.2.2 * t - 1)), by rw [List.map_map]; rfl, ?_⟩
      · walk_at "ss"
        refine mul_int (.inr st) ?_
        walk_at "ss"
        exact ⟨rfl, rfl⟩
      walk_at "ss"
      refine rl_sum (ns := ss.map (fun s => s.1 + s.2.2 * t - 1)) (by simp [lsrc]) ?_
      walk_at "ss"
      refine r2_intC (C := CDiv) (g := fun i j => i / j) ⟨by omega, by omega⟩ ?_
      walk_at "ss"
      refine ⟨rfl, _, _, _, rfl, by omega, by omega, by omega, fun n1 a1 b1 => ?_⟩
      walk_at "ss"
      exact ⟨_, _, rfl, rfl⟩
    · walk_at "ss"
      exact ⟨_, _, rfl, rfl⟩
  rintro _ _ ⟨m, v, rfl, rfl⟩
  subst hcc
  refine rs_ret (re_tup (ra_cons (re_varF rfl (cu_same ..) ?_)))
  rw [cd_cu hp]
  walk_at "ss"
  refine q ss sp _ t ⟨okS, hsp, ?_, by omega⟩
  split <;> split <;> omega
end Rp
namespace Rp
def P_law_is_keeps (_ : Ad) : SpS := fun xs c Q _ => ∃ ws wl sl ss sp m t, xs = [sl, .d (.int sp), .d (.int m), .d (.int t), wl] ∧ SlD c wl (.list (ws.map .int)) ∧ SlD c sl (stsD ss) ∧ small t ∧ ss.length ≤ 1000 ∧
  Q (.d (.bool (keepsShows ws ss sp m t))) c
def P_law_is_bars (_ : Ad) : SpS := fun xs c Q _ => ∃ tx st sl ss sp m t, xs = [sl, .d (.int sp), .d (.int m), .d (.int t), .d (.str tx), .d st] ∧ SeqAt.shaped (.str tx) = true ∧ isNI st ∧ SlD c sl (stsD ss) ∧ small t ∧ ss.length ≤ 1000 ∧
  Q (.d (.bool (barsShows tx st ss sp m t))) c
def P_law_says (_ : Ad) : SpS := fun xs c Q _ => ∃ b b' : Bool, xs = [.d (.bool b), .d (.bool b')] ∧ Q (.d (.bool (decide (b = b')))) c
theorem barsShows_eq (tx : Str) (st : PyData) (ss : List St3) (sp m t : Int) (h : ¬ tx = ("room" : Str)) : barsShows tx st ss sp m t =
    (isNone (.d st) && (if tx = ("space" : Str) then decide (t < sp) else if tx = ("few" : Str) then decide (m * t < rides ss) else decide (tx = ("many" : Str)) && decide (most ss t < m * t))) := by
  have n1 : ¬ ("space" : Str) = ("few" : Str) := by decide +kernel
  have n2 : ¬ ("space" : Str) = ("many" : Str) := by decide +kernel
  have n3 : ¬ ("few" : Str) = ("many" : Str) := by decide +kernel
  unfold barsShows
  rw [if_neg h]
  congr 1
  unfold barsL
  by_cases e1 : tx = ("space" : Str)
  · subst e1
    rw [if_pos rfl]
    split <;> split <;> split <;> simp_all
  · rw [if_neg e1]
    by_cases e2 : tx = ("few" : Str)
    · subst e2
      rw [if_pos rfl]
      split <;> split <;> split <;> simp_all
    · rw [if_neg e2]
      by_cases e3 : tx = ("many" : Str)
      · subst e3
        split <;> split <;> split <;> simp_all
      · split <;> split <;> split <;> simp_all
abbrev s_law_says : Stmt := top 26
abbrev N_law_says : List Str := ["_law_said", "_law_due"]
theorem sc_law_says : FnScope N_law_says ["_law_said", "_law_due"] (defScope s_law_says) := ⟨rfl, rfl, rfl, by decide +kernel, rfl, by decide +kernel, by decide +kernel⟩
theorem ok_law_says {P : Program} {w : World} {K : PySem.W.Frag} {mg : Str → Option Value} {base : Heap} (a : Ad) (B : Bltn mg)  {fa : Addr} {fd : FuncData} (F : Fun K "_law_says" "_law_says" s_law_says fa fd) : FnG P w K mg base 1 fa fd ["_law_said", "_law_due"] (spOf K 2 (P_law_says a)) := by
  refine okG F sc_law_says ?_
  intro cdv A out s H E g room xs c QS QE hl hp
  refine ⟨_, (pss_one (ps_ret (pe_and (pe_callB (kIsi (KK := K)) (by rfl) B.h_isinstance (by decide +kernel) (pa_cons (pv 0) (pa_cons (pe_bltn (v := .ty "bool") (by rfl) B.h_bool (by decide +kernel) rfl) pa_nil))) (pe_one (pe_cmpR (kEq (KK := K) room.units) (pv 0) (pv 1) (nomark _)))))), ?_⟩
  try dsimp only [L2.cxOf]
  obtain ⟨b, b', rfl, q⟩ := hp
  walk_at "ss"
  refine rl_isi (.d _) (.ty _) (kit_bool _) ?_
  walk_at "ss"
  exact q
abbrev s_law_is_keeps : Stmt := top 24
abbrev N_law_is_keeps : List Str := ["_law_stations", "_law_space", "_law_many", "_law_ticks", "_law_waits_here", "_law_at", "_law_one"]
theorem sc_law_is_keeps : FnScope N_law_is_keeps ["_law_stations", "_law_space", "_law_many", "_law_ticks", "_law_waits_here"] (defScope s_law_is_keeps) := ⟨rfl, rfl, rfl, by decide +kernel, rfl, by decide +kernel, by decide +kernel⟩
theorem ok_law_is_keeps {P : Program} {w : World} {K : PySem.W.Frag} {mg : Str → Option Value} {base : Heap} (a : Ad) (B : Bltn mg)  {fa : Addr} {fd : FuncData} (F : Fun K "_law_is_keeps" "_law_is_keeps" s_law_is_keeps fa fd) : FnG P w K mg base 1 fa fd ["_law_stations", "_law_space", "_law_many", "_law_ticks", "_law_waits_here"] (spOf K 5 (P_law_is_keeps a)) := by
  refine okG F sc_law_is_keeps ?_
  intro cdv A out s H E g room xs c QS QE hl hp
  refine ⟨_, (pss_cons (ps_if (PW.pt (pw_or (pt_cmpR (kNe (KK := K) room.units) (pe_callB (kLen (KK := K)) (by rfl) B.h_len (by decide +kernel) (pa_cons (pv 4) pa_nil)) (pe_callB (kLen (KK := K)) (by rfl) B.h_len (by decide +kernel) (pa_cons (pv 0) pa_nil)) (nomark _)) (pw_or1 (pt_cmpR op_lt (pv 3) (pv 1) (nomark _)))))
        (pss_one (ps_ret pe_bl))
        pss_nil)
      (pss_cons (ps_for (passes_of rfl) rfl (kIEnum (KK := K) (by rfl) B.h_enumerate (pa_cons (pv 0) pa_nil)) (kGTup (KK := K) rfl (pgs_cons (pg_name (i := 5) sc_law_is_keeps.nd (by rfl) (Or.inl rfl)) (pgs_cons (pg_name (i := 6) sc_law_is_keeps.nd (by rfl) (Or.inl rfl)) pgs_nil)))
        (pss_one (ps_if (pt_not (pt_chain op_le op_lt (pe_ix (kIx (KK := K)) (pv 6) pe_int (fun _ _ => rfl)) (pe_ix (kIx (KK := K)) (pv 4) (pv 5) (fun _ _ => rfl)) (pe_op (kMul (KK := K)) (pe_ix (kIx (KK := K)) (pv 6) pe_int (fun _ _ => rfl)) (pv 3))))
        (pss_one (ps_ret pe_bl))
        pss_nil)))
      (pss_one (ps_ret (pe_cmpR (kEq (KK := K) room.units) (pe_op (kAdd (KK := K)) (pe_callB (kSum (KK := K) rfl) (by rfl) B.h_sum (by decide +kernel) (pa_cons (pv 4) pa_nil)) (pe_callB (kSum (KK := K) rfl) (by rfl) B.h_sum (by decide +kernel) (pa_cons (pe_lc (own := [("_law_one", 6)]) (g := gName 6) (tt := tYes) rfl sc_law_is_keeps.nd (kIList (KK := K) (pv 0)) (blkOk_by (by kernel_rfl)) (fun _ _ _ _ _ => (pg_name (i := 6) sc_law_is_keeps.nd (by rfl) (Or.inl rfl))) (fun _ _ _ _ _ => pts_nil) (fun _ _ _ _ _ => (pe_ix (kIx (KK := K)) (pv 6) pe_int (fun _ _ => rfl)))) pa_nil))) (pe_op (kMul (KK := K)) (pv 2) (pv 3)) (nomark _)))))), ?_⟩
  try dsimp only [L2.cxOf]
  obtain ⟨ws, wl, sl, ss, sp, m, t, rfl, hww, hd, ht, hz, q⟩ := hp
  have hu := hd.nun
  have hu' := hww.nun
  walk_at "ss"
  refine rl_lenL hww ?_
  walk_at "ss"
  refine rl_lenL hd ?_
  rw [List.length_map, List.length_map]
  walk_at "ss"
  refine bb (fun h1 => ?_) (fun h1 => ?_)
  · walk_at "ss"
    have : keepsShows ws ss sp m t = false := by
      have : ws.length ≠ ss.length := by simp at h1; omega
      simp [keepsShows, this]
    rw [this] at q
    exact q
  walk_at "ss"
  refine bb (fun h2 => ?_) (fun h2 => ?_)
  · walk_at "ss"
    have : keepsShows ws ss sp m t = false := by simp at h2; simp [keepsShows, h2]
    rw [this] at q
    exact q
  have h1 : ws.length = ss.length := by simp at h1; omega
  have h2 : ¬ t < sp := by simpa using h2
  walk_at "ss"
  refine rs_forE ss (fun s => .d (stD s)) (fun i e c' => c' = c ∧ (∃ x y, e = [sl, .d (.int sp), .d (.int m), .d (.int t), wl, x, y]) ∧ ((List.zip ws ss).take i).all (fun p => decide (p.2.2.1 ≤ p.1) && decide (p.1 < p.2.2.2 * t)) = true) ?_
  walk_at "ss"
  refine ⟨⟨rfl, ⟨_, _, rfl⟩, rfl⟩, ?_, ?_, ?_⟩
  · rintro i e c' _ ⟨rfl, _, _⟩
    rw [hd.src, List.map_map]; rfl
  · rintro i b e c' hb ⟨rfl, ⟨x, y, rfl⟩, hall⟩
    have hlt : i < ss.length := (List.getElem?_eq_some_iff.mp hb).1
    obtain ⟨n, hn⟩ : ∃ n, ws[i]? = some n := ⟨ws[i]'(by omega), by simp⟩
    have hzip : (List.zip ws ss)[i]? = some (n, b) := by simp [List.getElem?_zip_eq_some, hn, hb]
    have hn' : (ws.map PyData.int)[i]? = some (.int n) := by rw [List.getElem?_map, hn]; rfl
    walk_at "ss"
    refine ix_l hww hn' ?_
    walk_at "ss"
    refine bb (fun h3 => ?_) (fun h3 => ?_)
    · walk_at "ss"
      refine mul_int (.inr ht) ?_
      walk_at "ss"
      refine bb (fun h4 => ?_) (fun h4 => ?_)
      · walk_at "ss"
        have : keepsShows ws ss sp m t = false := keepsShows_no (List.mem_of_getElem? hzip) (by simp at h4; simp; intro _; omega)
        rw [this] at q
        exact q
      · walk_at "ss"
        refine ⟨rfl, ⟨_, _, rfl⟩, ?_⟩
        rw [take_all_succ hzip, hall]
        simp at h3 h4
        simp [h3, h4]
    · walk_at "ss"
      have : keepsShows ws ss sp m t = false := keepsShows_no (List.mem_of_getElem? hzip) (by simp at h3; simp; intro _; omega)
      rw [this] at q
      exact q
  · rintro e c' ⟨rfl, ⟨x, y, rfl⟩, hall⟩
    walk_at "ss"
    refine rl_sum (ns := ws) (by rw [hww.src, List.map_map]; rfl) ?_
    walk_at "ss"
    refine re_new (rn_lcL ss (fun s => .d (stD s)) (fun s => .d (.int s.1)) ?_)
    walk_at "ss"
    refine ⟨by rw [hd.src, List.map_map]; rfl, by omega, fun D acc s _ _ => ?_, ss.map (fun s => .int s.1), by rw [List.map_map]; rfl, ?_⟩
    · walk_at "ss"
      exact ⟨rfl, rfl⟩
    walk_at "ss"
    refine rl_sum (ns := ss.map (·.1)) (by simp [lsrc]) ?_
    walk_at "ss"
    refine mul_int (.inr ht) ?_
    walk_at "ss"
    have : keepsShows ws ss sp m t = decide (ws.sum + (ss.map (·.1)).sum = m * t) := by
      have hz : (List.zip ws ss).take ss.length = List.zip ws ss := by rw [List.take_of_length_le]; rw [List.length_zip]; omega
      rw [hz] at hall
      simp only [keepsShows, h1, h2, hall]
      simp
    rw [this] at q
    exact q
abbrev s_law_is_bars : Stmt := top 25
abbrev N_law_is_bars : List Str := ["_law_stations", "_law_space", "_law_many", "_law_ticks", "_law_text", "_law_station", "_law_most", "_law_one"]
theorem sc_law_is_bars : FnScope N_law_is_bars ["_law_stations", "_law_space", "_law_many", "_law_ticks", "_law_text", "_law_station"] (defScope s_law_is_bars) := ⟨rfl, rfl, rfl, by decide +kernel, rfl, by decide +kernel, by decide +kernel⟩
theorem ok_law_is_bars {P : Program} {w : World} {K : PySem.W.Frag} {mg : Str → Option Value} {base : Heap} (a : Ad) (B : Bltn mg)  {fa : Addr} {fd : FuncData} (F : Fun K "_law_is_bars" "_law_is_bars" s_law_is_bars fa fd) : FnG P w K mg base 1 fa fd ["_law_stations", "_law_space", "_law_many", "_law_ticks", "_law_text", "_law_station"] (spOf K 6 (P_law_is_bars a)) := by
  refine okG F sc_law_is_bars ?_
  intro cdv A out s H E g room xs c QS QE hl hp
  refine ⟨_, (pss_cons (ps_if (pt_cmpR (kEq (KK := K) room.units) (pv 4) pe_str (nomark _))
        (pss_cons (ps_if (PW.pt (pw_or (pt_cmpR op_isN (pv 5) pe_non (nomark _)) (pw_or1 (pt_not (pt_chain op_le op_lt pe_int (pv 5) (pe_callB (kLen (KK := K)) (by rfl) B.h_len (by decide +kernel) (pa_cons (pv 0) pa_nil)))))))
        (pss_one (ps_ret pe_bl))
        pss_nil)
      (pss_one (ps_ret (pe_cmpR op_ge (pe_ix (kIx (KK := K)) (pe_ix (kIx (KK := K)) (pv 0) (pv 5) (fun _ _ => rfl)) pe_int (fun _ _ => rfl)) (pe_op (kMul (KK := K)) (pe_ix (kIx (KK := K)) (pe_ix (kIx (KK := K)) (pv 0) (pv 5) (fun _ _ => rfl)) pe_int (fun _ _ => rfl)) (pv 3)) (nomark _)))))
        pss_nil)
      (pss_cons (ps_if (pt_cmpR op_notN (pv 5) pe_non (nomark _))
        (pss_one (ps_ret pe_bl))
        pss_nil)
      (pss_cons (ps_if (pt_cmpR (kEq (KK := K) room.units) (pv 4) pe_str (nomark _))
        (pss_one (ps_ret (pe_cmpR op_lt (pv 3) (pv 1) (nomark _))))
        pss_nil)
      (pss_cons (ps_if (pt_cmpR (kEq (KK := K) room.units) (pv 4) pe_str (nomark _))
        (pss_one (ps_ret (pe_cmpR op_lt (pe_op (kMul (KK := K)) (pv 2) (pv 3)) (pe_callB (kSum (KK := K) rfl) (by rfl) B.h_sum (by decide +kernel) (pa_cons (pe_lc (own := [("_law_one", 7)]) (g := gName 7) (tt := tYes) rfl sc_law_is_bars.nd (kIList (KK := K) (pv 0)) (blkOk_by (by kernel_rfl)) (fun _ _ _ _ _ => (pg_name (i := 7) sc_law_is_bars.nd (by rfl) (Or.inl rfl))) (fun _ _ _ _ _ => pts_nil) (fun _ _ _ _ _ => (pe_op (kAdd (KK := K)) (pe_ix (kIx (KK := K)) (pv 7) pe_int (fun _ _ => rfl)) (pe_ix (kIx (KK := K)) (pv 7) pe_int (fun _ _ => rfl))))) pa_nil)) (nomark _))))
        pss_nil)
      (pss_cons (ps_set (i := 6) sc_law_is_bars.nd (by rfl) (Or.inl rfl) (pe_callB (kSum (KK := K) rfl) (by rfl) B.h_sum (by decide +kernel) (pa_cons (pe_lc (own := [("_law_one", 7)]) (g := gName 7) (tt := tYes) rfl sc_law_is_bars.nd (kIList (KK := K) (pv 0)) (blkOk_by (by kernel_rfl)) (fun _ _ _ _ _ => (pg_name (i := 7) sc_law_is_bars.nd (by rfl) (Or.inl rfl))) (fun _ _ _ _ _ => pts_nil) (fun _ _ _ _ _ => (pe_op op_sub (pe_op (kAdd (KK := K)) (pe_ix (kIx (KK := K)) (pv 7) pe_int (fun _ _ => rfl)) (pe_op (kMul (KK := K)) (pe_ix (kIx (KK := K)) (pv 7) pe_int (fun _ _ => rfl)) (pv 3))) pe_int))) pa_nil)))
      (pss_one (ps_ret (pe_and (pe_cmpR (kEq (KK := K) room.units) (pv 4) pe_str (nomark _)) (pe_one (pe_cmpR op_gt (pe_op (kMul (KK := K)) (pv 2) (pv 3)) (pv 6) (nomark _))))))))))), ?_⟩
  try dsimp only [L2.cxOf]
  obtain ⟨tx, st, sl, ss, sp, m, t, rfl, htx, hni, hd, ht, hz, q⟩ := hp
  have hu := hd.nun
  walk_at "ss"
  refine bb (fun h1 => ?_) (fun h1 => ?_)
  · walk_at "ss"
    have h1 : tx = ("room" : Str) := by simpa using h1
    simp only [barsShows, h1, if_true] at q
    cases st <;> first | exact hni.elim | skip
    · walk_at "ss"
      exact q
    · rename_i n
      walk_at "ss"
      refine bb (fun h2 => ?_) (fun h2 => ?_)
      · walk_at "ss"
        refine rl_lenL hd ?_
        rw [List.length_map]
        walk_at "ss"
        refine bb (fun h3 => ?_) (fun h3 => ?_)
        · walk_at "ss"
          simp only [Bool.not_eq_true', decide_eq_false_iff_not] at h3
          simp [roomBad, h3] at q
          exact q
        · walk_at "ss"
          simp at h2 h3
          obtain ⟨i, rfl⟩ : ∃ i : Nat, n = (i : Int) := ⟨n.toNat, by omega⟩
          obtain ⟨s, hs⟩ : ∃ s, ss[i]? = some s := ⟨ss[i]'(by omega), by simp⟩
          have hs' : (ss.map fun s => stD s)[i]? = some (stD s) := by rw [List.getElem?_map, hs]; rfl
          refine ix_l hd hs' ?_
          walk_at "ss"
          refine ix_l hd hs' ?_
          walk_at "ss"
          refine mul_int (.inr ht) ?_
          walk_at "ss"
          simp [roomBad, h2, h3, hs] at q
          simpa using q
      · walk_at "ss"
        simp at h2
        have : ¬ (0 : Int) ≤ n := by omega
        simp [roomBad, this] at q
        exact q
  walk_at "ss"
  have h1 : ¬ tx = ("room" : Str) := by simpa using h1
  rw [barsShows_eq _ _ _ _ _ _ h1] at q
  refine bb (fun h2 => ?_) (fun h2 => ?_)
  · walk_at "ss"
    have h2 : isNone (.d st) = false := by simpa using h2
    rw [h2, Bool.false_and] at q
    exact q
  have h2 : isNone (.d st) = true := by simpa using h2
  rw [h2, Bool.true_and] at q
  walk_at "ss"
  refine bb (fun h3 => ?_) (fun h3 => ?_)
  · walk_at "ss"
    simp at h3
    rw [if_pos h3] at q
    exact q
  simp at h3
  rw [if_neg h3] at q
  walk_at "ss"
  refine bb (fun h4 => ?_) (fun h4 => ?_)
  · walk_at "ss"
    simp at h4
    rw [if_pos h4] at q
    refine mul_int (.inr ht) ?_
    walk_at "ss"
    refine re_new (rn_lcL ss (fun s => .d (stD s)) (fun s => .d (.int (s.1 + s.2.1))) ?_)
    walk_at "ss"
    refine ⟨by rw [hd.src, List.map_map]; rfl, by omega, fun D acc s _ _ => ?_, ss.map (fun s => .int (s.1 + s.2.1)), by rw [List.map_map]; rfl, ?_⟩
    · walk_at "ss"
      exact ⟨rfl, rfl⟩
    walk_at "ss"
    refine rl_sum (ns := ss.map (fun s => s.1 + s.2.1)) (by simp [lsrc]) ?_
    walk_at "ss"
    exact q
  simp at h4
  rw [if_neg h4] at q
  walk_at "ss"
  refine re_new (rn_lcL ss (fun s => .d (stD s)) (fun s => .d (.int (s.1 + s.2.2 * t - 1))) ?_)
  walk_at "ss"
  refine ⟨by rw [hd.src, List.map_map]; rfl, by omega, fun D acc s _ _ => ?_, ss.map (fun s => .int (s.1 + s.2.2 * t - 1)), by rw [List.map_map]; rfl, ?_⟩
  · walk_at "ss"
    refine mul_int (.inr ht) ?_
    walk_at "ss"
    exact ⟨rfl, rfl⟩
  walk_at "ss"
  refine rl_sum (ns := ss.map (fun s => s.1 + s.2.2 * t - 1)) (by simp [lsrc]) ?_
  walk_at "ss"
  refine bb (fun h5 => ?_) (fun h5 => ?_)
  · walk_at "ss"
    rw [h5, Bool.true_and] at q
    refine mul_int (.inr ht) ?_
    walk_at "ss"
    exact q
  · rw [h5, Bool.false_and] at q
    exact q
end Rp
namespace Rp
abbrev intsL (ws : List Int) : PyData := .list (ws.map .int)
def P_law_waits (_ : Ad) : SpS := fun xs c Q _ => ∃ sl ss m t, xs = [sl, .d (.int m), .d (.int t)] ∧ SlD c sl (stsD ss) ∧ small t ∧ ss.length ≤ 1000 ∧ ∀ ws : List Int, ws.length = ss.length → Q (.d (intsL ws)) c
abbrev s_law_waits : Stmt := top 27
abbrev N_law_waits : List Str := ["_law_stations", "_law_many", "_law_ticks", "_law_left", "_law_found", "_law_one", "_law_more"]
theorem sc_law_waits : FnScope N_law_waits ["_law_stations", "_law_many", "_law_ticks"] (defScope s_law_waits) := ⟨rfl, rfl, rfl, by decide +kernel, rfl, by decide +kernel, by decide +kernel⟩
theorem ok_law_waits {P : Program} {w : World} {K : PySem.W.Frag} {mg : Str → Option Value} {base : Heap} (a : Ad) (B : Bltn mg)  {fa : Addr} {fd : FuncData} (F : Fun K "_law_waits" "_law_waits" s_law_waits fa fd) : FnG P w K mg base 1 fa fd ["_law_stations", "_law_many", "_law_ticks"] (spOf K 3 (P_law_waits a)) := by
  refine okG F sc_law_waits ?_
  intro cdv A out s H E g room xs c QS QE hl hp
  refine ⟨_, (pss_cons (ps_set (i := 3) sc_law_waits.nd (by rfl) (Or.inl rfl) (pe_op op_sub (pe_op (kMul (KK := K)) (pv 1) (pv 2)) (pe_callB (kSum (KK := K) rfl) (by rfl) B.h_sum (by decide +kernel) (pa_cons (pe_lc (own := [("_law_one", 5)]) (g := gName 5) (tt := tYes) rfl sc_law_waits.nd (kIList (KK := K) (pv 0)) (blkOk_by (by kernel_rfl)) (fun _ _ _ _ _ => (pg_name (i := 5) sc_law_waits.nd (by rfl) (Or.inl rfl))) (fun _ _ _ _ _ => pts_nil) (fun _ _ _ _ _ => (pe_op (kAdd (KK := K)) (pe_ix (kIx (KK := K)) (pv 5) pe_int (fun _ _ => rfl)) (pe_ix (kIx (KK := K)) (pv 5) pe_int (fun _ _ => rfl))))) pa_nil))))
      (pss_cons (ps_set (i := 4) sc_law_waits.nd (by rfl) (Or.inl rfl) (pe_lst pa_nil))
      (pss_cons (ps_for (passes_of rfl) rfl (kIList (KK := K) (pv 0)) (pg_name (i := 5) sc_law_waits.nd (by rfl) (Or.inl rfl))
        (pss_cons (ps_set (i := 6) sc_law_waits.nd (by rfl) (Or.inl rfl) (pe_callB (call_max2 rfl) (by rfl) B.h_max (by decide +kernel) (pa_cons pe_int (pa_cons (pe_callB (call_min2 rfl) (by rfl) B.h_min (by decide +kernel) (pa_cons (pv 3) (pa_cons (pe_op op_sub (pe_op op_sub (pe_op (kMul (KK := K)) (pe_ix (kIx (KK := K)) (pv 5) pe_int (fun _ _ => rfl)) (pv 2)) pe_int) (pe_ix (kIx (KK := K)) (pv 5) pe_int (fun _ _ => rfl))) pa_nil))) pa_nil))))
      (pss_cons (ps_expr (kAppend (KK := K) (pv 4) (pa_cons (pe_op (kAdd (KK := K)) (pe_ix (kIx (KK := K)) (pv 5) pe_int (fun _ _ => rfl)) (pv 6)) pa_nil)))
      (pss_one (ps_set (i := 3) sc_law_waits.nd (by rfl) (Or.inl rfl) (pe_op op_sub (pv 3) (pv 6)))))))
      (pss_one (ps_ret (pv 4)))))), ?_⟩
  try dsimp only [L2.cxOf]
  obtain ⟨sl, ss, m, t, rfl, hd, ht, hz, q⟩ := hp
  have hu := hd.nun
  walk_at "ss"
  refine mul_int (.inr ht) ?_
  walk_at "ss"
  refine re_new (rn_lcL ss (fun s => .d (stD s)) (fun s => .d (.int (s.1 + s.2.1))) ?_)
  walk_at "ss"
  refine ⟨by rw [hd.src, List.map_map]; rfl, by omega, fun D acc s _ _ => ?_, ss.map (fun s => .int (s.1 + s.2.1)), by rw [List.map_map]; rfl, ?_⟩
  · walk_at "ss"
    exact ⟨rfl, rfl⟩
  walk_at "ss"
  refine rl_sum (ns := ss.map (fun s => s.1 + s.2.1)) (by simp [lsrc]) ?_
  walk_at "ss"
  refine re_own (rn_lst ?_)
  walk_at "ss"
  refine ⟨by simp, fun p hp => ?_⟩
  have hd1 : ∀ x, SlD (cu c p x) sl (stsD ss) := fun x => hd.old hp
  refine rg_name ?_
  refine rs_seq (rs_forL ss (fun s => .d (stD s)) (fun i e c1 => ∃ (ws : List Int) (left : Int) (x y : Sl), e = [sl, .d (.int m), .d (.int t), .d (.int left), .o p, x, y] ∧ c1 = cu c p (.lst ((ws.map PyData.int).map .d)) ∧ ws.length = i) ?_)
  walk_at "ss"
  refine ⟨⟨[], _, _, _, rfl, rfl, rfl⟩, ?_, ?_, ?_⟩
  · rintro i e c1 _ ⟨ws, left, x, y, rfl, rfl, _⟩
    rw [(hd1 _).src, List.map_map]; rfl
  · rintro i s e c1 hi ⟨ws, left, x, y, rfl, rfl, hl2⟩
    walk_at "ss"
    refine mul_int (.inr ht) ?_
    walk_at "ss"
    refine ⟨p, rfl, ⟨_, cu_same ..⟩, ?_⟩
    walk_at "ss"
    have hlt : i < ss.length := (List.getElem?_eq_some_iff.mp hi).1
    refine ⟨_, cu_same .., by simp; omega, ?_⟩
    rw [cu_cu]
    walk_at "ss"
    refine ⟨ws ++ [_], _, _, _, rfl, by simp; rfl, by simp [hl2]⟩
  · rintro e c1 ⟨ws, left, x, y, rfl, rfl, hl2⟩
    refine rs_ret (re_varF rfl (cu_same ..) ?_)
    rw [cd_cu hp]
    exact q ws hl2
end Rp
namespace Rp
def P_law_outright (_ : Ad) : SpS := fun xs c Q _ => xs = [] ∧ Q (.d (.bool true)) c
abbrev both : List St3 := [(30, 20, 1), (1, 20, 1)]
abbrev pair : List St3 := [(10, 2, 1), (5, 3, 2)]
theorem u1 : barsShows "room" (.int 0) both 9 36 5 = true := by kernel_rfl
theorem u2 : barsShows "room" (.int 1) both 9 36 5 = true := by kernel_rfl
theorem u3 : barsShows "room" (.int 2) both 9 36 5 = false := by kernel_rfl
theorem u4 : barsShows "room" (.int (-1)) both 9 36 5 = false := by kernel_rfl
theorem u5 : barsShows "space" .none both 9 36 5 = true := by kernel_rfl
theorem u6 : barsShows "few" .none both 9 1 5 = true := by kernel_rfl
theorem plan1 : plan pair 3 4 6 = .keeps [5, 4] := by kernel_rfl
theorem u7 : keepsShows [6, 4] pair 3 4 6 = false := by kernel_rfl
theorem u8 : keepsShows [5, 4] pair 3 4 6 = true := by kernel_rfl
theorem v1 : keepsShows [2] [(10, 2, 9)] 5 3 4 = false := by kernel_rfl
theorem v2 : keepsShows [2] [(10, 2, 9)] 4 3 4 = true := by kernel_rfl
theorem v3 : keepsShows [2] [(10, 2, 9)] 1 3 4 = true := by kernel_rfl
def gBars (d : PyData) : Sl := .d (.bool (barsShows "room" d both 9 36 5))
def gKeeps (d : PyData) : Sl := match d with
  | .int n => .d (.bool (keepsShows [2] [(10, 2, 9)] n 3 4))
  | _ => .un
theorem okSts_dec {ss : List St3} (h1 : decide (1 ≤ ss.length) && decide (ss.length ≤ 4) = true) (h2 : ss.all (fun s => (decide (1 ≤ s.1) && decide (s.1 ≤ 30)) && ((decide (0 ≤ s.2.1) && decide (s.2.1 ≤ 20)) && (decide (1 ≤ s.2.2) && decide (s.2.2 ≤ 9)))) = true) : okSts ss := by
  simp only [Bool.and_eq_true, decide_eq_true_eq] at h1
  refine ⟨h1, fun s hs => ?_⟩
  have := List.all_eq_true.mp h2 s hs
  simpa [okSt] using this
abbrev s_law_outright : Stmt := top 28
abbrev N_law_outright : List Str := ["_law_both", "_law_said", "_law_found", "_law_tells", "_law_wait", "_law_at", "_law_space"]
theorem sc_law_outright : FnScope N_law_outright [] (defScope s_law_outright) := ⟨rfl, rfl, rfl, by decide +kernel, rfl, by decide +kernel, by decide +kernel⟩
theorem ok_law_outright {P : Program} {w : World} {K : PySem.W.Frag} {mg : Str → Option Value} {base : Heap} (a : Ad) (B : Bltn mg) (T_Bars : Cl_Bars K mg a.Bars) (T_Keeps : Cl_Keeps K mg a.Keeps) (D_planned : DefG P w K mg base "planned" 5 ["stations", "space", "many", "ticks"] (P_planned a)) (D_Bars : MakeG P w K mg base "Bars" a.Bars 1 ["self", "text", "station"] (P_Bars_init a)) (D_Keeps : MakeG P w K mg base "Keeps" a.Keeps 1 ["self", "waits"] (P_Keeps_init a)) (M_Keeps_shows : MethG P w K mg base a.Keeps "shows" 1 ["self", "stations", "space", "many", "ticks"] (P_Keeps_shows a)) (M_Bars_shows : MethG P w K mg base a.Bars "shows" 2 ["self", "stations", "space", "many", "ticks"] (P_Bars_shows a)) {fa : Addr} {fd : FuncData} (F : Fun K "_law_outright" "_law_outright" s_law_outright fa fd) : FnG P w K mg base 6 fa fd [] (spOf K 0 (P_law_outright a)) := by
  refine okG F sc_law_outright ?_
  intro cdv A out s H E g room xs c QS QE hl hp
  refine ⟨_, (pss_cons (ps_set (i := 0) sc_law_outright.nd (by rfl) (Or.inr rfl) (pe_lst (pa_cons (pe_tup (pa_cons pe_int (pa_cons pe_int (pa_cons pe_int pa_nil)))) (pa_cons (pe_tup (pa_cons pe_int (pa_cons pe_int (pa_cons pe_int pa_nil)))) pa_nil))))
      (pss_cons (ps_setLc (i := 1) (own := [("_law_at", 5)]) (g := gName 5) (tt := tYes) rfl sc_law_outright.nd rfl rfl (sw_true rfl rfl rfl (by kernel_rfl)) (kITup (KK := K) (pe_tup (pa_cons pe_int (pa_cons pe_int (pa_cons pe_int (pa_cons (pe_un un_neg pe_int) pa_nil)))))) (blkOk_by (by kernel_rfl)) (fun _ _ _ _ _ => (pg_name (i := 5) sc_law_outright.nd (by rfl) (Or.inl rfl))) (fun _ _ _ _ _ => pts_nil) (fun _ _ _ _ _ => (pe_or (pe_m (pe_k D_Bars g (room.mono (by decide)) (by rfl) passL (pa_cons pe_str (pa_cons (pv 5) pa_nil))) T_Keeps.cl M_Keeps_shows g (room.mono (by decide)) passL (pa_cons (pv 0) (pa_cons pe_int (pa_cons pe_int (pa_cons pe_int pa_nil))))) (pe_m (pe_k D_Bars g (room.mono (by decide)) (by rfl) passL (pa_cons pe_str (pa_cons (pv 5) pa_nil))) T_Bars.cl M_Bars_shows g (room.mono (by decide)) passL (pa_cons (pv 0) (pa_cons pe_int (pa_cons pe_int (pa_cons pe_int pa_nil))))))))
      (pss_cons (ps_expr (kAppend (KK := K) (pv 1) (pa_cons (pe_or (pe_m (pe_k D_Bars g (room.mono (by decide)) (by rfl) passC (pa_cons pe_str (pa_cons pe_non pa_nil))) T_Keeps.cl M_Keeps_shows g (room.mono (by decide)) passC (pa_cons (pv 0) (pa_cons pe_int (pa_cons pe_int (pa_cons pe_int pa_nil))))) (pe_m (pe_k D_Bars g (room.mono (by decide)) (by rfl) passC (pa_cons pe_str (pa_cons pe_non pa_nil))) T_Bars.cl M_Bars_shows g (room.mono (by decide)) passC (pa_cons (pv 0) (pa_cons pe_int (pa_cons pe_int (pa_cons pe_int pa_nil)))))) pa_nil)))
      (pss_cons (ps_if (PW.pt (pw_or (pt_cmpR (kNe (KK := K) room.units) (pv 1) (pe_lst (pa_cons pe_bl (pa_cons pe_bl (pa_cons pe_bl (pa_cons pe_bl (pa_cons pe_bl pa_nil)))))) (nomark _)) (pw_or1 (pt_cmpR op_isnot_bl (pe_or (pe_m (pe_k D_Bars g (room.mono (by decide)) (by rfl) passC (pa_cons pe_str (pa_cons pe_non pa_nil))) T_Keeps.cl M_Keeps_shows g (room.mono (by decide)) passC (pa_cons (pv 0) (pa_cons pe_int (pa_cons pe_int (pa_cons pe_int pa_nil))))) (pe_m (pe_k D_Bars g (room.mono (by decide)) (by rfl) passC (pa_cons pe_str (pa_cons pe_non pa_nil))) T_Bars.cl M_Bars_shows g (room.mono (by decide)) passC (pa_cons (pv 0) (pa_cons pe_int (pa_cons pe_int (pa_cons pe_int pa_nil)))))) pe_bl (nomark _)))))
        (pss_one (ps_ret pe_bl))
        pss_nil)
      (pss_cons (ps_par (i := 2) (j := 3) rfl sc_law_outright.nd (by rfl) (by rfl) (by decide) rfl rfl (pa_cons (pe_d D_planned g (room.mono (by decide)) (by rfl) passC (pa_cons (pe_lst (pa_cons (pe_tup (pa_cons pe_int (pa_cons pe_int (pa_cons pe_int pa_nil)))) (pa_cons (pe_tup (pa_cons pe_int (pa_cons pe_int (pa_cons pe_int pa_nil)))) pa_nil))) (pa_cons pe_int (pa_cons pe_int (pa_cons pe_int pa_nil))))) (pa_cons (pe_lst pa_nil) pa_nil)) (by rfl))
      (pss_cons (ps_for (passes_of rfl) rfl (kITup (KK := K) (pe_tup (pa_cons pe_int (pa_cons (pe_ix (kIx (KK := K)) (kFld (KK := K) (pv 2) (by rfl)) pe_int (fun _ _ => rfl)) pa_nil)))) (pg_name (i := 4) sc_law_outright.nd (by rfl) (Or.inl rfl))
        (pss_cons (ps_asg (pv 4) (pg_sub (kFld (KK := K) (pv 2) (by rfl)) pe_int set_list))
      (pss_one (ps_expr (kAppend (KK := K) (pv 3) (pa_cons (pe_or (pe_m (pv 2) T_Keeps.cl M_Keeps_shows g (room.mono (by decide)) passC (pa_cons (pe_lst (pa_cons (pe_tup (pa_cons pe_int (pa_cons pe_int (pa_cons pe_int pa_nil)))) (pa_cons (pe_tup (pa_cons pe_int (pa_cons pe_int (pa_cons pe_int pa_nil)))) pa_nil))) (pa_cons pe_int (pa_cons pe_int (pa_cons pe_int pa_nil))))) (pe_m (pv 2) T_Bars.cl M_Bars_shows g (room.mono (by decide)) passC (pa_cons (pe_lst (pa_cons (pe_tup (pa_cons pe_int (pa_cons pe_int (pa_cons pe_int pa_nil)))) (pa_cons (pe_tup (pa_cons pe_int (pa_cons pe_int (pa_cons pe_int pa_nil)))) pa_nil))) (pa_cons pe_int (pa_cons pe_int (pa_cons pe_int pa_nil)))))) pa_nil))))))
      (pss_cons (ps_setLc (i := 1) (own := [("_law_space", 6)]) (g := gName 6) (tt := tYes) rfl sc_law_outright.nd rfl rfl (sw_true rfl rfl rfl (by kernel_rfl)) (kITup (KK := K) (pe_tup (pa_cons pe_int (pa_cons pe_int (pa_cons pe_int pa_nil))))) (blkOk_by (by kernel_rfl)) (fun _ _ _ _ _ => (pg_name (i := 6) sc_law_outright.nd (by rfl) (Or.inl rfl))) (fun _ _ _ _ _ => pts_nil) (fun _ _ _ _ _ => (pe_or (pe_m (pe_k D_Keeps g (room.mono (by decide)) (by rfl) passL (pa_cons (pe_lst (pa_cons pe_int pa_nil)) pa_nil)) T_Keeps.cl M_Keeps_shows g (room.mono (by decide)) passL (pa_cons (pe_lst (pa_cons (pe_tup (pa_cons pe_int (pa_cons pe_int (pa_cons pe_int pa_nil)))) pa_nil)) (pa_cons (pv 6) (pa_cons pe_int (pa_cons pe_int pa_nil))))) (pe_m (pe_k D_Keeps g (room.mono (by decide)) (by rfl) passL (pa_cons (pe_lst (pa_cons pe_int pa_nil)) pa_nil)) T_Bars.cl M_Bars_shows g (room.mono (by decide)) passL (pa_cons (pe_lst (pa_cons (pe_tup (pa_cons pe_int (pa_cons pe_int (pa_cons pe_int pa_nil)))) pa_nil)) (pa_cons (pv 6) (pa_cons pe_int (pa_cons pe_int pa_nil))))))))
      (pss_cons (ps_if (pt_cmpR (kNe (KK := K) room.units) (pv 1) (pe_lst (pa_cons pe_bl (pa_cons pe_bl (pa_cons pe_bl pa_nil)))) (nomark _))
        (pss_one (ps_ret pe_bl))
        pss_nil)
      (pss_one (ps_ret (pe_and (pe_cmpR (kEq (KK := K) room.units) (pv 3) (pe_lst (pa_cons pe_bl (pa_cons pe_bl pa_nil))) (nomark _)) (pe_one (pe_cmpR op_is_bl (pe_or (pe_m (pe_k D_Keeps g (room.mono (by decide)) (by rfl) passC (pa_cons (pe_lst (pa_cons pe_int (pa_cons pe_int pa_nil))) pa_nil)) T_Keeps.cl M_Keeps_shows g (room.mono (by decide)) passC (pa_cons (pe_lst (pa_cons (pe_tup (pa_cons pe_int (pa_cons pe_int (pa_cons pe_int pa_nil)))) (pa_cons (pe_tup (pa_cons pe_int (pa_cons pe_int (pa_cons pe_int pa_nil)))) pa_nil))) (pa_cons pe_int (pa_cons pe_int (pa_cons pe_int pa_nil))))) (pe_m (pe_k D_Keeps g (room.mono (by decide)) (by rfl) passC (pa_cons (pe_lst (pa_cons pe_int (pa_cons pe_int pa_nil))) pa_nil)) T_Bars.cl M_Bars_shows g (room.mono (by decide)) passC (pa_cons (pe_lst (pa_cons (pe_tup (pa_cons pe_int (pa_cons pe_int (pa_cons pe_int pa_nil)))) (pa_cons (pe_tup (pa_cons pe_int (pa_cons pe_int (pa_cons pe_int pa_nil)))) pa_nil))) (pa_cons pe_int (pa_cons pe_int (pa_cons pe_int pa_nil)))))) pe_bl (nomark _)))))))))))))), ?_⟩
  try dsimp only [L2.cxOf]
  obtain ⟨rfl, q⟩ := hp
  refine rs_forgetR ?_
  walk_at "dd"
  refine re_own (rn_lcT ?_)
  walk_at "dd"
  refine r1_int (g := fun i => -i) ?_
  walk_at "dd"
  refine ⟨_, gBars, rfl, by simp, ?_, ?_⟩
  · intro D acc d hD hd
    have hni : isNI d := by
      simp only [List.mem_cons, List.not_mem_nil, or_false] at hd
      rcases hd with rfl | rfl | rfl | rfl <;> trivial
    walk_at "ss"
    refine re_forget (re_o2 (re_meth ?_))
    walk_at "ss"
    intro x hx
    refine ⟨rfl, x, _, _, rfl, cu_same .., rfl, ?_⟩
    rw [cu_cu]
    refine ⟨x, _, rfl, cu_same .., rfl, ?_⟩
    walk_at "ss"
    exact ⟨rfl, x, "room", d, .d (stsD both), both, 9, 36, 5, rfl, cu_same .., by decide +kernel, hni, .d _, ⟨by omega, by omega⟩, by decide, _, CeX.new hx, rfl, rfl⟩
  intro p hp
  have hG : [PyData.int 0, .int 1, .int 2, .int (-1)].map gBars = [.d (.bool true), .d (.bool true), .d (.bool false), .d (.bool false)] := by
    simp only [List.map_cons, List.map_nil, gBars, u1, u2, u3, u4]
  rw [hG]
  walk_at "ss"
  refine ⟨p, rfl, ⟨_, cu_same ..⟩, ?_⟩
  refine re_o2 (re_meth ?_)
  walk_at "ss"
  intro x hx
  refine ⟨rfl, x, _, _, rfl, cu_same .., rfl, ?_⟩
  rw [cu_cu]
  refine ⟨x, _, rfl, cu_same .., rfl, ?_⟩
  have hp1 := cu_old (x := .ins a.Bars (fBars (.str "space") .none)) (cu_same (c := c) (a := p) (x := .lst [.d (.bool true), .d (.bool true), .d (.bool false), .d (.bool false)])) hx
  have h0 : CeX c (cu (cu c p (.lst [.d (.bool true), .d (.bool true), .d (.bool false), .d (.bool false)])) x (.ins a.Bars (fBars (.str "space") .none))) := (CeX.new hp).trans (CeX.new hx)
  have hx1 := cu_same (c := cu c p (.lst [.d (.bool true), .d (.bool true), .d (.bool false), .d (.bool false)])) (a := x) (x := .ins a.Bars (fBars (.str "space") .none))
  generalize (cu (cu c p (.lst [.d (.bool true), .d (.bool true), .d (.bool false), .d (.bool false)])) x (.ins a.Bars (fBars (.str "space") .none))) = c1 at *
  walk_at "ss"
  refine ⟨rfl, x, "space", .none, .d (stsD both), both, 9, 36, 5, rfl, hx1, by decide +kernel, trivial, .d _, ⟨by omega, by omega⟩, by decide, ?_⟩
  rw [u5]
  refine ⟨_, hp1, by simp, ?_⟩
  walk_at "dd"
  refine r2_ne (d1 := .list [.bool true, .bool true, .bool false, .bool false, .bool true]) (.lst (cu_same ..)) (.d _) rfl rfl ?_
  generalize hc2 : cu c1 p _ = c2
  have h2 : CeX c c2 := by rw [← hc2]; exact CeX.mut h0 hp
  clear hc2 hp1 hx1 hG
  walk_at "ss"
  refine re_o2 (re_meth ?_)
  walk_at "ss"
  intro x' hx'
  refine ⟨rfl, x', _, _, rfl, cu_same .., rfl, ?_⟩
  rw [cu_cu]
  have h3 : CeX c (cu c2 x' (.ins a.Bars (fBars (.str "few") .none))) := h2.trans (CeX.new hx')
  have hx2 := cu_same (c := c2) (a := x') (x := .ins a.Bars (fBars (.str "few") .none))
  generalize cu c2 x' (.ins a.Bars (fBars (.str "few") .none)) = c3 at *
  refine ⟨x', _, rfl, hx2, rfl, ?_⟩
  walk_at "ss"
  refine ⟨rfl, x', "few", .none, .d (stsD both), both, 9, 1, 5, rfl, hx2, by decide +kernel, trivial, .d _, ⟨by omega, by omega⟩, by decide, ?_⟩
  rw [u6]
  walk_at "ss"
  refine r2_isntB ?_
  walk_at "dd"
  refine ⟨rfl, .d (stsD pair), pair, 3, 4, 6, rfl, .d _, (fun _ h => by cases h), okSts_dec (by decide) (by decide), by omega, by omega, by omega, ?_, ?_⟩
  · intro tx st h
    rw [plan1] at h; cases h
  intro ws h y w hy hw hyw
  rw [plan1] at h
  cases h
  have hk := cu_same (c := cu c3 w (.lst (([5, 4].map PyData.int).map .d))) (a := y) (x := .ins a.Keeps (fKeeps w))
  have hww : (cu (cu c3 w (.lst (([5, 4].map PyData.int).map .d))) y (.ins a.Keeps (fKeeps w))) w = some (.lst (([5, 4].map PyData.int).map .d)) := cu_to hyw.symm (cu_same ..)
  have hcw : c w = none := CeX.free h3 hw
  have h4 : CeX c (cu (cu c3 w (.lst (([5, 4].map PyData.int).map .d))) y (.ins a.Keeps (fKeeps w))) := (h3.trans (CeX.new hw)).trans (CeX.new (by rw [cu_ne hyw]; exact hy))
  generalize cu (cu c3 w (.lst (([5, 4].map PyData.int).map .d))) y (.ins a.Keeps (fKeeps w)) = c4 at *
  refine ra_cons (re_own (rn_lst ?_))
  walk_at "ss"
  refine ⟨by simp, fun l hl0 => ?_⟩
  walk_at "ss"
  refine ⟨_, _, rfl, ?_⟩
  walk_at "ss"
  have hcl : c l = none := CeX.free h4 hl0
  have hyl : y ≠ l := ce_ne hk hl0
  have hwl : w ≠ l := ce_ne hww hl0
  refine rs_forT ?_
  walk_at "dd"
  refine ⟨_, _, _, _, rfl, cu_old hk hl0, T_Keeps.cl, T_Keeps.n_waits, fKeeps_w w, ?_⟩
  walk_at "dd"
  refine ix_o (i := 0) (cu_old hww hl0) (y := .d (.int 5)) rfl ?_
  walk_at "dd"
  refine ⟨[.int 6, .int 5], fun i e c' => (∃ x1 x2 x3 x4, e = [.d (stsD both), x1, .o y, .o l, x2, x3, x4]) ∧ CeX c c' ∧ c' y = some (.ins a.Keeps (fKeeps w)) ∧ (∃ v, c' w = some (.lst (([v, 4].map PyData.int).map .d))) ∧ c' l = some (.lst (([false, true].take i).map fun b => .d (.bool b))), rfl,
    ⟨⟨_, _, _, _, rfl⟩, h4.trans (CeX.new hl0), cu_old hk hl0, ⟨5, cu_old hww hl0⟩, cu_same ..⟩, ?_, ?_⟩
  · rintro i d e c' hi ⟨⟨x1, x2, x3, x4, rfl⟩, g0, gy, ⟨v, gw⟩, gl⟩
    obtain ⟨n, b, rfl, hb, hT⟩ : ∃ n b, d = .int n ∧ keepsShows [n, 4] pair 3 4 6 = b ∧ [false, true].take (i + 1) = [false, true].take i ++ [b] := by
      match i, hi with
      | 0, hi => cases hi; exact ⟨6, _, rfl, u7, rfl⟩
      | 1, hi => cases hi; exact ⟨5, _, rfl, u8, rfl⟩
      | _ + 2, hi => cases hi
    walk_at "ss"
    refine rg_sub ?_
    walk_at "ss"
    refine ⟨_, _, _, _, rfl, gy, T_Keeps.cl, T_Keeps.n_waits, fKeeps_w w, ?_⟩
    walk_at "ss"
    refine rset_list (j := 0) gw rfl ?_
    have ky : (cu c' w (.lst (([n, 4].map PyData.int).map .d))) y = some (.ins a.Keeps (fKeeps w)) := cu_to hyw gy
    have kl : (cu c' w (.lst (([n, 4].map PyData.int).map .d))) l = some (.lst (([false, true].take i).map fun b => .d (.bool b))) := cu_to hwl.symm gl
    walk_at "ss"
    refine ⟨l, rfl, ⟨_, kl⟩, ?_⟩
    refine re_o1 (re_meth ?_)
    walk_at "dd"
    refine ⟨y, _, rfl, ky, rfl, ?_⟩
    walk_at "dd"
    refine ⟨rfl, y, w, [n, 4], .d (stsD pair), pair, 3, 4, 6, rfl, ky, cu_same .., .d _, ⟨by omega, by omega⟩, by decide, ?_⟩
    rw [hb]
    refine ⟨_, kl, by rw [List.length_map, List.length_take]; simp only [List.length_cons, List.length_nil]; omega, ?_⟩
    refine ⟨⟨_, _, _, _, rfl⟩, ?_, ?_, ⟨n, ?_⟩, ?_⟩
    · exact CeX.mut (CeX.mut g0 hcw) hcl
    · exact cu_to hyl ky
    · exact cu_to hwl (cu_same ..)
    · rw [hT, List.map_append]; exact cu_same ..
  rintro e c' ⟨⟨x1, x2, x3, x4, rfl⟩, g0, gy, ⟨v, gw⟩, gl⟩
  walk_at "ss"
  refine re_new (rn_lcT ?_)
  walk_at "dd"
  refine ⟨[.int 5, .int 4, .int 1], gKeeps, rfl, by simp, ?_, ?_⟩
  · intro D acc d hD hd
    obtain ⟨n, rfl⟩ : ∃ n, d = .int n := by
      simp only [List.mem_cons, List.not_mem_nil, or_false] at hd
      rcases hd with rfl | rfl | rfl <;> exact ⟨_, rfl⟩
    walk_at "ss"
    refine re_forget (re_o1 (re_meth ?_))
    walk_at "dd"
    intro z hz
    refine ⟨rfl, z, .d (intsL [2]), [.int 2], rfl, cu_same .., .d _, by decide, fun v' hv' => ⟨rfl, ?_⟩⟩
    have hzv : v' ≠ z := fun e => by rw [e, cu_same] at hv'; cases hv'
    rw [cu3 hzv]
    rw [cu_ne hzv] at hv'
    refine ⟨z, _, rfl, cu_same .., rfl, ?_⟩
    walk_at "dd"
    exact ⟨rfl, z, v', [2], .d (stsD [(10, 2, 9)]), [(10, 2, 9)], n, 3, 4, rfl, cu_same .., cu_to hzv (cu_same ..), .d _, ⟨by omega, by omega⟩, by decide, _, (CeX.new hv').trans (CeX.new (by rw [cu_ne hzv.symm]; exact hz)), rfl, rfl⟩
  have hG : [PyData.int 5, .int 4, .int 1].map gKeeps = [.d (.bool false), .d (.bool true), .d (.bool true)] := by
    simp only [List.map_cons, List.map_nil, gKeeps, v1, v2, v3]
  rw [hG]
  refine ⟨[.bool false, .bool true, .bool true], rfl, ?_⟩
  walk_at "dd"
  refine r2_ne (.d _) (.d _) rfl rfl ?_
  walk_at "dd"
  refine r2_eq (d1 := .list [.bool false, .bool true]) (.lst gl) (.d _) rfl rfl ?_
  walk_at "dd"
  refine re_o1 (re_meth ?_)
  walk_at "dd"
  intro z hz
  refine ⟨rfl, z, .d (intsL [5, 4]), [.int 5, .int 4], rfl, cu_same .., .d _, by decide, fun v' hv' => ⟨rfl, ?_⟩⟩
  have hzv : v' ≠ z := fun e => by rw [e, cu_same] at hv'; cases hv'
  rw [cu3 hzv]
  rw [cu_ne hzv] at hv'
  refine ⟨z, _, rfl, cu_same .., rfl, ?_⟩
  walk_at "dd"
  refine ⟨rfl, z, v', [5, 4], .d (stsD pair), pair, 3, 4, 6, rfl, cu_same .., cu_to hzv (cu_same ..), .d _, ⟨by omega, by omega⟩, by decide, ?_⟩
  rw [u8]
  walk_at "ss"
  refine r2_isB ?_
  exact ⟨c, (g0.trans (CeX.new hv')).trans (CeX.new (by rw [cu_ne hzv.symm]; exact hz)), q⟩
end Rp
namespace Rp
def P_law (_ : Ad) : SpS := spLaw
theorem cd_ne {c : Ce} {a b : Addr} (h : b ≠ a) : cd c a b = c b := if_neg h
theorem rep_flat (n : Nat) (v : Int) : (List.replicate n [Sl.d (.int v)]).flatten = ((List.replicate n v).map PyData.int).map Sl.d := by
  induction n with
  | zero => rfl
  | succ n ih => rw [List.replicate_succ, List.flatten_cons, ih, List.replicate_succ]; rfl
theorem pair_shaped {tx : Str} {st : PyData} (h : SeqAt.shaped (.str tx) = true) (hn : isNI st) : SeqAt.shaped (.tuple [.str tx, st]) = true := by
  have h1 : PyData.canLay0 (.str tx) = true := SeqAt.canLay_of_shaped h
  have h2 : PyData.canLay0 st = true ∧ PyData.depth st = 0 := by
    cases st <;> first | exact hn.elim | exact ⟨rfl, rfl⟩
  simp only [SeqAt.shaped, PyData.canLay0, PyData.canLayAll0, PyData.depth, PyData.depthAll, h2.1, h2.2, Bool.and_true, Bool.and_eq_true, decide_eq_true_eq]
  exact ⟨h1, by decide⟩
def okL (L : List (List Int)) : Prop := ∀ ws ∈ L, ws.length ≤ 10
abbrev s_law : Stmt := top 29
abbrev N_law : List Str := ["_law_script", "_law_by", "_law_stations", "_law_space", "_law_many", "_law_ticks", "_law_waits_here", "_law_lots", "_law_at", "_law_more", "_law_row", "_law_handed", "_law_answer", "_law_due", "_law_text", "_law_station", "_law_one"]
theorem sc_law : FnScope N_law ["_law_script"] (defScope s_law) := ⟨rfl, rfl, rfl, by decide +kernel, rfl, by decide +kernel, by decide +kernel⟩
theorem ok_law {P : Program} {w : World} {K : PySem.W.Frag} {mg : Str → Option Value} {base : Heap} (a : Ad) (B : Bltn mg) (T_Keeps : Cl_Keeps K mg a.Keeps) (T_Bars : Cl_Bars K mg a.Bars) (D_law_outright : DefG P w K mg base "_law_outright" 6 [] (P_law_outright a)) (D_law_plan : DefG P w K mg base "_law_plan" 3 ["_law_script", "_law_by"] (P_law_plan a)) (D_law_waits : DefG P w K mg base "_law_waits" 1 ["_law_stations", "_law_many", "_law_ticks"] (P_law_waits a)) (D_law_is_keeps : DefG P w K mg base "_law_is_keeps" 1 ["_law_stations", "_law_space", "_law_many", "_law_ticks", "_law_waits_here"] (P_law_is_keeps a)) (D_law_says : DefG P w K mg base "_law_says" 1 ["_law_said", "_law_due"] (P_law_says a)) (D_law_is_bars : DefG P w K mg base "_law_is_bars" 1 ["_law_stations", "_law_space", "_law_many", "_law_ticks", "_law_text", "_law_station"] (P_law_is_bars a)) (D_Keeps : MakeG P w K mg base "Keeps" a.Keeps 1 ["self", "waits"] (P_Keeps_init a)) (D_Bars : MakeG P w K mg base "Bars" a.Bars 1 ["self", "text", "station"] (P_Bars_init a)) (M_Keeps_shows : MethG P w K mg base a.Keeps "shows" 1 ["self", "stations", "space", "many", "ticks"] (P_Keeps_shows a)) (M_Bars_shows : MethG P w K mg base a.Bars "shows" 2 ["self", "stations", "space", "many", "ticks"] (P_Bars_shows a)) {fa : Addr} {fd : FuncData} (F : Fun K "law" "law" s_law fa fd) : FnG P w K mg base 7 fa fd ["_law_script"] (spOf K 1 (P_law a)) := by
  refine okG F sc_law ?_
  intro cdv A out s H E g room xs c QS QE hl hp
  refine ⟨_, (pss_cons (ps_for (passes_of rfl) rfl (pi_range1 (by rfl) B.h_range (pa_cons pe_int pa_nil)) (pg_name (i := 1) sc_law.nd (by rfl) (Or.inl rfl))
        (pss_cons (ps_asg (pe_d D_law_plan g (room.mono (by decide)) (by rfl) passC (pa_cons (pv 0) (pa_cons (pv 1) pa_nil))) (kGTup (KK := K) rfl (pgs_cons (pg_name (i := 2) sc_law.nd (by rfl) (Or.inl rfl)) (pgs_cons (pg_name (i := 3) sc_law.nd (by rfl) (Or.inl rfl)) (pgs_cons (pg_name (i := 4) sc_law.nd (by rfl) (Or.inl rfl)) (pgs_cons (pg_name (i := 5) sc_law.nd (by rfl) (Or.inr rfl)) pgs_nil))))))
      (pss_cons (ps_set (i := 6) sc_law.nd (by rfl) (Or.inl rfl) (pe_d D_law_waits g (room.mono (by decide)) (by rfl) passC (pa_cons (pv 2) (pa_cons (pv 4) (pa_cons (pv 5) pa_nil)))))
      (pss_cons (ps_set (i := 7) sc_law.nd (by rfl) (Or.inl rfl) (pe_lst (pa_cons (pv 6) (pa_cons (pe_rev (KK := K) (pv 6) (pe_un un_neg pe_int)) (pa_cons (pe_op (kAdd (KK := K)) (pv 6) (pe_lst (pa_cons pe_int pa_nil))) (pa_cons (pe_slice (kSl (KK := K)) (pv 6) po_none (po_some (pe_un un_neg pe_int))) (pa_cons (pe_lst pa_nil) (pa_cons (pe_op (kMul (KK := K)) (pe_lst (pa_cons (pe_op op_pow pe_int pe_int) pa_nil)) (pe_callB (kLen (KK := K)) (by rfl) B.h_len (by decide +kernel) (pa_cons (pv 2) pa_nil))) pa_nil))))))))
      (pss_cons (ps_set (i := 7) sc_law.nd (by rfl) (Or.inl rfl) (pe_op (kAdd (KK := K)) (pv 7) (pe_lst (pa_cons (pe_lc (own := [("_law_one", 16)]) (g := gName 16) (tt := tYes) rfl sc_law.nd (kIList (KK := K) (pv 2)) (blkOk_by (by kernel_rfl)) (fun _ _ _ _ _ => (pg_name (i := 16) sc_law.nd (by rfl) (Or.inl rfl))) (fun _ _ _ _ _ => pts_nil) (fun _ _ _ _ _ => (pe_ix (kIx (KK := K)) (pv 16) pe_int (fun _ _ => rfl)))) (pa_cons (pe_lc (own := [("_law_one", 16)]) (g := gName 16) (tt := tYes) rfl sc_law.nd (kIList (KK := K) (pv 2)) (blkOk_by (by kernel_rfl)) (fun _ _ _ _ _ => (pg_name (i := 16) sc_law.nd (by rfl) (Or.inl rfl))) (fun _ _ _ _ _ => pts_nil) (fun _ _ _ _ _ => (pe_op op_sub (pe_op (kMul (KK := K)) (pe_ix (kIx (KK := K)) (pv 16) pe_int (fun _ _ => rfl)) (pv 5)) pe_int))) pa_nil)))))
      (pss_cons (ps_for (passes_of rfl) rfl (pi_range1 (by rfl) B.h_range (pa_cons (pe_callB (kLen (KK := K)) (by rfl) B.h_len (by decide +kernel) (pa_cons (pv 2) pa_nil)) pa_nil)) (pg_name (i := 8) sc_law.nd (by rfl) (Or.inl rfl))
        (pss_one (ps_for (passes_of rfl) rfl (kITup (KK := K) (pe_tup (pa_cons pe_int (pa_cons (pe_un un_neg pe_int) pa_nil)))) (pg_name (i := 9) sc_law.nd (by rfl) (Or.inl rfl))
        (pss_cons (ps_set (i := 10) sc_law.nd (by rfl) (Or.inl rfl) (pe_callTy (kList (KK := K)) (by rfl) B.h_list (by decide +kernel) (pa_cons (pv 6) pa_nil)))
      (pss_cons (ps_asg (pe_op (kAdd (KK := K)) (pe_ix (kIx (KK := K)) (pv 10) (pv 8) (fun _ _ => rfl)) (pv 9)) (pg_sub (pv 10) (pv 8) set_list))
      (pss_cons (ps_expr (kAppend (KK := K) (pv 7) (pa_cons (pe_callTy (kList (KK := K)) (by rfl) B.h_list (by decide +kernel) (pa_cons (pv 10) pa_nil)) pa_nil)))
      (pss_cons (ps_asg (pe_op op_sub (pe_ix (kIx (KK := K)) (pv 10) (pe_op op_sub (pe_un un_neg pe_int) (pv 8)) (fun _ _ => rfl)) (pv 9)) (pg_sub (pv 10) (pe_op op_sub (pe_un un_neg pe_int) (pv 8)) set_list))
      (pss_one (ps_expr (kAppend (KK := K) (pv 7) (pa_cons (pv 10) pa_nil)))))))))))
      (pss_cons (ps_for (passes_of rfl) rfl (kIList (KK := K) (pv 7)) (pg_name (i := 10) sc_law.nd (by rfl) (Or.inl rfl))
        (pss_cons (ps_set (i := 11) sc_law.nd (by rfl) (Or.inl rfl) (pe_callTy (kList (KK := K)) (by rfl) B.h_list (by decide +kernel) (pa_cons (pv 10) pa_nil)))
      (pss_cons (ps_set (i := 12) sc_law.nd (by rfl) (Or.inl rfl) (pe_k D_Keeps g (room.mono (by decide)) (by rfl) passC (pa_cons (pv 11) pa_nil)))
      (pss_cons (ps_expr (kAppend (KK := K) (pv 11) (pa_cons pe_int pa_nil)))
      (pss_cons (ps_set (i := 13) sc_law.nd (by rfl) (Or.inl rfl) (pe_d D_law_is_keeps g (room.mono (by decide)) (by rfl) passC (pa_cons (pv 2) (pa_cons (pv 3) (pa_cons (pv 4) (pa_cons (pv 5) (pa_cons (pv 10) pa_nil)))))))
      (pss_one (ps_if (PW.pt (pw_or (pt_cmpR (kNe (KK := K) room.units) (kFld (KK := K) (pv 12) (by rfl)) (pv 10) (nomark _)) (pw_or1 (pt_not (pt_val (pe_d D_law_says g (room.mono (by decide)) (by rfl) passC (pa_cons (pe_or (pe_m (pv 12) T_Keeps.cl M_Keeps_shows g (room.mono (by decide)) passC (pa_cons (pv 2) (pa_cons (pv 3) (pa_cons (pv 4) (pa_cons (pv 5) pa_nil))))) (pe_m (pv 12) T_Bars.cl M_Bars_shows g (room.mono (by decide)) passC (pa_cons (pv 2) (pa_cons (pv 3) (pa_cons (pv 4) (pa_cons (pv 5) pa_nil)))))) (pa_cons (pv 13) pa_nil))))))))
        (pss_one (ps_ret pe_bl))
        pss_nil)))))))
      (pss_one (ps_for (passes_of rfl) rfl (kITup (KK := K) (pe_tup (pa_cons pe_str (pa_cons pe_str (pa_cons pe_str (pa_cons pe_str (pa_cons pe_str (pa_cons pe_str (pa_cons pe_str (pa_cons pe_str pa_nil)))))))))) (pg_name (i := 14) sc_law.nd (by rfl) (Or.inl rfl))
        (pss_one (ps_for (passes_of rfl) rfl (kITup (KK := K) (pe_tup (pa_cons pe_int (pa_cons pe_int (pa_cons (pe_op op_sub (pe_callB (kLen (KK := K)) (by rfl) B.h_len (by decide +kernel) (pa_cons (pv 2) pa_nil)) pe_int) (pa_cons (pe_callB (kLen (KK := K)) (by rfl) B.h_len (by decide +kernel) (pa_cons (pv 2) pa_nil)) (pa_cons (pe_un un_neg pe_int) (pa_cons pe_non (pa_cons (pe_op op_pow pe_int pe_int) pa_nil))))))))) (pg_name (i := 15) sc_law.nd (by rfl) (Or.inl rfl))
        (pss_cons (ps_par (i := 12) (j := 13) rfl sc_law.nd (by rfl) (by rfl) (by decide) rfl rfl (pa_cons (pe_k D_Bars g (room.mono (by decide)) (by rfl) passC (pa_cons (pv 14) (pa_cons (pv 15) pa_nil))) (pa_cons (pe_d D_law_is_bars g (room.mono (by decide)) (by rfl) passC (pa_cons (pv 2) (pa_cons (pv 3) (pa_cons (pv 4) (pa_cons (pv 5) (pa_cons (pv 14) (pa_cons (pv 15) pa_nil))))))) pa_nil)) (by rfl))
      (pss_cons (ps_if (pt_cmpR (kNe (KK := K) room.units) (pe_tup (pa_cons (kFld (KK := K) (pv 12) (by rfl)) (pa_cons (kFld (KK := K) (pv 12) (by rfl)) pa_nil))) (pe_tup (pa_cons (pv 14) (pa_cons (pv 15) pa_nil))) (nomark _))
        (pss_one (ps_ret pe_bl))
        pss_nil)
      (pss_one (ps_if (pt_not (pt_val (pe_d D_law_says g (room.mono (by decide)) (by rfl) passC (pa_cons (pe_or (pe_m (pv 12) T_Keeps.cl M_Keeps_shows g (room.mono (by decide)) passC (pa_cons (pv 2) (pa_cons (pv 3) (pa_cons (pv 4) (pa_cons (pv 5) pa_nil))))) (pe_m (pv 12) T_Bars.cl M_Bars_shows g (room.mono (by decide)) passC (pa_cons (pv 2) (pa_cons (pv 3) (pa_cons (pv 4) (pa_cons (pv 5) pa_nil)))))) (pa_cons (pv 13) pa_nil)))))
        (pss_one (ps_ret pe_bl))
        pss_nil)))))))))))))))
      (pss_one (ps_ret (pe_d0 D_law_outright g (room.mono (by decide)) (by rfl) passC)))), ?_⟩
  try dsimp only [L2.cxOf]
  obtain ⟨ns, rfl, hn, q⟩ := hp
  walk_at "ss"
  refine rs_forR_ ?_
  walk_at "ss"
  refine ⟨3, fun i e c' => ∃ y1 y2 y3 y4 y5 y6 y7 y8 y9 y10 y11 y12 y13 y14 y15 y16, e = [.s ns, y1, y2, y3, y4, y5, y6, y7, y8, y9, y10, y11, y12, y13, y14, y15, y16], rfl, by omega, ⟨_, _, _, _, _, _, _, _, _, _, _, _, _, _, _, _, rfl⟩, ?_, ?_⟩
  rotate_left
  · rintro e c' ⟨y1, y2, y3, y4, y5, y6, y7, y8, y9, y10, y11, y12, y13, y14, y15, y16, rfl⟩
    walk_at "ss"
    exact ⟨rfl, rfl, q _⟩
  rintro i e c' hi ⟨y1, y2, y3, y4, y5, y6, y7, y8, y9, y10, y11, y12, y13, y14, y15, y16, rfl⟩
  walk_at "ss"
  refine ⟨rfl, ns, i, rfl, by omega, fun ss sp m t hok => ?_⟩
  have st : small t := ⟨by have := hok.2.2.2; omega, by have := hok.2.2.2; omega⟩
  have hl4 : ss.length ≤ 4 := hok.1.1.2
  walk_at "ss"
  refine ⟨rfl, .d (stsD ss), ss, m, t, rfl, .d _, st, by omega, fun ws hws => ?_⟩
  refine rg_name ?_
  refine rs_seq (rs_to (fun e1 c1 => (∃ y1 y8 y9 y10 y11 y12 y13 y14 y15 y16, e1 = [.s ns, y1, .d (stsD ss), .d (.int sp), .d (.int m), .d (.int t), .d (intsL ws), .d (.list ([ws, ws.reverse, ws ++ [0], cutX ws none (some (-1)), [], List.replicate ss.length (10 ^ 20)].map intsL)), y8, y9, y10, y11, y12, y13, y14, y15, y16]) ∧ c' = c1) ?_ ?_)
  · refine rs_asg (re_new (rn_lst ?_))
    walk_at "ss"
    refine re_new (rn_rev ?_)
    walk_at "ss"
    refine r1_int (g := fun i => -i) ?_
    refine ⟨rfl, _, rfl, ws.reverse.map .int, by rw [← List.map_reverse, ← List.map_reverse], ?_⟩
    walk_at "dd"
    refine add_lst (r2_new (r2n_cat rfl rfl (by simp; omega) ⟨(ws ++ [0]).map .int, by simp, ?_⟩))
    walk_at "dd"
    refine r1_int (g := fun i => -i) ?_
    walk_at "dd"
    refine sl_lst rfl (ds := (cutX ws none (some (-1))).map .int) (by rw [cutX_map, cutX_map]) ?_
    walk_at "dd"
    refine r2_intC (C := CPow) (g := fun i j => i ^ j.toNat) (by unfold CPow; decide) ?_
    walk_at "dd"
    refine rl_lenL (.d _) ?_
    rw [List.length_map]
    refine mul_lst (r2_new (r2n_rep rfl (by omega) (by omega) (by simp; omega) ⟨(List.replicate ss.length (10 ^ 20)).map .int, by rw [Int.toNat_natCast]; exact rep_flat _ _, ?_⟩))
    walk_at "dd"
    exact ⟨⟨_, _, _, _, _, _, _, _, _, _, rfl⟩, rfl⟩
  rintro _ c1 ⟨⟨y1, y8, y9, y10, y11, y12, y13, y14, y15, y16, rfl⟩, rfl⟩
  refine rs_seq (rs_to (fun e1 c2 => ∃ (p : Addr) (L : List (List Int)), (∃ y1 y8 y9 y10 y11 y12 y13 y14 y15 y16, e1 = [.s ns, y1, .d (stsD ss), .d (.int sp), .d (.int m), .d (.int t), .d (intsL ws), .o p, y8, y9, y10, y11, y12, y13, y14, y15, y16]) ∧ c2 p = some (.lst ((L.map intsL).map .d)) ∧ L.length = 8 ∧ okL L) ?_ ?_)
  · refine rs_asg (re_op ?_)
    walk_at "ss"
    refine re_new (rn_lst ?_)
    refine ra_cons (re_new (rn_lcL ss (fun s => .d (stD s)) (fun s => .d (.int s.2.1)) ?_))
    walk_at "ss"
    refine ⟨by show some ((ss.map stD).map Sl.d) = _; rw [List.map_map]; rfl, by omega, fun D acc s _ _ => ?_, ss.map (fun s => .int s.2.1), by rw [List.map_map]; rfl, ?_⟩
    · walk_at "ss"
      exact ⟨rfl, rfl⟩
    refine ra_cons (re_new (rn_lcL ss (fun s => .d (stD s)) (fun s => .d (.int (s.2.2 * t - 1))) ?_))
    walk_at "ss"
    refine ⟨by show some ((ss.map stD).map Sl.d) = _; rw [List.map_map]; rfl, by omega, fun D acc s _ _ => ?_, ss.map (fun s => .int (s.2.2 * t - 1)), by rw [List.map_map]; rfl, ?_⟩
    · walk_at "ss"
      refine mul_int (.inr st) ?_
      walk_at "ss"
      exact ⟨rfl, rfl⟩
    walk_at "ss"
    refine add_lst (r2_own (r2n_cat rfl rfl (by simp) fun p hp => ?_))
    walk_at "ss"
    refine ⟨p, [ws, ws.reverse, ws ++ [0], cutX ws none (some (-1)), [], List.replicate ss.length (10 ^ 20), ss.map (fun s => s.2.1), ss.map (fun s => s.2.2 * t - 1)], ⟨_, _, _, _, _, _, _, _, _, _, rfl⟩, ?_, rfl, ?_⟩
    · rw [cu_same]
      simp [intsL, List.map_map, Function.comp_def]
    · intro w hw
      have hcut : (cutX ws none (some (-1))).length ≤ ws.length := by
        unfold cutX
        rw [List.length_take, List.length_drop]
        omega
      simp only [List.mem_cons, List.not_mem_nil, or_false] at hw
      rcases hw with rfl | rfl | rfl | rfl | rfl | rfl | rfl | rfl <;> simp <;> omega
  rintro _ c2 ⟨p, L, ⟨y1, y8, y9, y10, y11, y12, y13, y14, y15, y16, rfl⟩, hL, hLl, hLk⟩
  refine rs_seq (rs_forR_ ?_)
  walk_at "ss"
  refine rl_lenL (.d _) ?_
  rw [List.length_map]
  refine ⟨ss.length, fun j e1 c3 => ∃ (L : List (List Int)), (∃ y1 y8 y9 y10 y11 y12 y13 y14 y15 y16, e1 = [.s ns, y1, .d (stsD ss), .d (.int sp), .d (.int m), .d (.int t), .d (intsL ws), .o p, y8, y9, y10, y11, y12, y13, y14, y15, y16]) ∧ c3 p = some (.lst ((L.map intsL).map .d)) ∧ L.length = 8 + 4 * j ∧ okL L, rfl, by omega, ⟨L, ⟨_, _, _, _, _, _, _, _, _, _, rfl⟩, hL, hLl, hLk⟩, ?_, ?_⟩
  · rintro j e1 c3 hj ⟨L, ⟨y1, y8, y9, y10, y11, y12, y13, y14, y15, y16, rfl⟩, hL, hLl, hLk⟩
    walk_at "ss"
    refine rs_forT ?_
    walk_at "dd"
    refine r1_int (g := fun i => -i) ?_
    walk_at "dd"
    refine ⟨[.int 1, .int (-1)], fun k e1 c3 => ∃ (L : List (List Int)), (∃ y1 y9 y10 y11 y12 y13 y14 y15 y16, e1 = [.s ns, y1, .d (stsD ss), .d (.int sp), .d (.int m), .d (.int t), .d (intsL ws), .o p, .d (.int (j : Nat)), y9, y10, y11, y12, y13, y14, y15, y16]) ∧ c3 p = some (.lst ((L.map intsL).map .d)) ∧ L.length = 8 + 4 * j + 2 * k ∧ okL L, rfl, ⟨L, ⟨_, _, _, _, _, _, _, _, _, rfl⟩, hL, by omega, hLk⟩, ?_, ?_⟩
    rotate_left
    · rintro e1 c4 ⟨L, ⟨y1, y9, y10, y11, y12, y13, y14, y15, y16, rfl⟩, hL, hLl, hLk⟩
      exact ⟨L, ⟨_, _, _, _, _, _, _, _, _, _, rfl⟩, hL, by rw [hLl]; simp only [List.length_cons, List.length_nil]; omega, hLk⟩
    rintro k d e1 c4 hd ⟨L, ⟨y1, y9, y10, y11, y12, y13, y14, y15, y16, rfl⟩, hL, hLl, hLk⟩
    have hk2 : k < 2 := (List.getElem?_eq_some_iff.mp hd).1
    obtain ⟨v, rfl⟩ : ∃ v, d = .int v := by
      have := List.mem_of_getElem? hd
      simp only [List.mem_cons, List.not_mem_nil, or_false] at this
      rcases this with rfl | rfl <;> exact ⟨_, rfl⟩
    have hjw : j < ws.length := by omega
    walk_at "ss"
    refine rl_own (rln_list (.inl rfl) fun r hr0 => ?_)
    have hpr : p ≠ r := ce_ne hL hr0
    have hr := cu_same (c := c4) (a := r) (x := .lst ((ws.map PyData.int).map .d))
    have hLr : (cu c4 r (.lst ((ws.map PyData.int).map .d))) p = some (.lst ((L.map intsL).map .d)) := cu_to hpr hL
    generalize cu c4 r (.lst ((ws.map PyData.int).map .d)) = c5 at *
    walk_at "ss"
    refine ix_o (i := j) hr (y := .d (.int ws[j])) (by rw [List.getElem?_map, List.getElem?_map, List.getElem?_eq_getElem hjw]; rfl) ?_
    walk_at "ss"
    refine rg_sub ?_
    walk_at "ss"
    refine rset_list (j := j) hr (by rw [List.length_map, List.length_map]; exact ixN_pos hjw) ?_
    have e1 : ((ws.map PyData.int).map Sl.d).set j (.d (.int (ws[j] + v))) = ((ws.set j (ws[j] + v)).map PyData.int).map Sl.d := by rw [List.map_set, List.map_set]
    rw [e1]
    have hw1 : (ws.set j (ws[j] + v)).length = ws.length := List.length_set ..
    generalize ws.set j (ws[j] + v) = w1 at *
    have hr2 := cu_same (c := c5) (a := r) (x := .lst ((w1.map PyData.int).map .d))
    have hLr2 : (cu c5 r (.lst ((w1.map PyData.int).map .d))) p = some (.lst ((L.map intsL).map .d)) := cu_to hpr hLr
    generalize cu c5 r (.lst ((w1.map PyData.int).map .d)) = c6 at *
    walk_at "ss"
    refine ⟨p, rfl, ⟨_, hLr2⟩, ?_⟩
    walk_at "ss"
    refine rl_new (rln_list (.inl (lsrc_o hr2)) ⟨w1.map .int, rfl, ?_⟩)
    refine ⟨_, hLr2, by simp; omega, ?_⟩
    have e2 : (L.map intsL).map Sl.d ++ [.d (intsL w1)] = ((L ++ [w1]).map intsL).map Sl.d := by simp
    rw [e2]
    have hr3 : (cu c6 p (.lst (((L ++ [w1]).map intsL).map .d))) r = some (.lst ((w1.map PyData.int).map .d)) := cu_to hpr.symm hr2
    have hL3 := cu_same (c := c6) (a := p) (x := .lst (((L ++ [w1]).map intsL).map .d))
    generalize cu c6 p (.lst (((L ++ [w1]).map intsL).map .d)) = c7 at *
    have hjw1 : w1.length - 1 - j < w1.length := by omega
    walk_at "ss"
    refine r1_int (g := fun i => -i) ?_
    walk_at "ss"
    have hat : atI ((w1.map PyData.int).map Sl.d) (-1 - (j : Int)) = some (.d (.int w1[w1.length - 1 - j])) := by
      show (ixN ((w1.map PyData.int).map Sl.d).length (-1 - (j : Int))).bind _ = _
      rw [List.length_map, List.length_map, ixN_neg (by omega)]
      show ((w1.map PyData.int).map Sl.d)[w1.length - 1 - j]? = _
      rw [List.getElem?_map, List.getElem?_map, List.getElem?_eq_getElem hjw1]
      rfl
    refine r2_ix (.inl (r2_ixL (lsrc_o hr3) hat ?_))
    walk_at "ss"
    refine rg_sub ?_
    walk_at "ss"
    refine r1_int (g := fun i => -i) ?_
    walk_at "ss"
    refine rset_list (j := w1.length - 1 - j) hr3 (by rw [List.length_map, List.length_map]; exact ixN_neg (by omega)) ?_
    have e3 : ((w1.map PyData.int).map Sl.d).set (w1.length - 1 - j) (.d (.int (w1[w1.length - 1 - j] - v))) = ((w1.set (w1.length - 1 - j) (w1[w1.length - 1 - j] - v)).map PyData.int).map Sl.d := by rw [List.map_set, List.map_set]
    rw [e3]
    have hw2 : (w1.set (w1.length - 1 - j) (w1[w1.length - 1 - j] - v)).length = w1.length := List.length_set ..
    generalize w1.set (w1.length - 1 - j) (w1[w1.length - 1 - j] - v) = w2 at *
    have hr4 := cu_same (c := c7) (a := r) (x := .lst ((w2.map PyData.int).map .d))
    have hL4 : (cu c7 r (.lst ((w2.map PyData.int).map .d))) p = some (.lst (((L ++ [w1]).map intsL).map .d)) := cu_to hpr hL3
    generalize cu c7 r (.lst ((w2.map PyData.int).map .d)) = c8 at *
    refine rs_drop (re_app (a := (0 : Nat)) (xs := []) ?_)
    walk_at "s"
    refine ⟨p, rfl, ⟨_, hL4⟩, ?_⟩
    refine re_varF rfl hr4 ?_
    refine ⟨_, (cd_ne hpr).trans hL4, by simp; omega, ?_⟩
    refine ⟨L ++ [w1, w2], ⟨_, _, _, _, _, _, _, _, _, rfl⟩, ?_, by simp; omega, ?_⟩
    · rw [cu_same]; simp
    · intro w hw
      rcases List.mem_append.mp hw with h | h
      · exact hLk w h
      · simp only [List.mem_cons, List.not_mem_nil, or_false] at h
        rcases h with rfl | rfl <;> omega
  rintro e1 c3 ⟨L, ⟨y1, y8, y9, y10, y11, y12, y13, y14, y15, y16, rfl⟩, hL, hLl, hLk⟩
  refine rs_seq (rs_forL L (fun w => .d (intsL w)) (fun j e1 c4 => (∃ y1 y8 y9 y10 y11 y12 y13 y14 y15 y16, e1 = [.s ns, y1, .d (stsD ss), .d (.int sp), .d (.int m), .d (.int t), .d (intsL ws), .o p, y8, y9, y10, y11, y12, y13, y14, y15, y16]) ∧ c4 p = some (.lst ((L.map intsL).map .d))) ?_)
  walk_at "ss"
  refine ⟨⟨⟨_, _, _, _, _, _, _, _, _, _, rfl⟩, hL⟩, ?_, ?_, ?_⟩
  · rintro j e c4 _ ⟨_, h4⟩
    rw [lsrc_o h4, List.map_map]; rfl
  · rintro j w e c4 hw ⟨⟨y1, y8, y9, y10, y11, y12, y13, y14, y15, y16, rfl⟩, hL⟩
    have hwk := hLk w (List.mem_of_getElem? hw)
    walk_at "ss"
    refine rl_own (rln_list (.inl rfl) fun h hh0 => ?_)
    have hph : p ≠ h := ce_ne hL hh0
    have hh := cu_same (c := c4) (a := h) (x := .lst ((w.map PyData.int).map .d))
    have hL5 : (cu c4 h (.lst ((w.map PyData.int).map .d))) p = some (.lst ((L.map intsL).map .d)) := cu_to hph hL
    generalize cu c4 h (.lst ((w.map PyData.int).map .d)) = c5 at *
    walk_at "ss"
    intro z hz
    have hhz : h ≠ z := ce_ne hh hz
    have hpz : p ≠ z := ce_ne hL5 hz
    refine ⟨rfl, z, .o h, w.map .int, rfl, cu_same .., .lst (cu_old hh hz), by rw [List.length_map]; omega, fun v hv => ⟨rfl, ?_⟩⟩
    have hzv : v ≠ z := fun e => by rw [e, cu_same] at hv; cases hv
    rw [cu3 hzv]
    rw [cu_ne hzv] at hv
    have hhv : h ≠ v := ce_ne hh hv
    have hpv : p ≠ v := ce_ne hL5 hv
    have gz := cu_same (c := cu c5 v (.lst ((w.map PyData.int).map .d))) (a := z) (x := .ins a.Keeps (fKeeps v))
    have gv : (cu (cu c5 v (.lst ((w.map PyData.int).map .d))) z (.ins a.Keeps (fKeeps v))) v = some (.lst ((w.map PyData.int).map .d)) := cu_to hzv (cu_same ..)
    have gh : (cu (cu c5 v (.lst ((w.map PyData.int).map .d))) z (.ins a.Keeps (fKeeps v))) h = some (.lst ((w.map PyData.int).map .d)) := cu_to hhz (cu_to hhv hh)
    have gp : (cu (cu c5 v (.lst ((w.map PyData.int).map .d))) z (.ins a.Keeps (fKeeps v))) p = some (.lst ((L.map intsL).map .d)) := cu_to hpz (cu_to hpv hL5)
    generalize cu (cu c5 v (.lst ((w.map PyData.int).map .d))) z (.ins a.Keeps (fKeeps v)) = c6 at *
    walk_at "ss"
    refine ⟨h, rfl, ⟨_, gh⟩, ?_⟩
    walk_at "ss"
    refine ⟨_, gh, by simp; omega, ?_⟩
    have kz : (cu c6 h (.lst ((w.map PyData.int).map .d ++ [.d (.int 1)]))) z = some (.ins a.Keeps (fKeeps v)) := cu_to hhz.symm gz
    have kv : (cu c6 h (.lst ((w.map PyData.int).map .d ++ [.d (.int 1)]))) v = some (.lst ((w.map PyData.int).map .d)) := cu_to hhv.symm gv
    have kp : (cu c6 h (.lst ((w.map PyData.int).map .d ++ [.d (.int 1)]))) p = some (.lst ((L.map intsL).map .d)) := cu_to hph gp
    generalize cu c6 h (.lst ((w.map PyData.int).map .d ++ [.d (.int 1)])) = c7 at *
    walk_at "ss"
    refine ⟨rfl, w, .d (intsL w), .d (stsD ss), ss, sp, m, t, rfl, .d _, .d _, st, by omega, ?_⟩
    walk_at "ss"
    refine ⟨_, _, _, _, rfl, kz, T_Keeps.cl, T_Keeps.n_waits, fKeeps_w v, ?_⟩
    walk_at "ss"
    refine r2_ne (.lst kv) (.d _) (ints_shaped w) (ints_shaped w) ?_
    rw [ints_eqv]
    walk_at "ss"
    refine re_o1 (re_meth ?_)
    walk_at "ss"
    refine ⟨z, _, rfl, kz, rfl, ?_⟩
    walk_at "ss"
    refine ⟨rfl, z, v, w, .d (stsD ss), ss, sp, m, t, rfl, kz, kv, .d _, st, by omega, ?_⟩
    walk_at "ss"
    refine ⟨rfl, _, _, rfl, ?_⟩
    rw [decide_eq_true rfl]
    walk_at "ss"
    exact ⟨⟨_, _, _, _, _, _, _, _, _, _, rfl⟩, kp⟩
  rintro e1 c4 ⟨⟨y1, y8, y9, y10, y11, y12, y13, y14, y15, y16, rfl⟩, _⟩
  refine rs_forT ?_
  refine re_tup ?_
  walk_at "ss"
  refine ⟨[.str "room", .str "space", .str "few", .str "many", .str "Room", .str "", .str "full", .str "room\n"], rfl, by simp, ?_⟩
  refine ⟨_, fun j e1 c5 => (∃ y1 y7 y8 y9 y10 y11 y12 y13 y14 y15 y16, e1 = [.s ns, y1, .d (stsD ss), .d (.int sp), .d (.int m), .d (.int t), .d (intsL ws), y7, y8, y9, y10, y11, y12, y13, y14, y15, y16]), rfl, ⟨_, _, _, _, _, _, _, _, _, _, _, rfl⟩, ?_, ?_⟩
  rotate_left
  · rintro e1 c5 ⟨y1, y7, y8, y9, y10, y11, y12, y13, y14, y15, y16, rfl⟩
    exact ⟨_, _, _, _, _, _, _, _, _, _, _, _, _, _, _, _, rfl⟩
  rintro j d e1 c5 hd ⟨y1, y7, y8, y9, y10, y11, y12, y13, y14, y15, y16, rfl⟩
  obtain ⟨tx, rfl, htx⟩ : ∃ tx, d = .str tx ∧ SeqAt.shaped (.str tx) = true := by
    have := List.mem_of_getElem? hd
    simp only [List.mem_cons, List.not_mem_nil, or_false] at this
    rcases this with rfl | rfl | rfl | rfl | rfl | rfl | rfl | rfl <;> exact ⟨_, rfl, by decide +kernel⟩
  walk_at "ss"
  refine rs_forT ?_
  refine re_tup ?_
  walk_at "ss"
  refine rl_lenL (.d _) ?_
  rw [List.length_map]
  walk_at "ss"
  refine rl_lenL (.d _) ?_
  rw [List.length_map]
  walk_at "ss"
  refine r1_int (g := fun i => -i) ?_
  walk_at "ss"
  refine r2_intC (C := CPow) (g := fun i j => i ^ j.toNat) (by unfold CPow; decide) ?_
  walk_at "ss"
  refine ⟨[.int 0, .int 1, .int ((ss.length : Int) - 1), .int (ss.length : Nat), .int (-1), .none, .int (10 ^ 20)], rfl, by simp, ?_⟩
  refine ⟨_, fun k e1 c6 => (∃ y1 y7 y8 y9 y10 y11 y12 y13 y15 y16, e1 = [.s ns, y1, .d (stsD ss), .d (.int sp), .d (.int m), .d (.int t), .d (intsL ws), y7, y8, y9, y10, y11, y12, y13, .d (.str tx), y15, y16]), rfl, ⟨_, _, _, _, _, _, _, _, _, _, rfl⟩, ?_, ?_⟩
  rotate_left
  · rintro e1 c6 ⟨y1, y7, y8, y9, y10, y11, y12, y13, y15, y16, rfl⟩
    exact ⟨_, _, _, _, _, _, _, _, _, _, _, rfl⟩
  rintro k d e1 c6 hd ⟨y1, y7, y8, y9, y10, y11, y12, y13, y15, y16, rfl⟩
  have hni : isNI d := by
    have := List.mem_of_getElem? hd
    simp only [List.mem_cons, List.not_mem_nil, or_false] at this
    rcases this with rfl | rfl | rfl | rfl | rfl | rfl | rfl <;> trivial
  walk_at "ss"
  intro z hz
  refine ⟨rfl, z, _, _, rfl, cu_same .., rfl, ?_⟩
  rw [cu_cu]
  have kz := cu_same (c := c6) (a := z) (x := .ins a.Bars (fBars (.str tx) d))
  generalize cu c6 z (.ins a.Bars (fBars (.str tx) d)) = c7 at *
  walk_at "ss"
  refine ⟨rfl, tx, d, .d (stsD ss), ss, sp, m, t, rfl, htx, hni, .d _, st, by omega, ?_⟩
  walk_at "ss"
  refine ⟨_, _, rfl, ?_⟩
  walk_at "dd"
  refine ⟨_, _, _, _, rfl, kz, T_Bars.cl, T_Bars.n_text, fBars_t .., ?_⟩
  walk_at "dd"
  refine ⟨_, _, _, _, rfl, kz, T_Bars.cl, T_Bars.n_station, fBars_s .., ?_⟩
  walk_at "dd"
  refine r2_ne (.d _) (.d _) (pair_shaped htx hni) (pair_shaped htx hni) ?_
  rw [SeqAt.eqv_refl _ (SeqAt.canLay_of_shaped (pair_shaped htx hni))]
  walk_at "ss"
  refine re_o2 (re_meth ?_)
  walk_at "ss"
  refine ⟨z, _, rfl, kz, rfl, ?_⟩
  walk_at "ss"
  refine ⟨rfl, z, tx, d, .d (stsD ss), ss, sp, m, t, rfl, kz, htx, hni, .d _, st, by omega, ?_⟩
  walk_at "ss"
  refine ⟨rfl, _, _, rfl, ?_⟩
  rw [decide_eq_true rfl]
  walk_at "ss"
  exact ⟨_, _, _, _, _, _, _, _, _, _, rfl⟩
end Rp
namespace Rp
theorem all_mk {l : PySem.W.OpenLaw} {w : World} {K : PySem.W.Frag} {h : Heap} {mg : Str → Option Value} {fa : Addr} (X : K.In h) (G : h.Ns mainGlobals mg) (hfa : mg "law" = some (.ref fa))
    {c_Keeps : Addr}
    {c_Bars : Addr}
    {c_BadStations : Addr}
    {c_BadSpace : Addr}
    {c_BadCabins : Addr}
    {c_BadTicks : Addr}
    {f_is_whole : Addr} {od_is_whole an_is_whole : Option Addr} {sl_is_whole : Array (Option Value)} {oc_is_whole kV_is_whole dc_is_whole pm_is_whole cd_is_whole ct_is_whole : Value}
    {f_within : Addr} {od_within an_within : Option Addr} {sl_within : Array (Option Value)} {oc_within kV_within dc_within pm_within cd_within ct_within : Value}
    {f_is_station : Addr} {od_is_station an_is_station : Option Addr} {sl_is_station : Array (Option Value)} {oc_is_station kV_is_station dc_is_station pm_is_station cd_is_station ct_is_station : Value}
    {f_check_stations : Addr} {od_check_stations an_check_stations : Option Addr} {sl_check_stations : Array (Option Value)} {oc_check_stations kV_check_stations dc_check_stations pm_check_stations cd_check_stations ct_check_stations : Value}
    {f_check_space : Addr} {od_check_space an_check_space : Option Addr} {sl_check_space : Array (Option Value)} {oc_check_space kV_check_space dc_check_space pm_check_space cd_check_space ct_check_space : Value}
    {f_bars_of : Addr} {od_bars_of an_bars_of : Option Addr} {sl_bars_of : Array (Option Value)} {oc_bars_of kV_bars_of dc_bars_of pm_bars_of cd_bars_of ct_bars_of : Value}
    {f_Keeps_init : Addr} {od_Keeps_init an_Keeps_init : Option Addr} {sl_Keeps_init : Array (Option Value)} {oc_Keeps_init kV_Keeps_init dc_Keeps_init pm_Keeps_init cd_Keeps_init ct_Keeps_init : Value}
    {f_Bars_init : Addr} {od_Bars_init an_Bars_init : Option Addr} {sl_Bars_init : Array (Option Value)} {oc_Bars_init kV_Bars_init dc_Bars_init pm_Bars_init cd_Bars_init ct_Bars_init : Value}
    {f_planned : Addr} {od_planned an_planned : Option Addr} {sl_planned : Array (Option Value)} {oc_planned kV_planned dc_planned pm_planned cd_planned ct_planned : Value}
    {f_Keeps_shows : Addr} {od_Keeps_shows an_Keeps_shows : Option Addr} {sl_Keeps_shows : Array (Option Value)} {oc_Keeps_shows kV_Keeps_shows dc_Keeps_shows pm_Keeps_shows cd_Keeps_shows ct_Keeps_shows : Value}
    {f_Bars_shows : Addr} {od_Bars_shows an_Bars_shows : Option Addr} {sl_Bars_shows : Array (Option Value)} {oc_Bars_shows kV_Bars_shows dc_Bars_shows pm_Bars_shows cd_Bars_shows ct_Bars_shows : Value}
    {f_law_outright : Addr} {od_law_outright an_law_outright : Option Addr} {sl_law_outright : Array (Option Value)} {oc_law_outright kV_law_outright dc_law_outright pm_law_outright cd_law_outright ct_law_outright : Value}
    {f_law_cell_at : Addr} {od_law_cell_at an_law_cell_at : Option Addr} {sl_law_cell_at : Array (Option Value)} {oc_law_cell_at kV_law_cell_at dc_law_cell_at pm_law_cell_at cd_law_cell_at ct_law_cell_at : Value}
    {f_law_draw : Addr} {od_law_draw an_law_draw : Option Addr} {sl_law_draw : Array (Option Value)} {oc_law_draw kV_law_draw dc_law_draw pm_law_draw cd_law_draw ct_law_draw : Value}
    {f_law_number : Addr} {od_law_number an_law_number : Option Addr} {sl_law_number : Array (Option Value)} {oc_law_number kV_law_number dc_law_number pm_law_number cd_law_number ct_law_number : Value}
    {f_law_plan : Addr} {od_law_plan an_law_plan : Option Addr} {sl_law_plan : Array (Option Value)} {oc_law_plan kV_law_plan dc_law_plan pm_law_plan cd_law_plan ct_law_plan : Value}
    {f_law_waits : Addr} {od_law_waits an_law_waits : Option Addr} {sl_law_waits : Array (Option Value)} {oc_law_waits kV_law_waits dc_law_waits pm_law_waits cd_law_waits ct_law_waits : Value}
    {f_law_is_keeps : Addr} {od_law_is_keeps an_law_is_keeps : Option Addr} {sl_law_is_keeps : Array (Option Value)} {oc_law_is_keeps kV_law_is_keeps dc_law_is_keeps pm_law_is_keeps cd_law_is_keeps ct_law_is_keeps : Value}
    {f_law_says : Addr} {od_law_says an_law_says : Option Addr} {sl_law_says : Array (Option Value)} {oc_law_says kV_law_says dc_law_says pm_law_says cd_law_says ct_law_says : Value}
    {f_law_is_bars : Addr} {od_law_is_bars an_law_is_bars : Option Addr} {sl_law_is_bars : Array (Option Value)} {oc_law_is_bars kV_law_is_bars dc_law_is_bars pm_law_is_bars cd_law_is_bars ct_law_is_bars : Value}
    {f_law : Addr} {od_law an_law : Option Addr} {sl_law : Array (Option Value)} {oc_law kV_law dc_law pm_law cd_law ct_law : Value}
    (aC_Keeps : PySem.W.nsIn K mainGlobals "Keeps" = some (some (.ref c_Keeps)))
    (pg_Keeps : PySem.W.plainGet K c_Keeps Str.empty = true)
    (hd_Keeps : PySem.W.hasDictIn K c_Keeps = true)
    (po_Keeps : PySem.W.plainOver K c_Keeps = true)
    (sa_Keeps : PySem.W.findIn K (.ref c_Keeps) "__setattr__" = some (some (.builtin "object.__setattr__")))
    (mk_Keeps : PySem.W.makesIn K c_Keeps = true)
    (kc_Keeps : PySem.W.keepIn K (.ref c_Keeps) = true)
    (ha_Keeps : PySem.W.findIn K (.ref c_Keeps) "__class__" = some (some (.builtin "object.__class__")))
    (hm_Keeps : PySem.W.mroIn K c_Keeps (.type "object") = some true)
    (n_Keeps_waits : PySem.W.findIn K (.ref c_Keeps) "waits" = some none)
    (aC_Bars : PySem.W.nsIn K mainGlobals "Bars" = some (some (.ref c_Bars)))
    (pg_Bars : PySem.W.plainGet K c_Bars Str.empty = true)
    (hd_Bars : PySem.W.hasDictIn K c_Bars = true)
    (po_Bars : PySem.W.plainOver K c_Bars = true)
    (sa_Bars : PySem.W.findIn K (.ref c_Bars) "__setattr__" = some (some (.builtin "object.__setattr__")))
    (mk_Bars : PySem.W.makesIn K c_Bars = true)
    (kc_Bars : PySem.W.keepIn K (.ref c_Bars) = true)
    (ha_Bars : PySem.W.findIn K (.ref c_Bars) "__class__" = some (some (.builtin "object.__class__")))
    (hm_Bars : PySem.W.mroIn K c_Bars (.type "object") = some true)
    (n_Bars_text : PySem.W.findIn K (.ref c_Bars) "text" = some none)
    (n_Bars_station : PySem.W.findIn K (.ref c_Bars) "station" = some none)
    (hn : PySem.W.specialIn K (.builtin "object.__class__") "__get__" = some (some (.builtin "getset_descriptor.__get__")))
    (htk : PySem.W.takesIn K (.builtin "object.__class__") = some true)
    (eg_BadStations : PySem.W.nsIn K mainGlobals "BadStations" = some (some (.ref c_BadStations)))
    (ex_BadStations : PySem.W.excIn K c_BadStations [.type "ValueError", .type "Exception", .type "BaseException", .type "object"] "ValueError.__new__" = true)
    (ek_BadStations : PySem.W.keepIn K (.ref c_BadStations) = true)
    (eb_BadStations : PySem.W.subIn K (.ref c_BadStations) (.type "BaseException") = some true)
    (et_BadStations : PySem.W.typeIn K (.ref c_BadStations) = some (.type "type"))
    (eg_BadSpace : PySem.W.nsIn K mainGlobals "BadSpace" = some (some (.ref c_BadSpace)))
    (ex_BadSpace : PySem.W.excIn K c_BadSpace [.type "ValueError", .type "Exception", .type "BaseException", .type "object"] "ValueError.__new__" = true)
    (ek_BadSpace : PySem.W.keepIn K (.ref c_BadSpace) = true)
    (eb_BadSpace : PySem.W.subIn K (.ref c_BadSpace) (.type "BaseException") = some true)
    (et_BadSpace : PySem.W.typeIn K (.ref c_BadSpace) = some (.type "type"))
    (eg_BadCabins : PySem.W.nsIn K mainGlobals "BadCabins" = some (some (.ref c_BadCabins)))
    (ex_BadCabins : PySem.W.excIn K c_BadCabins [.type "ValueError", .type "Exception", .type "BaseException", .type "object"] "ValueError.__new__" = true)
    (ek_BadCabins : PySem.W.keepIn K (.ref c_BadCabins) = true)
    (eb_BadCabins : PySem.W.subIn K (.ref c_BadCabins) (.type "BaseException") = some true)
    (et_BadCabins : PySem.W.typeIn K (.ref c_BadCabins) = some (.type "type"))
    (eg_BadTicks : PySem.W.nsIn K mainGlobals "BadTicks" = some (some (.ref c_BadTicks)))
    (ex_BadTicks : PySem.W.excIn K c_BadTicks [.type "ValueError", .type "Exception", .type "BaseException", .type "object"] "ValueError.__new__" = true)
    (ek_BadTicks : PySem.W.keepIn K (.ref c_BadTicks) = true)
    (eb_BadTicks : PySem.W.subIn K (.ref c_BadTicks) (.type "BaseException") = some true)
    (et_BadTicks : PySem.W.typeIn K (.ref c_BadTicks) = some (.type "type"))
    (a_is_whole : PySem.W.nsIn K mainGlobals "is_whole" = some (some (.ref f_is_whole)))
    (l_is_whole : K.lookup f_is_whole = some ⟨oc_is_whole, od_is_whole, .func (PySem.W.fnOf "is_whole" "is_whole" (defArgs s_is_whole) (defBody s_is_whole) (defScope s_is_whole) .none kV_is_whole dc_is_whole pm_is_whole an_is_whole cd_is_whole ct_is_whole), sl_is_whole⟩)
    (c_is_whole : PySem.W.codeIn K cd_is_whole "is_whole" = true)
    (k_is_whole : PySem.W.keepIn K (.ref f_is_whole) = true)
    (a_within : PySem.W.nsIn K mainGlobals "within" = some (some (.ref f_within)))
    (l_within : K.lookup f_within = some ⟨oc_within, od_within, .func (PySem.W.fnOf "within" "within" (defArgs s_within) (defBody s_within) (defScope s_within) .none kV_within dc_within pm_within an_within cd_within ct_within), sl_within⟩)
    (c_within : PySem.W.codeIn K cd_within "within" = true)
    (k_within : PySem.W.keepIn K (.ref f_within) = true)
    (a_is_station : PySem.W.nsIn K mainGlobals "is_station" = some (some (.ref f_is_station)))
    (l_is_station : K.lookup f_is_station = some ⟨oc_is_station, od_is_station, .func (PySem.W.fnOf "is_station" "is_station" (defArgs s_is_station) (defBody s_is_station) (defScope s_is_station) .none kV_is_station dc_is_station pm_is_station an_is_station cd_is_station ct_is_station), sl_is_station⟩)
    (c_is_station : PySem.W.codeIn K cd_is_station "is_station" = true)
    (k_is_station : PySem.W.keepIn K (.ref f_is_station) = true)
    (a_check_stations : PySem.W.nsIn K mainGlobals "check_stations" = some (some (.ref f_check_stations)))
    (l_check_stations : K.lookup f_check_stations = some ⟨oc_check_stations, od_check_stations, .func (PySem.W.fnOf "check_stations" "check_stations" (defArgs s_check_stations) (defBody s_check_stations) (defScope s_check_stations) .none kV_check_stations dc_check_stations pm_check_stations an_check_stations cd_check_stations ct_check_stations), sl_check_stations⟩)
    (c_check_stations : PySem.W.codeIn K cd_check_stations "check_stations" = true)
    (k_check_stations : PySem.W.keepIn K (.ref f_check_stations) = true)
    (a_check_space : PySem.W.nsIn K mainGlobals "check_space" = some (some (.ref f_check_space)))
    (l_check_space : K.lookup f_check_space = some ⟨oc_check_space, od_check_space, .func (PySem.W.fnOf "check_space" "check_space" (defArgs s_check_space) (defBody s_check_space) (defScope s_check_space) .none kV_check_space dc_check_space pm_check_space an_check_space cd_check_space ct_check_space), sl_check_space⟩)
    (c_check_space : PySem.W.codeIn K cd_check_space "check_space" = true)
    (k_check_space : PySem.W.keepIn K (.ref f_check_space) = true)
    (a_bars_of : PySem.W.nsIn K mainGlobals "bars_of" = some (some (.ref f_bars_of)))
    (l_bars_of : K.lookup f_bars_of = some ⟨oc_bars_of, od_bars_of, .func (PySem.W.fnOf "bars_of" "bars_of" (defArgs s_bars_of) (defBody s_bars_of) (defScope s_bars_of) .none kV_bars_of dc_bars_of pm_bars_of an_bars_of cd_bars_of ct_bars_of), sl_bars_of⟩)
    (c_bars_of : PySem.W.codeIn K cd_bars_of "bars_of" = true)
    (k_bars_of : PySem.W.keepIn K (.ref f_bars_of) = true)
    (a_Keeps_init : PySem.W.findIn K (.ref c_Keeps) "__init__" = some (some (.ref f_Keeps_init)))
    (i_Keeps_init : PySem.W.isFn K (.ref f_Keeps_init) = true)
    (l_Keeps_init : K.lookup f_Keeps_init = some ⟨oc_Keeps_init, od_Keeps_init, .func (PySem.W.fnOf "__init__" "Keeps.__init__" (defArgs s_Keeps_init) (defBody s_Keeps_init) (defScope s_Keeps_init) .none kV_Keeps_init dc_Keeps_init pm_Keeps_init an_Keeps_init cd_Keeps_init ct_Keeps_init), sl_Keeps_init⟩)
    (c_Keeps_init : PySem.W.codeIn K cd_Keeps_init "Keeps.__init__" = true)
    (k_Keeps_init : PySem.W.keepIn K (.ref f_Keeps_init) = true)
    (a_Bars_init : PySem.W.findIn K (.ref c_Bars) "__init__" = some (some (.ref f_Bars_init)))
    (i_Bars_init : PySem.W.isFn K (.ref f_Bars_init) = true)
    (l_Bars_init : K.lookup f_Bars_init = some ⟨oc_Bars_init, od_Bars_init, .func (PySem.W.fnOf "__init__" "Bars.__init__" (defArgs s_Bars_init) (defBody s_Bars_init) (defScope s_Bars_init) .none kV_Bars_init dc_Bars_init pm_Bars_init an_Bars_init cd_Bars_init ct_Bars_init), sl_Bars_init⟩)
    (c_Bars_init : PySem.W.codeIn K cd_Bars_init "Bars.__init__" = true)
    (k_Bars_init : PySem.W.keepIn K (.ref f_Bars_init) = true)
    (a_planned : PySem.W.nsIn K mainGlobals "planned" = some (some (.ref f_planned)))
    (l_planned : K.lookup f_planned = some ⟨oc_planned, od_planned, .func (PySem.W.fnOf "planned" "planned" (defArgs s_planned) (defBody s_planned) (defScope s_planned) .none kV_planned dc_planned pm_planned an_planned cd_planned ct_planned), sl_planned⟩)
    (c_planned : PySem.W.codeIn K cd_planned "planned" = true)
    (k_planned : PySem.W.keepIn K (.ref f_planned) = true)
    (a_Keeps_shows : PySem.W.findIn K (.ref c_Keeps) "shows" = some (some (.ref f_Keeps_shows)))
    (i_Keeps_shows : PySem.W.isFn K (.ref f_Keeps_shows) = true)
    (l_Keeps_shows : K.lookup f_Keeps_shows = some ⟨oc_Keeps_shows, od_Keeps_shows, .func (PySem.W.fnOf "shows" "Keeps.shows" (defArgs s_Keeps_shows) (defBody s_Keeps_shows) (defScope s_Keeps_shows) .none kV_Keeps_shows dc_Keeps_shows pm_Keeps_shows an_Keeps_shows cd_Keeps_shows ct_Keeps_shows), sl_Keeps_shows⟩)
    (c_Keeps_shows : PySem.W.codeIn K cd_Keeps_shows "Keeps.shows" = true)
    (k_Keeps_shows : PySem.W.keepIn K (.ref f_Keeps_shows) = true)
    (a_Bars_shows : PySem.W.findIn K (.ref c_Bars) "shows" = some (some (.ref f_Bars_shows)))
    (i_Bars_shows : PySem.W.isFn K (.ref f_Bars_shows) = true)
    (l_Bars_shows : K.lookup f_Bars_shows = some ⟨oc_Bars_shows, od_Bars_shows, .func (PySem.W.fnOf "shows" "Bars.shows" (defArgs s_Bars_shows) (defBody s_Bars_shows) (defScope s_Bars_shows) .none kV_Bars_shows dc_Bars_shows pm_Bars_shows an_Bars_shows cd_Bars_shows ct_Bars_shows), sl_Bars_shows⟩)
    (c_Bars_shows : PySem.W.codeIn K cd_Bars_shows "Bars.shows" = true)
    (k_Bars_shows : PySem.W.keepIn K (.ref f_Bars_shows) = true)
    (a_law_outright : PySem.W.nsIn K mainGlobals "_law_outright" = some (some (.ref f_law_outright)))
    (l_law_outright : K.lookup f_law_outright = some ⟨oc_law_outright, od_law_outright, .func (PySem.W.fnOf "_law_outright" "_law_outright" (defArgs s_law_outright) (defBody s_law_outright) (defScope s_law_outright) .none kV_law_outright dc_law_outright pm_law_outright an_law_outright cd_law_outright ct_law_outright), sl_law_outright⟩)
    (c_law_outright : PySem.W.codeIn K cd_law_outright "_law_outright" = true)
    (k_law_outright : PySem.W.keepIn K (.ref f_law_outright) = true)
    (a_law_cell_at : PySem.W.nsIn K mainGlobals "_law_cell_at" = some (some (.ref f_law_cell_at)))
    (l_law_cell_at : K.lookup f_law_cell_at = some ⟨oc_law_cell_at, od_law_cell_at, .func (PySem.W.fnOf "_law_cell_at" "_law_cell_at" (defArgs s_law_cell_at) (defBody s_law_cell_at) (defScope s_law_cell_at) .none kV_law_cell_at dc_law_cell_at pm_law_cell_at an_law_cell_at cd_law_cell_at ct_law_cell_at), sl_law_cell_at⟩)
    (c_law_cell_at : PySem.W.codeIn K cd_law_cell_at "_law_cell_at" = true)
    (k_law_cell_at : PySem.W.keepIn K (.ref f_law_cell_at) = true)
    (a_law_draw : PySem.W.nsIn K mainGlobals "_law_draw" = some (some (.ref f_law_draw)))
    (l_law_draw : K.lookup f_law_draw = some ⟨oc_law_draw, od_law_draw, .func (PySem.W.fnOf "_law_draw" "_law_draw" (defArgs s_law_draw) (defBody s_law_draw) (defScope s_law_draw) .none kV_law_draw dc_law_draw pm_law_draw an_law_draw cd_law_draw ct_law_draw), sl_law_draw⟩)
    (c_law_draw : PySem.W.codeIn K cd_law_draw "_law_draw" = true)
    (k_law_draw : PySem.W.keepIn K (.ref f_law_draw) = true)
    (a_law_number : PySem.W.nsIn K mainGlobals "_law_number" = some (some (.ref f_law_number)))
    (l_law_number : K.lookup f_law_number = some ⟨oc_law_number, od_law_number, .func (PySem.W.fnOf "_law_number" "_law_number" (defArgs s_law_number) (defBody s_law_number) (defScope s_law_number) .none kV_law_number dc_law_number pm_law_number an_law_number cd_law_number ct_law_number), sl_law_number⟩)
    (c_law_number : PySem.W.codeIn K cd_law_number "_law_number" = true)
    (k_law_number : PySem.W.keepIn K (.ref f_law_number) = true)
    (a_law_plan : PySem.W.nsIn K mainGlobals "_law_plan" = some (some (.ref f_law_plan)))
    (l_law_plan : K.lookup f_law_plan = some ⟨oc_law_plan, od_law_plan, .func (PySem.W.fnOf "_law_plan" "_law_plan" (defArgs s_law_plan) (defBody s_law_plan) (defScope s_law_plan) .none kV_law_plan dc_law_plan pm_law_plan an_law_plan cd_law_plan ct_law_plan), sl_law_plan⟩)
    (c_law_plan : PySem.W.codeIn K cd_law_plan "_law_plan" = true)
    (k_law_plan : PySem.W.keepIn K (.ref f_law_plan) = true)
    (a_law_waits : PySem.W.nsIn K mainGlobals "_law_waits" = some (some (.ref f_law_waits)))
    (l_law_waits : K.lookup f_law_waits = some ⟨oc_law_waits, od_law_waits, .func (PySem.W.fnOf "_law_waits" "_law_waits" (defArgs s_law_waits) (defBody s_law_waits) (defScope s_law_waits) .none kV_law_waits dc_law_waits pm_law_waits an_law_waits cd_law_waits ct_law_waits), sl_law_waits⟩)
    (c_law_waits : PySem.W.codeIn K cd_law_waits "_law_waits" = true)
    (k_law_waits : PySem.W.keepIn K (.ref f_law_waits) = true)
    (a_law_is_keeps : PySem.W.nsIn K mainGlobals "_law_is_keeps" = some (some (.ref f_law_is_keeps)))
    (l_law_is_keeps : K.lookup f_law_is_keeps = some ⟨oc_law_is_keeps, od_law_is_keeps, .func (PySem.W.fnOf "_law_is_keeps" "_law_is_keeps" (defArgs s_law_is_keeps) (defBody s_law_is_keeps) (defScope s_law_is_keeps) .none kV_law_is_keeps dc_law_is_keeps pm_law_is_keeps an_law_is_keeps cd_law_is_keeps ct_law_is_keeps), sl_law_is_keeps⟩)
    (c_law_is_keeps : PySem.W.codeIn K cd_law_is_keeps "_law_is_keeps" = true)
    (k_law_is_keeps : PySem.W.keepIn K (.ref f_law_is_keeps) = true)
    (a_law_says : PySem.W.nsIn K mainGlobals "_law_says" = some (some (.ref f_law_says)))
    (l_law_says : K.lookup f_law_says = some ⟨oc_law_says, od_law_says, .func (PySem.W.fnOf "_law_says" "_law_says" (defArgs s_law_says) (defBody s_law_says) (defScope s_law_says) .none kV_law_says dc_law_says pm_law_says an_law_says cd_law_says ct_law_says), sl_law_says⟩)
    (c_law_says : PySem.W.codeIn K cd_law_says "_law_says" = true)
    (k_law_says : PySem.W.keepIn K (.ref f_law_says) = true)
    (a_law_is_bars : PySem.W.nsIn K mainGlobals "_law_is_bars" = some (some (.ref f_law_is_bars)))
    (l_law_is_bars : K.lookup f_law_is_bars = some ⟨oc_law_is_bars, od_law_is_bars, .func (PySem.W.fnOf "_law_is_bars" "_law_is_bars" (defArgs s_law_is_bars) (defBody s_law_is_bars) (defScope s_law_is_bars) .none kV_law_is_bars dc_law_is_bars pm_law_is_bars an_law_is_bars cd_law_is_bars ct_law_is_bars), sl_law_is_bars⟩)
    (c_law_is_bars : PySem.W.codeIn K cd_law_is_bars "_law_is_bars" = true)
    (k_law_is_bars : PySem.W.keepIn K (.ref f_law_is_bars) = true)
    (a_law : PySem.W.nsIn K mainGlobals "law" = some (some (.ref f_law)))
    (l_law : K.lookup f_law = some ⟨oc_law, od_law, .func (PySem.W.fnOf "law" "law" (defArgs s_law) (defBody s_law) (defScope s_law) .none kV_law dc_law pm_law an_law cd_law ct_law), sl_law⟩)
    (c_law : PySem.W.codeIn K cd_law "law" = true)
    (k_law : PySem.W.keepIn K (.ref f_law) = true)
    (z_len : PySem.W.nsIn K mainGlobals "len" = some none)
    (z_int : PySem.W.nsIn K mainGlobals "int" = some none)
    (z_bool : PySem.W.nsIn K mainGlobals "bool" = some none)
    (z_str : PySem.W.nsIn K mainGlobals "str" = some none)
    (z_list : PySem.W.nsIn K mainGlobals "list" = some none)
    (z_tuple : PySem.W.nsIn K mainGlobals "tuple" = some none)
    (z_isinstance : PySem.W.nsIn K mainGlobals "isinstance" = some none)
    (z_sum : PySem.W.nsIn K mainGlobals "sum" = some none)
    (z_all : PySem.W.nsIn K mainGlobals "all" = some none)
    (z_any : PySem.W.nsIn K mainGlobals "any" = some none)
    (z_min : PySem.W.nsIn K mainGlobals "min" = some none)
    (z_max : PySem.W.nsIn K mainGlobals "max" = some none)
    (z_abs : PySem.W.nsIn K mainGlobals "abs" = some none)
    (z_range : PySem.W.nsIn K mainGlobals "range" = some none)
    (z_enumerate : PySem.W.nsIn K mainGlobals "enumerate" = some none)
    (z_zip : PySem.W.nsIn K mainGlobals "zip" = some none)
    : ∃ fd : FuncData, (∀ (s : Shared) (v : Value), BindsTo s fd ⟨[v], []⟩ [("_law_script", v)]) ∧ ∀ base : Heap, K.In base → base.Ns mainGlobals mg → FnG l.prog w K mg base 7 fa fd ["_law_script"] (spOf K 1 spLaw) := by
  have e := hfa.symm.trans (PySem.W.mg_of X G a_law)
  cases e
  let a : Ad := ⟨(0 : Nat), c_Keeps, c_Bars, (0 : Nat), (0 : Nat), (0 : Nat), (0 : Nat), (0 : Nat), c_BadStations, c_BadSpace, c_BadCabins, c_BadTicks, (0 : Nat), (0 : Nat), (0 : Nat), (0 : Nat)⟩
  have B : Bltn mg := ⟨PySem.W.mg_none_of X G z_len, PySem.W.mg_none_of X G z_int, PySem.W.mg_none_of X G z_bool, PySem.W.mg_none_of X G z_str, PySem.W.mg_none_of X G z_list, PySem.W.mg_none_of X G z_tuple, PySem.W.mg_none_of X G z_isinstance, PySem.W.mg_none_of X G z_sum, PySem.W.mg_none_of X G z_all, PySem.W.mg_none_of X G z_any, PySem.W.mg_none_of X G z_min, PySem.W.mg_none_of X G z_max, PySem.W.mg_none_of X G z_abs, PySem.W.mg_none_of X G z_range, PySem.W.mg_none_of X G z_enumerate, PySem.W.mg_none_of X G z_zip⟩
  have T_Keeps : Cl_Keeps K mg a.Keeps := ⟨⟨pg_Keeps, hd_Keeps, po_Keeps, sa_Keeps⟩, PySem.W.mg_of X G aC_Keeps, n_Keeps_waits, ha_Keeps, hn, htk, hm_Keeps⟩
  have T_Bars : Cl_Bars K mg a.Bars := ⟨⟨pg_Bars, hd_Bars, po_Bars, sa_Bars⟩, PySem.W.mg_of X G aC_Bars, n_Bars_text, n_Bars_station, ha_Bars, hn, htk, hm_Bars⟩
  have R_BadStations : ErrF K mg "BadStations" a.BadStations := ⟨PySem.W.mg_of X G eg_BadStations, ex_BadStations, ek_BadStations, eb_BadStations, et_BadStations⟩
  have R_BadSpace : ErrF K mg "BadSpace" a.BadSpace := ⟨PySem.W.mg_of X G eg_BadSpace, ex_BadSpace, ek_BadSpace, eb_BadSpace, et_BadSpace⟩
  have R_BadCabins : ErrF K mg "BadCabins" a.BadCabins := ⟨PySem.W.mg_of X G eg_BadCabins, ex_BadCabins, ek_BadCabins, eb_BadCabins, et_BadCabins⟩
  have R_BadTicks : ErrF K mg "BadTicks" a.BadTicks := ⟨PySem.W.mg_of X G eg_BadTicks, ex_BadTicks, ek_BadTicks, eb_BadTicks, et_BadTicks⟩
  have F_is_whole := fun_mk (st := s_is_whole) l_is_whole c_is_whole k_is_whole
  have b_is_whole := F_is_whole.binds (ps := ["thing"]) fun _ _ _ _ _ _ us hl => match us, hl with | [_], _ => rfl
  have F_within := fun_mk (st := s_within) l_within c_within k_within
  have b_within := F_within.binds (ps := ["thing", "low", "high"]) fun _ _ _ _ _ _ us hl => match us, hl with | [_, _, _], _ => rfl
  have F_is_station := fun_mk (st := s_is_station) l_is_station c_is_station k_is_station
  have b_is_station := F_is_station.binds (ps := ["thing"]) fun _ _ _ _ _ _ us hl => match us, hl with | [_], _ => rfl
  have F_check_stations := fun_mk (st := s_check_stations) l_check_stations c_check_stations k_check_stations
  have b_check_stations := F_check_stations.binds (ps := ["stations"]) fun _ _ _ _ _ _ us hl => match us, hl with | [_], _ => rfl
  have F_check_space := fun_mk (st := s_check_space) l_check_space c_check_space k_check_space
  have b_check_space := F_check_space.binds (ps := ["space"]) fun _ _ _ _ _ _ us hl => match us, hl with | [_], _ => rfl
  have F_bars_of := fun_mk (st := s_bars_of) l_bars_of c_bars_of k_bars_of
  have b_bars_of := F_bars_of.binds (ps := ["stations", "space", "many", "ticks"]) fun _ _ _ _ _ _ us hl => match us, hl with | [_, _, _, _], _ => rfl
  have F_Keeps_init := fun_mk (st := s_Keeps_init) l_Keeps_init c_Keeps_init k_Keeps_init
  have b_Keeps_init := F_Keeps_init.binds (ps := ["self", "waits"]) fun _ _ _ _ _ _ us hl => match us, hl with | [_, _], _ => rfl
  have F_Bars_init := fun_mk (st := s_Bars_init) l_Bars_init c_Bars_init k_Bars_init
  have b_Bars_init := F_Bars_init.binds (ps := ["self", "text", "station"]) fun _ _ _ _ _ _ us hl => match us, hl with | [_, _, _], _ => rfl
  have F_planned := fun_mk (st := s_planned) l_planned c_planned k_planned
  have b_planned := F_planned.binds (ps := ["stations", "space", "many", "ticks"]) fun _ _ _ _ _ _ us hl => match us, hl with | [_, _, _, _], _ => rfl
  have F_Keeps_shows := fun_mk (st := s_Keeps_shows) l_Keeps_shows c_Keeps_shows k_Keeps_shows
  have b_Keeps_shows := F_Keeps_shows.binds (ps := ["self", "stations", "space", "many", "ticks"]) fun _ _ _ _ _ _ us hl => match us, hl with | [_, _, _, _, _], _ => rfl
  have F_Bars_shows := fun_mk (st := s_Bars_shows) l_Bars_shows c_Bars_shows k_Bars_shows
  have b_Bars_shows := F_Bars_shows.binds (ps := ["self", "stations", "space", "many", "ticks"]) fun _ _ _ _ _ _ us hl => match us, hl with | [_, _, _, _, _], _ => rfl
  have F_law_outright := fun_mk (st := s_law_outright) l_law_outright c_law_outright k_law_outright
  have b_law_outright := F_law_outright.binds (ps := []) fun _ _ _ _ _ _ us hl => match us, hl with | [], _ => rfl
  have F_law_cell_at := fun_mk (st := s_law_cell_at) l_law_cell_at c_law_cell_at k_law_cell_at
  have b_law_cell_at := F_law_cell_at.binds (ps := ["_law_script", "_law_k"]) fun _ _ _ _ _ _ us hl => match us, hl with | [_, _], _ => rfl
  have F_law_draw := fun_mk (st := s_law_draw) l_law_draw c_law_draw k_law_draw
  have b_law_draw := F_law_draw.binds (ps := ["_law_cell", "_law_k", "_law_most"]) fun _ _ _ _ _ _ us hl => match us, hl with | [_, _, _], _ => rfl
  have F_law_number := fun_mk (st := s_law_number) l_law_number c_law_number k_law_number
  have b_law_number := F_law_number.binds (ps := ["_law_cell", "_law_k", "_law_limit"]) fun _ _ _ _ _ _ us hl => match us, hl with | [_, _, _], _ => rfl
  have F_law_plan := fun_mk (st := s_law_plan) l_law_plan c_law_plan k_law_plan
  have b_law_plan := F_law_plan.binds (ps := ["_law_script", "_law_by"]) fun _ _ _ _ _ _ us hl => match us, hl with | [_, _], _ => rfl
  have F_law_waits := fun_mk (st := s_law_waits) l_law_waits c_law_waits k_law_waits
  have b_law_waits := F_law_waits.binds (ps := ["_law_stations", "_law_many", "_law_ticks"]) fun _ _ _ _ _ _ us hl => match us, hl with | [_, _, _], _ => rfl
  have F_law_is_keeps := fun_mk (st := s_law_is_keeps) l_law_is_keeps c_law_is_keeps k_law_is_keeps
  have b_law_is_keeps := F_law_is_keeps.binds (ps := ["_law_stations", "_law_space", "_law_many", "_law_ticks", "_law_waits_here"]) fun _ _ _ _ _ _ us hl => match us, hl with | [_, _, _, _, _], _ => rfl
  have F_law_says := fun_mk (st := s_law_says) l_law_says c_law_says k_law_says
  have b_law_says := F_law_says.binds (ps := ["_law_said", "_law_due"]) fun _ _ _ _ _ _ us hl => match us, hl with | [_, _], _ => rfl
  have F_law_is_bars := fun_mk (st := s_law_is_bars) l_law_is_bars c_law_is_bars k_law_is_bars
  have b_law_is_bars := F_law_is_bars.binds (ps := ["_law_stations", "_law_space", "_law_many", "_law_ticks", "_law_text", "_law_station"]) fun _ _ _ _ _ _ us hl => match us, hl with | [_, _, _, _, _, _], _ => rfl
  have F_law := fun_mk (st := s_law) l_law c_law k_law
  have b_law := F_law.binds (ps := ["_law_script"]) fun _ _ _ _ _ _ us hl => match us, hl with | [_], _ => rfl
  refine ⟨PySem.W.fnOf "law" "law" (defArgs s_law) (defBody s_law) (defScope s_law) .none kV_law dc_law pm_law an_law cd_law ct_law, fun s v => .of_eq rfl, fun base _ _ => ?_⟩
  have D_is_whole : DefG l.prog w K mg base "is_whole" 1 ["thing"] (P_is_whole a) := ⟨f_is_whole, _, (ok_is_whole (P := l.prog) (w := w) (base := base) a B  F_is_whole), PySem.W.mg_of X G a_is_whole, k_is_whole, b_is_whole⟩
  have D_within : DefG l.prog w K mg base "within" 2 ["thing", "low", "high"] (P_within a) := ⟨f_within, _, (ok_within (P := l.prog) (w := w) (base := base) a B D_is_whole F_within), PySem.W.mg_of X G a_within, k_within, b_within⟩
  have D_is_station : DefG l.prog w K mg base "is_station" 3 ["thing"] (P_is_station a) := ⟨f_is_station, _, (ok_is_station (P := l.prog) (w := w) (base := base) a B D_within F_is_station), PySem.W.mg_of X G a_is_station, k_is_station, b_is_station⟩
  have D_check_stations : DefG l.prog w K mg base "check_stations" 4 ["stations"] (P_check_stations a) := ⟨f_check_stations, _, (ok_check_stations (P := l.prog) (w := w) (base := base) a B R_BadStations D_is_station F_check_stations), PySem.W.mg_of X G a_check_stations, k_check_stations, b_check_stations⟩
  have D_check_space : DefG l.prog w K mg base "check_space" 3 ["space"] (P_check_space a) := ⟨f_check_space, _, (ok_check_space (P := l.prog) (w := w) (base := base) a B R_BadSpace D_within F_check_space), PySem.W.mg_of X G a_check_space, k_check_space, b_check_space⟩
  have D_bars_of : DefG l.prog w K mg base "bars_of" 1 ["stations", "space", "many", "ticks"] (P_bars_of a) := ⟨f_bars_of, _, (ok_bars_of (P := l.prog) (w := w) (base := base) a B  F_bars_of), PySem.W.mg_of X G a_bars_of, k_bars_of, b_bars_of⟩
  have D_Keeps : MakeG l.prog w K mg base "Keeps" a.Keeps 1 ["self", "waits"] (P_Keeps_init a) := ⟨f_Keeps_init, _, (ok_Keeps_init (P := l.prog) (w := w) (base := base) a B T_Keeps F_Keeps_init), ⟨mk_Keeps, a_Keeps_init, i_Keeps_init, kc_Keeps⟩, PySem.W.mg_of X G aC_Keeps, b_Keeps_init⟩
  have D_Bars : MakeG l.prog w K mg base "Bars" a.Bars 1 ["self", "text", "station"] (P_Bars_init a) := ⟨f_Bars_init, _, (ok_Bars_init (P := l.prog) (w := w) (base := base) a B T_Bars F_Bars_init), ⟨mk_Bars, a_Bars_init, i_Bars_init, kc_Bars⟩, PySem.W.mg_of X G aC_Bars, b_Bars_init⟩
  have D_planned : DefG l.prog w K mg base "planned" 5 ["stations", "space", "many", "ticks"] (P_planned a) := ⟨f_planned, _, (ok_planned (P := l.prog) (w := w) (base := base) a B R_BadCabins R_BadTicks T_Keeps T_Bars D_check_stations D_check_space D_bars_of D_within D_Keeps D_Bars F_planned), PySem.W.mg_of X G a_planned, k_planned, b_planned⟩
  have M_Keeps_shows : MethG l.prog w K mg base a.Keeps "shows" 1 ["self", "stations", "space", "many", "ticks"] (P_Keeps_shows a) := ⟨f_Keeps_shows, _, (ok_Keeps_shows (P := l.prog) (w := w) (base := base) a B T_Keeps F_Keeps_shows), ⟨a_Keeps_shows, i_Keeps_shows, k_Keeps_shows⟩, b_Keeps_shows⟩
  have M_Bars_shows : MethG l.prog w K mg base a.Bars "shows" 2 ["self", "stations", "space", "many", "ticks"] (P_Bars_shows a) := ⟨f_Bars_shows, _, (ok_Bars_shows (P := l.prog) (w := w) (base := base) a B T_Bars D_bars_of F_Bars_shows), ⟨a_Bars_shows, i_Bars_shows, k_Bars_shows⟩, b_Bars_shows⟩
  have D_law_outright : DefG l.prog w K mg base "_law_outright" 6 [] (P_law_outright a) := ⟨f_law_outright, _, (ok_law_outright (P := l.prog) (w := w) (base := base) a B T_Bars T_Keeps D_planned D_Bars D_Keeps M_Keeps_shows M_Bars_shows F_law_outright), PySem.W.mg_of X G a_law_outright, k_law_outright, b_law_outright⟩
  have D_law_cell_at : DefG l.prog w K mg base "_law_cell_at" 1 ["_law_script", "_law_k"] (P_law_cell_at a) := ⟨f_law_cell_at, _, (ok_law_cell_at (P := l.prog) (w := w) (base := base) a B  F_law_cell_at), PySem.W.mg_of X G a_law_cell_at, k_law_cell_at, b_law_cell_at⟩
  have D_law_draw : DefG l.prog w K mg base "_law_draw" 1 ["_law_cell", "_law_k", "_law_most"] (P_law_draw a) := ⟨f_law_draw, _, (ok_law_draw (P := l.prog) (w := w) (base := base) a B  F_law_draw), PySem.W.mg_of X G a_law_draw, k_law_draw, b_law_draw⟩
  have D_law_number : DefG l.prog w K mg base "_law_number" 2 ["_law_cell", "_law_k", "_law_limit"] (P_law_number a) := ⟨f_law_number, _, (ok_law_number (P := l.prog) (w := w) (base := base) a B D_law_draw F_law_number), PySem.W.mg_of X G a_law_number, k_law_number, b_law_number⟩
  have D_law_plan : DefG l.prog w K mg base "_law_plan" 3 ["_law_script", "_law_by"] (P_law_plan a) := ⟨f_law_plan, _, (ok_law_plan (P := l.prog) (w := w) (base := base) a B D_law_cell_at D_law_number F_law_plan), PySem.W.mg_of X G a_law_plan, k_law_plan, b_law_plan⟩
  have D_law_waits : DefG l.prog w K mg base "_law_waits" 1 ["_law_stations", "_law_many", "_law_ticks"] (P_law_waits a) := ⟨f_law_waits, _, (ok_law_waits (P := l.prog) (w := w) (base := base) a B  F_law_waits), PySem.W.mg_of X G a_law_waits, k_law_waits, b_law_waits⟩
  have D_law_is_keeps : DefG l.prog w K mg base "_law_is_keeps" 1 ["_law_stations", "_law_space", "_law_many", "_law_ticks", "_law_waits_here"] (P_law_is_keeps a) := ⟨f_law_is_keeps, _, (ok_law_is_keeps (P := l.prog) (w := w) (base := base) a B  F_law_is_keeps), PySem.W.mg_of X G a_law_is_keeps, k_law_is_keeps, b_law_is_keeps⟩
  have D_law_says : DefG l.prog w K mg base "_law_says" 1 ["_law_said", "_law_due"] (P_law_says a) := ⟨f_law_says, _, (ok_law_says (P := l.prog) (w := w) (base := base) a B  F_law_says), PySem.W.mg_of X G a_law_says, k_law_says, b_law_says⟩
  have D_law_is_bars : DefG l.prog w K mg base "_law_is_bars" 1 ["_law_stations", "_law_space", "_law_many", "_law_ticks", "_law_text", "_law_station"] (P_law_is_bars a) := ⟨f_law_is_bars, _, (ok_law_is_bars (P := l.prog) (w := w) (base := base) a B  F_law_is_bars), PySem.W.mg_of X G a_law_is_bars, k_law_is_bars, b_law_is_bars⟩
  exact ok_law a B T_Keeps T_Bars D_law_outright D_law_plan D_law_waits D_law_is_keeps D_law_says D_law_is_bars D_Keeps D_Bars M_Keeps_shows M_Bars_shows F_law
end Rp
open PySem PySem.W PyProof.Rows
set_option maxRecDepth 100000 in
set_option maxHeartbeats 0 in
theorem PySem.Challenge.cw_ropecabins_k07_plans_by_hand_holds : PySem.Challenge.rw_ropecabins_k07_plans_by_hand.Holds := by
  w_on; o_law; k_head; (case hw => w_witness2)
  k_fill
  refine Sy.walkG (l := PySem.Challenge.rw_ropecabins_k07_plans_by_hand) (x := "_law_script") (lev := 7) rfl rfl ⟨rfl, by decide, by decide⟩ (fun w h Y => PySem.W.kIn_of Y) ?F
  case F =>
    intro w mg fa h KX G hmg
    refine' Rp.all_mk KX G hmg ?aC_Keeps ?pg_Keeps ?hd_Keeps ?po_Keeps ?sa_Keeps ?mk_Keeps ?kc_Keeps ?ha_Keeps ?hm_Keeps ?n_Keeps_waits ?aC_Bars ?pg_Bars ?hd_Bars ?po_Bars ?sa_Bars ?mk_Bars ?kc_Bars ?ha_Bars ?hm_Bars ?n_Bars_text ?n_Bars_station ?hn ?htk ?eg_BadStations ?ex_BadStations ?ek_BadStations ?eb_BadStations ?et_BadStations ?eg_BadSpace ?ex_BadSpace ?ek_BadSpace ?eb_BadSpace ?et_BadSpace ?eg_BadCabins ?ex_BadCabins ?ek_BadCabins ?eb_BadCabins ?et_BadCabins ?eg_BadTicks ?ex_BadTicks ?ek_BadTicks ?eb_BadTicks ?et_BadTicks ?a_is_whole ?l_is_whole ?c_is_whole ?k_is_whole ?a_within ?l_within ?c_within ?k_within ?a_is_station ?l_is_station ?c_is_station ?k_is_station ?a_check_stations ?l_check_stations ?c_check_stations ?k_check_stations ?a_check_space ?l_check_space ?c_check_space ?k_check_space ?a_bars_of ?l_bars_of ?c_bars_of ?k_bars_of ?a_Keeps_init ?i_Keeps_init ?l_Keeps_init ?c_Keeps_init ?k_Keeps_init ?a_Bars_init ?i_Bars_init ?l_Bars_init ?c_Bars_init ?k_Bars_init ?a_planned ?l_planned ?c_planned ?k_planned ?a_Keeps_shows ?i_Keeps_shows ?l_Keeps_shows ?c_Keeps_shows ?k_Keeps_shows ?a_Bars_shows ?i_Bars_shows ?l_Bars_shows ?c_Bars_shows ?k_Bars_shows ?a_law_outright ?l_law_outright ?c_law_outright ?k_law_outright ?a_law_cell_at ?l_law_cell_at ?c_law_cell_at ?k_law_cell_at ?a_law_draw ?l_law_draw ?c_law_draw ?k_law_draw ?a_law_number ?l_law_number ?c_law_number ?k_law_number ?a_law_plan ?l_law_plan ?c_law_plan ?k_law_plan ?a_law_waits ?l_law_waits ?c_law_waits ?k_law_waits ?a_law_is_keeps ?l_law_is_keeps ?c_law_is_keeps ?k_law_is_keeps ?a_law_says ?l_law_says ?c_law_says ?k_law_says ?a_law_is_bars ?l_law_is_bars ?c_law_is_bars ?k_law_is_bars ?a_law ?l_law ?c_law ?k_law ?z_len ?z_int ?z_bool ?z_str ?z_list ?z_tuple ?z_isinstance ?z_sum ?z_all ?z_any ?z_min ?z_max ?z_abs ?z_range ?z_enumerate ?z_zip
    (case aC_Keeps => k_is)
    (case pg_Keeps => k_is)
    (case hd_Keeps => k_is)
    (case po_Keeps => k_is)
    (case sa_Keeps => k_is)
    (case mk_Keeps => k_is)
    (case kc_Keeps => k_is)
    (case ha_Keeps => k_is)
    (case hm_Keeps => k_is)
    (case n_Keeps_waits => k_is)
    (case aC_Bars => k_is)
    (case pg_Bars => k_is)
    (case hd_Bars => k_is)
    (case po_Bars => k_is)
    (case sa_Bars => k_is)
    (case mk_Bars => k_is)
    (case kc_Bars => k_is)
    (case ha_Bars => k_is)
    (case hm_Bars => k_is)
    (case n_Bars_text => k_is)
    (case n_Bars_station => k_is)
    (case hn => k_is)
    (case htk => k_is)
    (case eg_BadStations => k_is)
    (case ex_BadStations => k_exc)
    (case ek_BadStations => k_is)
    (case eb_BadStations => k_is)
    (case et_BadStations => k_is)
    (case eg_BadSpace => k_is)
    (case ex_BadSpace => k_exc)
    (case ek_BadSpace => k_is)
    (case eb_BadSpace => k_is)
    (case et_BadSpace => k_is)
    (case eg_BadCabins => k_is)
    (case ex_BadCabins => k_exc)
    (case ek_BadCabins => k_is)
    (case eb_BadCabins => k_is)
    (case et_BadCabins => k_is)
    (case eg_BadTicks => k_is)
    (case ex_BadTicks => k_exc)
    (case ek_BadTicks => k_is)
    (case eb_BadTicks => k_is)
    (case et_BadTicks => k_is)
    (case a_is_whole => k_is)
    (case l_is_whole => k_is)
    (case c_is_whole => k_is)
    (case k_is_whole => k_is)
    (case a_within => k_is)
    (case l_within => k_is)
    (case c_within => k_is)
    (case k_within => k_is)
    (case a_is_station => k_is)
    (case l_is_station => k_is)
    (case c_is_station => k_is)
    (case k_is_station => k_is)
    (case a_check_stations => k_is)
    (case l_check_stations => k_is)
    (case c_check_stations => k_is)
    (case k_check_stations => k_is)
    (case a_check_space => k_is)
    (case l_check_space => k_is)
    (case c_check_space => k_is)
    (case k_check_space => k_is)
    (case a_bars_of => k_is)
    (case l_bars_of => k_is)
    (case c_bars_of => k_is)
    (case k_bars_of => k_is)
    (case a_Keeps_init => k_is)
    (case i_Keeps_init => k_is)
    (case l_Keeps_init => k_is)
    (case c_Keeps_init => k_is)
    (case k_Keeps_init => k_is)
    (case a_Bars_init => k_is)
    (case i_Bars_init => k_is)
    (case l_Bars_init => k_is)
    (case c_Bars_init => k_is)
    (case k_Bars_init => k_is)
    (case a_planned => k_is)
    (case l_planned => k_is)
    (case c_planned => k_is)
    (case k_planned => k_is)
    (case a_Keeps_shows => k_is)
    (case i_Keeps_shows => k_is)
    (case l_Keeps_shows => k_is)
    (case c_Keeps_shows => k_is)
    (case k_Keeps_shows => k_is)
    (case a_Bars_shows => k_is)
    (case i_Bars_shows => k_is)
    (case l_Bars_shows => k_is)
    (case c_Bars_shows => k_is)
    (case k_Bars_shows => k_is)
    (case a_law_outright => k_is)
    (case l_law_outright => k_is)
    (case c_law_outright => k_is)
    (case k_law_outright => k_is)
    (case a_law_cell_at => k_is)
    (case l_law_cell_at => k_is)
    (case c_law_cell_at => k_is)
    (case k_law_cell_at => k_is)
    (case a_law_draw => k_is)
    (case l_law_draw => k_is)
    (case c_law_draw => k_is)
    (case k_law_draw => k_is)
    (case a_law_number => k_is)
    (case l_law_number => k_is)
    (case c_law_number => k_is)
    (case k_law_number => k_is)
    (case a_law_plan => k_is)
    (case l_law_plan => k_is)
    (case c_law_plan => k_is)
    (case k_law_plan => k_is)
    (case a_law_waits => k_is)
    (case l_law_waits => k_is)
    (case c_law_waits => k_is)
    (case k_law_waits => k_is)
    (case a_law_is_keeps => k_is)
    (case l_law_is_keeps => k_is)
    (case c_law_is_keeps => k_is)
    (case k_law_is_keeps => k_is)
    (case a_law_says => k_is)
    (case l_law_says => k_is)
    (case c_law_says => k_is)
    (case k_law_says => k_is)
    (case a_law_is_bars => k_is)
    (case l_law_is_bars => k_is)
    (case c_law_is_bars => k_is)
    (case k_law_is_bars => k_is)
    (case a_law => k_is)
    (case l_law => k_is)
    (case c_law => k_is)
    (case k_law => k_is)
    (case z_len => k_is)
    (case z_int => k_is)
    (case z_bool => k_is)
    (case z_str => k_is)
    (case z_list => k_is)
    (case z_tuple => k_is)
    (case z_isinstance => k_is)
    (case z_sum => k_is)
    (case z_all => k_is)
    (case z_any => k_is)
    (case z_min => k_is)
    (case z_max => k_is)
    (case z_abs => k_is)
    (case z_range => k_is)
    (case z_enumerate => k_is)
    (case z_zip => k_is)
#print axioms PySem.Challenge.cw_ropecabins_k07_plans_by_hand_holds
