import PyProof.Rows.All
import HandS.ClsMeth
import HandS.Conv
import HandS.Deep
import HandS.Dict
import HandS.EndBits
import HandS.EndTab
import HandS.ExcIs
import HandS.ForExc
import HandS.ForMost
import HandS.HotCalls
import HandS.IsInst
import HandS.Iter
import HandS.Lambda
import HandS.ListItems
import HandS.More
import HandS.NoneIn
import HandS.Rev
import HandS.SetFor
import HandS.Steps
import HandS.Style
import HandS.TupAny
import HandS.TupLen
import HandS.TupMul
import HandS.TupSets
import HandS.WideBits
import HandS.Zip
import KE.DataCmp
import KE.GoesMore
import KE.GoesRev
import KE.GoesZip
import KE.KDictCopyH
import KE.KDictKeyed
import KE.KDictSum
import KE.KDictZip
import KE.KItemsList
import KE.SortData
import PySem.Challenge.RW_treehands_k03_kids_parts_places
set_option Elab.async false
set_option linter.all false
set_option maxRecDepth 100000
set_option Elab.async false
set_option linter.all false
set_option maxRecDepth 100000
/-! Typed walks: what a piece of the text does, told over plain values; the heap is carried by a clean part (never changed) and owned objects. -/
namespace TM
open PySem PySem.Spec PyProof.Rows L2
abbrev St := L2.St
theorem pmap {α β : Type} {F G : α → β → Prop} {l₁ : List α} {l₂ : List β} (h : Paired F l₁ l₂) (k : ∀ a b, F a b → G a b) : Paired G l₁ l₂ := L2.Paired.mapP h k
abbrev Ex (H H' : Hp) : Prop := ∀ a o, H a = some o → H' a = some o
theorem ex_sql {K : PySem.W.Frag} {H H' : Hp} {a : Addr} {xs : List V} (e : Ex H H') (h : SqL K H a xs) : SqL K H' a xs := by
  rcases h with (h | ⟨o, h⟩) | h
  · exact .inl (.inl (e _ _ h))
  · exact .inl (.inr ⟨o, e _ _ h⟩)
  · exact .inr h
theorem ex_sqt {K : PySem.W.Frag} {H H' : Hp} {a : Addr} {xs : List V} (e : Ex H H') (h : SqT K H a xs) : SqT K H' a xs := by
  rcases h with (h | ⟨o, h⟩) | h
  · exact .inl (.inl (e _ _ h))
  · exact .inl (.inr ⟨o, e _ _ h⟩)
  · exact .inr h
theorem sql_of {K : PySem.W.Frag} {H : Hp} {a : Addr} {xs : List V} (h : H a = some (.lst xs)) : SqL K H a xs := .inl (.inl h)
theorem sqt_of {K : PySem.W.Frag} {H : Hp} {a : Addr} {xs : List V} (h : H a = some (.tup xs)) : SqT K H a xs := .inl (.inl h)
/-! ### kinds of values -/
structure RT (α : Type) where
  ok : Hp → V → α → Prop
  mono : ∀ {H H' : Hp} {v : V} {x : α}, Ex H H' → ok H v x → ok H' v x
abbrev rInt : RT Int := ⟨fun _ v i => v = .int i, fun _ h => h⟩
abbrev rBl : RT Bool := ⟨fun _ v i => v = .bl i, fun _ h => h⟩
abbrev rStr : RT Str := ⟨fun _ v i => v = .str i, fun _ h => h⟩
abbrev rNon : RT Unit := ⟨fun _ v _ => v = .non, fun _ h => h⟩
section
variable {α β γ : Type}
def rL (r : RT α) : RT (List α) := ⟨fun H v xs => ∃ a vs, v = .ref a ∧ H a = some (.lst vs) ∧ Paired (r.ok H) vs xs, fun e ⟨a, vs, h1, h2, h3⟩ => ⟨a, vs, h1, e _ _ h2, pmap h3 fun _ _ => r.mono e⟩⟩
def rT (r : RT α) : RT (List α) := ⟨fun H v xs => ∃ a vs, v = .ref a ∧ H a = some (.tup vs) ∧ Paired (r.ok H) vs xs, fun e ⟨a, vs, h1, h2, h3⟩ => ⟨a, vs, h1, e _ _ h2, pmap h3 fun _ _ => r.mono e⟩⟩
/-- a list of ints that may be the module's own or the script -/
def rLK (K : PySem.W.Frag) : RT (List Int) := ⟨fun H v xs => ∃ a, v = .ref a ∧ SqL K H a (xs.map V.int), fun e ⟨a, h1, h2⟩ => ⟨a, h1, ex_sql e h2⟩⟩
def rP (r : RT α) (q : RT β) : RT (α × β) := ⟨fun H v p => ∃ a x y, v = .ref a ∧ H a = some (.tup [x, y]) ∧ r.ok H x p.1 ∧ q.ok H y p.2, fun e ⟨a, x, y, h1, h2, h3, h4⟩ => ⟨a, x, y, h1, e _ _ h2, r.mono e h3, q.mono e h4⟩⟩
def rP3 (r : RT α) (q : RT β) (z : RT γ) : RT (α × β × γ) := ⟨fun H v p => ∃ a x y u, v = .ref a ∧ H a = some (.tup [x, y, u]) ∧ r.ok H x p.1 ∧ q.ok H y p.2.1 ∧ z.ok H u p.2.2, fun e ⟨a, x, y, u, h1, h2, h3, h4, h5⟩ => ⟨a, x, y, u, h1, e _ _ h2, r.mono e h3, q.mono e h4, z.mono e h5⟩⟩
def rO (r : RT α) : RT (Option α) := ⟨fun H v o => match o with
  | none => v = .non
  | some x => v ≠ .non ∧ r.ok H v x, fun {H H' v x} e h => by
    cases x with
    | none => exact h
    | some x => exact ⟨h.1, r.mono e h.2⟩⟩
end
/-! ### worlds -/
structure Wd where
  Hc : Hp
  H : Hp
  O : Addr → Option Nat
  B : Hp
structure Wd.Ok (W : Wd) : Prop where
  ex : Ex W.Hc W.H
  own : ∀ a i, W.O a = some i → W.Hc a = none ∧ W.H a ≠ none
  bas : ∀ a, W.B a ≠ none → W.H a ≠ none ∧ (W.O a = none → W.H a = W.B a)
structure Step (W W' : Wd) : Prop where
  keep : ∀ a o, W.H a = some o → W.O a = none → W'.H a = some o
  dom : ∀ a, W.H a ≠ none → W'.H a ≠ none
  hc : Ex W.Hc W'.Hc
  old : ∀ a, W.H a ≠ none → W.O a = none → W'.Hc a = W.Hc a ∧ W'.O a = none
  B : W'.B = W.B
theorem Step.refl (W : Wd) : Step W W := ⟨fun _ _ h _ => h, fun _ h => h, fun _ _ h => h, fun _ _ h => ⟨rfl, h⟩, rfl⟩
theorem Step.trans {A B C : Wd} (p : Step A B) (q : Step B C) : Step A C where
  keep := fun a o h n => q.keep a o (p.keep a o h n) (p.old a (by rw [h]; simp) n).2
  dom := fun a h => q.dom a (p.dom a h)
  hc := fun a o h => q.hc a o (p.hc a o h)
  old := fun a h n => by
    obtain ⟨e1, e2⟩ := p.old a h n
    obtain ⟨e3, e4⟩ := q.old a (p.dom a h) e2
    exact ⟨e3.trans e1, e4⟩
  B := q.B.trans p.B
/-- new objects alone -/
structure Grow (W W' : Wd) : Prop where
  keep : Ex W.H W'.H
  hc : Ex W.Hc W'.Hc
  O : W'.O = W.O
  old : ∀ a, W.H a ≠ none → W'.Hc a = W.Hc a
  B : W'.B = W.B
theorem Grow.refl (W : Wd) : Grow W W := ⟨fun _ _ h => h, fun _ _ h => h, rfl, fun _ _ => rfl, rfl⟩
theorem ne_none_of {H : Hp} {a : Addr} {o : HO} (h : H a = some o) : H a ≠ none := by rw [h]; simp
theorem of_ne_none {H : Hp} {a : Addr} (h : H a ≠ none) : ∃ o, H a = some o := by
  cases e : H a with
  | none => exact absurd e h
  | some o => exact ⟨o, rfl⟩
theorem Grow.dom {W W' : Wd} (g : Grow W W') {a : Addr} (h : W.H a ≠ none) : W'.H a ≠ none := by
  obtain ⟨o, e⟩ := of_ne_none h
  exact ne_none_of (g.keep a o e)
theorem Grow.step {W W' : Wd} (g : Grow W W') : Step W W' := ⟨fun a o h _ => g.keep a o h, fun _ h => g.dom h, g.hc, fun a h n => ⟨g.old a h, by rw [g.O]; exact n⟩, g.B⟩
theorem Grow.trans {A B C : Wd} (p : Grow A B) (q : Grow B C) : Grow A C := ⟨fun a o h => q.keep a o (p.keep a o h), fun a o h => q.hc a o (p.hc a o h), q.O.trans p.O, fun a h => (q.old a (p.dom h)).trans (p.old a h), q.B.trans p.B⟩
/-- a new object that joins the clean part -/
def Wd.add (W : Wd) (p : Addr) (o : HO) : Wd := ⟨upd W.Hc p o, upd W.H p o, W.O, W.B⟩
theorem bas_self {H : Hp} {O : Addr → Option Nat} : ∀ a, H a ≠ none → H a ≠ none ∧ (O a = none → H a = H a) := fun _ e => ⟨e, fun _ => rfl⟩
theorem Wd.Ok.basTo {W : Wd} (k : W.Ok) {H' : Hp} {O' : Addr → Option Nat} (dm : ∀ a, W.H a ≠ none → H' a ≠ none) (kp : ∀ a o, W.B a ≠ none → W.O a = none → W.H a = some o → H' a = some o) (oo : ∀ a, W.B a ≠ none → O' a = none → W.O a = none) : ∀ a, W.B a ≠ none → H' a ≠ none ∧ (O' a = none → H' a = W.B a) := fun a e => by
  obtain ⟨h1, h2⟩ := k.bas a e
  refine ⟨dm a h1, fun n => ?_⟩
  have n2 := oo a e n
  obtain ⟨o, q⟩ := of_ne_none h1
  rw [kp a o e n2 q, ← h2 n2, q]
theorem Wd.Ok.basNe {W : Wd} (k : W.Ok) {a p : Addr} (e : W.B a ≠ none) (h : W.H p = none) : a ≠ p := fun z => (k.bas a e).1 (by rw [z]; exact h)
theorem upd_dom {H : Hp} {p b : Addr} {o : HO} (h : H b ≠ none) : upd H p o b ≠ none := by
  by_cases q : b = p
  · rw [q, upd_same]; simp
  · rw [upd_ne q]; exact h
theorem Wd.Ok.none_of {W : Wd} (k : W.Ok) {p : Addr} (h : W.H p = none) : W.Hc p = none := by
  cases e : W.Hc p with
  | none => rfl
  | some o => rw [k.ex p o e] at h; cases h
theorem Wd.Ok.free {W : Wd} (k : W.Ok) {p : Addr} (h : W.H p = none) : W.O p = none := by
  cases e : W.O p with
  | none => rfl
  | some i => exact absurd h (k.own p i e).2
theorem Wd.Ok.add {W : Wd} (k : W.Ok) {p : Addr} {o : HO} (h : W.H p = none) : (W.add p o).Ok := by
  refine ⟨fun a u e => ?_, fun a i e => ?_, k.basTo (fun _ e => upd_dom e) (fun a o e _ q => (upd_ne (k.basNe e h)).trans q) fun _ _ n => n⟩
  · by_cases q : a = p
    · subst q
      have e : upd W.Hc a o a = some u := e
      rw [upd_same] at e
      show upd W.H a o a = some u
      rw [upd_same]; exact e
    · have e : upd W.Hc p o a = some u := e
      rw [upd_ne q] at e
      show upd W.H p o a = some u
      rw [upd_ne q]; exact k.ex a u e
  · have e0 : W.O a = some i := e
    have q : a ≠ p := fun z => by
      have e2 := k.free h
      rw [← z] at e2
      rw [e2] at e0; cases e0
    show upd W.Hc p o a = none ∧ upd W.H p o a ≠ none
    rw [upd_ne q, upd_ne q]; exact k.own a i e0
theorem grow_add {W : Wd} (k : W.Ok) {p : Addr} {o : HO} (h : W.H p = none) : Grow W (W.add p o) := by
  refine ⟨fun a u e => ?_, fun a u e => ?_, rfl, fun a n => ?_, rfl⟩
  · show upd W.H p o a = some u
    rw [upd_ne (ne_of_none e h)]; exact e
  · show upd W.Hc p o a = some u
    rw [upd_ne (ne_of_none e (k.none_of h))]; exact e
  · show upd W.Hc p o a = W.Hc a
    exact upd_ne fun z => n (by rw [z]; exact h)
/-- a new object that stays apart from the clean part -/
def Wd.lay (W : Wd) (p : Addr) (o : HO) : Wd := ⟨W.Hc, upd W.H p o, W.O, W.B⟩
theorem Wd.Ok.lay {W : Wd} (k : W.Ok) {p : Addr} {o : HO} (h : W.H p = none) : (W.lay p o).Ok := by
  refine ⟨fun a u e => ?_, fun a i e => ?_, k.basTo (fun _ e => upd_dom e) (fun a o e _ q => (upd_ne (k.basNe e h)).trans q) fun _ _ n => n⟩
  · show upd W.H p o a = some u
    rw [upd_ne (ne_of_none (k.ex a u e) h)]; exact k.ex a u e
  · have e0 : W.O a = some i := e
    have q : a ≠ p := fun z => by
      have e2 := k.free h
      rw [← z] at e2
      rw [e2] at e0; cases e0
    show W.Hc a = none ∧ upd W.H p o a ≠ none
    rw [upd_ne q]; exact k.own a i e0
theorem grow_lay {W : Wd} {p : Addr} {o : HO} (h : W.H p = none) : Grow W (W.lay p o) := by
  refine ⟨fun a u e => ?_, fun a u e => e, rfl, fun a n => rfl, rfl⟩
  show upd W.H p o a = some u
  rw [upd_ne (ne_of_none e h)]; exact e
/-! ### slots -/
/-- what slot i leans on is kept -/
structure Kp (i : Nat) (W W' : Wd) : Prop where
  hc : Ex W.Hc W'.Hc
  own : ∀ a, W.O a = some i → W'.O a = some i ∧ W'.H a = W.H a
  B : W'.B = W.B
  oo : ∀ a, W.B a ≠ none → W.O a = none → W'.O a = none
/-- a slot of one's own kind -/
structure GS where
  ok : Nat → Option V → Wd → Prop
  st : ∀ {i : Nat} {o : Option V} {W W' : Wd}, ok i o W → Kp i W W' → ok i o W'
inductive SP : Type 1 where
  | unk
  | bot
  | cl {α : Type} (r : RT α) (x : α)
  | own {α : Type} (r : RT α) (xs : List α)
  | ownA {α : Type} (a : Addr) (r : RT α) (xs : List α)
  | bx (a : Addr)
  | dp {α : Type} (r : RT α) (x : α)
  | gen (g : GS)
/-- the law's box: two numbers of a bounded size -/
def boxBits : Nat := 1048600
def BoxIs (o : Option HO) : Prop := ∃ x y : Int, o = some (.lst [.int x, .int y]) ∧ x.natAbs < 2 ^ boxBits ∧ 0 ≤ y ∧ y < 2147483647
def SPok : SP → Nat → Option V → Wd → Prop
  | .unk, _, _, _ => True
  | .bot, _, _, _ => False
  | .cl r x, _, o, W => ∃ v, o = some v ∧ r.ok W.Hc v x
  | .own r xs, i, o, W => ∃ a vs, o = some (.ref a) ∧ W.B a = none ∧ W.O a = some i ∧ W.H a = some (.lst vs) ∧ Paired (r.ok W.Hc) vs xs
  | .ownA a r xs, i, o, W => ∃ vs, o = some (.ref a) ∧ W.O a = some i ∧ W.H a = some (.lst vs) ∧ Paired (r.ok W.Hc) vs xs
  | .bx a, i, o, W => o = some (.ref a) ∧ W.O a = some i ∧ BoxIs (W.H a)
  | .dp r x, i, o, W => ∃ v Hr, o = some v ∧ (∀ b u, Hr b = some u → W.O b = some i ∧ W.H b = some u) ∧ r.ok Hr v x
  | .gen g, i, o, W => g.ok i o W
def SatL : Nat → List SP → St → Wd → Prop
  | _, [], [], _ => True
  | i, p :: ps, o :: σ, W => SPok p i o W ∧ SatL (i + 1) ps σ W
  | _, _, _, _ => False
abbrev Sat (Γ : List SP) (σ : St) (W : Wd) : Prop := SatL 0 Γ σ W
/-- what every slot leans on is kept -/
structure Up (W W' : Wd) : Prop where
  hc : Ex W.Hc W'.Hc
  own : ∀ a i, W.O a = some i → W'.O a = some i ∧ W'.H a = W.H a
  B : W'.B = W.B
  oo : ∀ a, W.B a ≠ none → W.O a = none → W'.O a = none
theorem Up.kp {W W' : Wd} (g : Up W W') (i : Nat) : Kp i W W' := ⟨g.hc, fun a e => g.own a i e, g.B, g.oo⟩
theorem SPok.kp {p : SP} {i : Nat} {o : Option V} {W W' : Wd} (h : SPok p i o W) (g : Kp i W W') : SPok p i o W' := by
  cases p with
  | unk => trivial
  | bot => exact h
  | cl r x => obtain ⟨v, e, k⟩ := h; exact ⟨v, e, r.mono g.hc k⟩
  | own r xs => obtain ⟨a, vs, e, n, ho, hh, k⟩ := h; exact ⟨a, vs, e, by rw [g.B]; exact n, (g.own a ho).1, (g.own a ho).2.trans hh, pmap k fun _ _ => r.mono g.hc⟩
  | ownA a r xs => obtain ⟨vs, e, ho, hh, k⟩ := h; exact ⟨vs, e, (g.own a ho).1, (g.own a ho).2.trans hh, pmap k fun _ _ => r.mono g.hc⟩
  | bx a => obtain ⟨e, ho, x, y, hh, k⟩ := h; exact ⟨e, (g.own a ho).1, x, y, (g.own a ho).2.trans hh, k⟩
  | dp r x => obtain ⟨v, Hr, e, q, k⟩ := h; exact ⟨v, Hr, e, fun b u z => ⟨(g.own b (q b u z).1).1, (g.own b (q b u z).1).2.trans (q b u z).2⟩, k⟩
  | gen gs => exact gs.st h g
theorem SPok.up {p : SP} {i : Nat} {o : Option V} {W W' : Wd} (h : SPok p i o W) (g : Up W W') : SPok p i o W' := h.kp (g.kp i)
theorem SatL.up : ∀ {Γ : List SP} {i : Nat} {σ : St} {W W' : Wd}, SatL i Γ σ W → Up W W' → SatL i Γ σ W'
  | [], _, [], _, _, _, _ => trivial
  | _ :: _, _, _ :: _, _, _, h, g => ⟨h.1.up g, SatL.up h.2 g⟩
theorem Grow.up {W W' : Wd} (k : W.Ok) (g : Grow W W') : Up W W' := ⟨g.hc, fun a i e => ⟨by rw [g.O]; exact e, by
  obtain ⟨o, e2⟩ := of_ne_none (k.own a i e).2
  rw [e2]; exact g.keep a o e2⟩, g.B, fun a _ n => by rw [g.O]; exact n⟩
/-- an object that stood apart joins the clean part -/
def Wd.frz (W : Wd) (a : Addr) (o : HO) : Wd := ⟨upd W.Hc a o, W.H, W.O, W.B⟩
theorem Wd.Ok.frz {W : Wd} (k : W.Ok) {a : Addr} {o : HO} (h : W.H a = some o) (n : W.O a = none) : (W.frz a o).Ok := by
  refine ⟨fun b u e => ?_, fun b i e => ?_, k.bas⟩
  · have e : upd W.Hc a o b = some u := e
    show W.H b = some u
    by_cases q : b = a
    · subst q; rw [upd_same] at e; rw [h]; exact e
    · rw [upd_ne q] at e; exact k.ex b u e
  · have e0 : W.O b = some i := e
    have q : b ≠ a := fun z => by rw [z, n] at e0; cases e0
    show upd W.Hc a o b = none ∧ W.H b ≠ none
    rw [upd_ne q]; exact k.own b i e0
theorem up_frz {W : Wd} {a : Addr} {o : HO} (n : W.Hc a = none) : Up W (W.frz a o) := ⟨fun b u e => by
  show upd W.Hc a o b = some u
  rw [upd_ne (ne_of_none e n)]; exact e, fun _ _ e => ⟨e, rfl⟩, rfl, fun _ _ n => n⟩
/-- frozen behind a step in which it was new -/
theorem Step.frz {W W' : Wd} (s : Step W W') {a : Addr} {o : HO} (h : W.H a = none) (n : W'.Hc a = none) : Step W (W'.frz a o) := by
  refine ⟨s.keep, s.dom, fun b u e => (up_frz n).hc b u (s.hc b u e), fun b e k => ?_, s.B⟩
  have q : b ≠ a := fun z => e (by rw [z]; exact h)
  refine ⟨?_, (s.old b e k).2⟩
  show upd W'.Hc a o b = W.Hc b
  rw [upd_ne q]; exact (s.old b e k).1
def look : List SP → Nat → SP
  | [], _ => .unk
  | p :: _, 0 => p
  | _ :: ps, i + 1 => look ps i
theorem SatL.get : ∀ {Γ : List SP} {i j : Nat} {σ : St} {W : Wd}, SatL j Γ σ W → i < Γ.length → ∃ o, σ[i]? = some o ∧ SPok (look Γ i) (j + i) o W
  | _ :: _, 0, j, o :: _, _, h, _ => ⟨o, rfl, h.1⟩
  | _ :: ps, i + 1, j, _ :: σ, W, h, hl => by
    obtain ⟨o, e, k⟩ := SatL.get (i := i) h.2 (Nat.lt_of_succ_lt_succ hl)
    refine ⟨o, e, ?_⟩
    rw [show j + (i + 1) = j + 1 + i by omega]
    exact k
theorem SatL.len : ∀ {Γ : List SP} {j : Nat} {σ : St} {W : Wd}, SatL j Γ σ W → σ.length = Γ.length
  | [], _, [], _, _ => rfl
  | _ :: _, _, _ :: _, _, h => congrArg (· + 1) (SatL.len h.2)
theorem look_len : ∀ {Γ : List SP} {i : Nat}, look Γ i ≠ .unk → i < Γ.length
  | [], _, h => absurd rfl h
  | _ :: _, 0, _ => Nat.succ_pos _
  | _ :: ps, i + 1, h => Nat.succ_lt_succ (look_len (Γ := ps) h)
theorem Sat.look {Γ : List SP} {i : Nat} {σ : St} {W : Wd} {p : SP} (h : Sat Γ σ W) (e : TM.look Γ i = p) (hp : p ≠ .unk) : ∃ o, σ[i]? = some o ∧ SPok p i o W := by
  subst e
  obtain ⟨o, e, k⟩ := SatL.get (i := i) h (look_len hp)
  rw [Nat.zero_add] at k
  exact ⟨o, e, k⟩
/-- one slot set, in a world where all the others still hold -/
theorem SatL.set : ∀ {Γ : List SP} {j i : Nat} {σ : St} {W W' : Wd} {p : SP} {o : Option V}, SatL j Γ σ W → (∀ k o', k ≠ i → σ[k]? = some o' → SPok (TM.look Γ k) (j + k) o' W → SPok (TM.look Γ k) (j + k) o' W') → SPok p (j + i) o W' → SatL j (Γ.set i p) (σ.set i o) W'
  | [], _, _, [], _, _, _, _, _, _, _ => trivial
  | q :: ps, j, 0, u :: σ, W, W', p, o, h, hk, hp => by
    refine ⟨hp, ?_⟩
    have : ∀ (Γ : List SP) (m : Nat) (σ : St), SatL m Γ σ W → (∀ k o', σ[k]? = some o' → SPok (TM.look Γ k) (m + k) o' W → SPok (TM.look Γ k) (m + k) o' W') → SatL m Γ σ W' := by
      intro Γ
      induction Γ with
      | nil => intro m σ h _; cases σ with
        | nil => trivial
        | cons _ _ => exact h
      | cons p ps ih => intro m σ h hk; cases σ with
        | nil => exact h
        | cons o σ =>
          refine ⟨hk 0 o rfl h.1, ih (m + 1) σ h.2 fun k o' e z => ?_⟩
          have := hk (k + 1) o' e (by show SPok (TM.look ps k) (m + (k + 1)) o' W; rw [show m + (k + 1) = m + 1 + k by omega]; exact z)
          rw [show m + 1 + k = m + (k + 1) by omega]
          exact this
    exact this ps (j + 1) σ h.2 fun k o' e z => by
      have := hk (k + 1) o' (by simp) e (by show SPok (TM.look ps k) (j + (k + 1)) o' W; rw [show j + (k + 1) = j + 1 + k by omega]; exact z)
      rw [show j + 1 + k = j + (k + 1) by omega]
      exact this
  | q :: ps, j, i + 1, u :: σ, W, W', p, o, h, hk, hp => by
    refine ⟨hk 0 u (by simp) rfl h.1, SatL.set h.2 (fun k o' n e z => ?_) (by rw [show j + 1 + i = j + (i + 1) by omega]; exact hp)⟩
    have := hk (k + 1) o' (by omega) e (by show SPok (TM.look ps k) (j + (k + 1)) o' W; rw [show j + (k + 1) = j + 1 + k by omega]; exact z)
    rw [show j + 1 + k = j + (k + 1) by omega]
    exact this
/-- a clean value joins slot i -/
theorem Sat.put {Γ : List SP} {σ : St} {W : Wd} {p : SP} {i : Nat} {o : Option V} (h : Sat Γ σ W) (hp : SPok p i o W) : Sat (Γ.set i p) (σ.set i o) W :=
  SatL.set h (fun _ _ _ _ z => z) (by rw [Nat.zero_add]; exact hp)
/-- forgetting -/
def leS : SP → SP → Prop
  | p, q => q = .unk ∨ p = q
def leL : List SP → List SP → Prop
  | [], [] => True
  | p :: ps, q :: qs => (q = .unk ∨ p = q) ∧ leL ps qs
  | _, _ => False
theorem SatL.le : ∀ {Γ Δ : List SP} {i : Nat} {σ : St} {W : Wd}, SatL i Γ σ W → leL Γ Δ → SatL i Δ σ W
  | [], [], _, [], _, _, _ => trivial
  | p :: ps, q :: qs, _, _ :: _, _, h, l => by
    refine ⟨?_, SatL.le h.2 l.2⟩
    rcases l.1 with e | e
    · rw [e]; trivial
    · rw [← e]; exact h.1
/-- the object at a, owned by slot i, is changed: all other slots still hold -/
def Wd.mut (W : Wd) (a : Addr) (o : HO) : Wd := ⟨W.Hc, upd W.H a o, W.O, W.B⟩
theorem Wd.Ok.mutB {W : Wd} (k : W.Ok) {a : Addr} {o : HO} (h : W.Hc a = none) (hb : W.B a ≠ none → W.O a ≠ none) : (W.mut a o).Ok := by
  refine ⟨fun b u e => ?_, fun b i e => ?_, k.basTo (fun _ e => upd_dom e) (fun b w e n q => (upd_ne fun z => hb (by rw [← z]; exact e) (by rw [← z]; exact n)).trans q) fun _ _ n => n⟩
  · show upd W.H a o b = some u
    have e0 : W.Hc b = some u := e
    rw [upd_ne (fun z => by rw [z, h] at e0; cases e0)]; exact k.ex b u e0
  · show W.Hc b = none ∧ upd W.H a o b ≠ none
    refine ⟨(k.own b i e).1, ?_⟩
    by_cases q : b = a
    · subst q; rw [upd_same]; simp
    · rw [upd_ne q]; exact (k.own b i e).2
theorem Wd.Ok.mut {W : Wd} (k : W.Ok) {a : Addr} {i : Nat} {o : HO} (h : W.O a = some i) : (W.mut a o).Ok := k.mutB (k.own a i h).1 fun _ n => by rw [h] at n; cases n
theorem step_mut {W : Wd} {a : Addr} {i : Nat} {o : HO} (h : W.O a = some i) : Step W (W.mut a o) := by
  refine ⟨fun b u e n => ?_, fun b e => ?_, fun _ _ e => e, fun b e n => ⟨rfl, n⟩, rfl⟩
  · show upd W.H a o b = some u
    rw [upd_ne (fun z => by subst z; rw [h] at n; cases n)]; exact e
  · show upd W.H a o b ≠ none
    by_cases q : b = a
    · subst q; rw [upd_same]; simp
    · rw [upd_ne q]; exact e
theorem SPok.mut {p : SP} {i j : Nat} {o : Option V} {W : Wd} {a : Addr} {u : HO} (h : SPok p j o W) (ho : W.O a = some i) (n : j ≠ i) : SPok p j o (W.mut a u) := by
  have ne : ∀ b, W.O b = some j → b ≠ a := fun b e z => by subst z; rw [ho] at e; cases e; exact n rfl
  exact h.kp ⟨fun _ _ e => e, fun b e => ⟨e, upd_ne (ne b e)⟩, rfl, fun _ _ e => e⟩
theorem set_same {σ : St} {i : Nat} {o : Option V} (h : σ[i]? = some o) : σ.set i o = σ := by
  obtain ⟨hi, e⟩ := List.getElem?_eq_some_iff.mp h
  rw [← e]; exact List.set_getElem_self hi
theorem Sat.mut {Γ : List SP} {σ : St} {W : Wd} {p : SP} {i : Nat} {a : Addr} {u : HO} {o : Option V} (h : Sat Γ σ W) (ho : W.O a = some i) (hs : σ[i]? = some o) (hp : SPok p i o (W.mut a u)) : Sat (Γ.set i p) σ (W.mut a u) := by
  have q := SatL.set (i := i) (p := p) (o := o) (W' := W.mut a u) h (fun k o' n _ z => by
    have z' : SPok (TM.look Γ k) k o' W := by rw [Nat.zero_add] at z; exact z
    rw [Nat.zero_add]
    exact z'.mut ho n) (by rw [Nat.zero_add]; exact hp)
  rw [set_same hs] at q
  exact q
end TM
set_option Elab.async false
set_option linter.all false
set_option maxRecDepth 100000
namespace TM
open PySem PySem.Spec PyProof.Rows L2
abbrev Mp (α : Type) := (α → Prop) → Prop
section
variable {X : Cx} {Γ : List SP} {α β γ δ τ : Type} {e a b c : Expr} {pos : Pos}
/-! ### expressions -/
def XP (X : Cx) (Γ : List SP) (e : Expr) (M : Mp α) (r : RT α) : Prop :=
  ∃ t, PE X e t ∧ ∀ (σ : St) (W : Wd), W.Ok → Sat Γ σ W → ∀ (Q : VK) (P : α → Prop), M P → (∀ x v W', P x → W'.Ok → Step W W' → Sat Γ σ W' → r.ok W'.Hc v x → Q v W'.H) → t σ W.H Q
/-- a new list, which nobody else knows -/
def XN (X : Cx) (Γ : List SP) (e : Expr) (M : Mp (List α)) (r : RT α) : Prop :=
  ∃ t, PE X e t ∧ ∀ (σ : St) (W : Wd), W.Ok → Sat Γ σ W → ∀ (Q : VK) (P : List α → Prop), M P →
    (∀ xs p vs W', P xs → W'.Ok → Step W W' → Sat Γ σ W' → W.H p = none → W'.Hc p = none → W'.O p = none → W'.H p = some (.lst vs) → Paired (r.ok W'.Hc) vs xs → Q (.ref p) W'.H) → t σ W.H Q
def XT (X : Cx) (Γ : List SP) (e : Expr) (M : Mp Bool) : Prop :=
  ∃ t, PT X e t ∧ ∀ (σ : St) (W : Wd), W.Ok → Sat Γ σ W → ∀ (Q : Bool → Hp → Prop) (P : Bool → Prop), M P → (∀ x W', P x → W'.Ok → Step W W' → Sat Γ σ W' → Q x W'.H) → t σ W.H Q
def XW (X : Cx) (Γ : List SP) (e : Expr) (M : Mp Bool) : Prop :=
  ∃ t, PW X e t ∧ ∀ (σ : St) (W : Wd), W.Ok → Sat Γ σ W → ∀ (Q : Bool → Hp → Prop) (P : Bool → Prop), M P → (∀ x W', P x → W'.Ok → Step W W' → Sat Γ σ W' → Q x W'.H) → t σ W.H Q
/-- argument lists: the values as a nested pair -/
structure RA (τ : Type) where
  ok : Hp → List V → τ → Prop
  mono : ∀ {H H' : Hp} {v : List V} {x : τ}, Ex H H' → ok H v x → ok H' v x
abbrev ra0 : RA Unit := ⟨fun _ vs _ => vs = [], fun _ h => h⟩
def rac (r : RT α) (R : RA τ) : RA (α × τ) := ⟨fun H vs x => ∃ v ws, vs = v :: ws ∧ r.ok H v x.1 ∧ R.ok H ws x.2, fun e ⟨v, ws, h1, h2, h3⟩ => ⟨v, ws, h1, r.mono e h2, R.mono e h3⟩⟩
def XA (X : Cx) (Γ : List SP) (es : List Expr) (M : Mp τ) (R : RA τ) : Prop :=
  ∃ t, PA X es t ∧ ∀ (σ : St) (W : Wd), W.Ok → Sat Γ σ W → ∀ (Q : List V → Hp → Prop) (P : τ → Prop), M P → (∀ x v W', P x → W'.Ok → Step W W' → Sat Γ σ W' → R.ok W'.Hc v x → Q v W'.H) → t σ W.H Q
theorem xa_nil : XA X Γ [] (fun P => P ()) ra0 := ⟨_, pa_nil, fun σ W k s Q P m h => h () [] W m k (Step.refl W) s rfl⟩
theorem xa_cons {es : List Expr} {M : Mp α} {N : Mp τ} {r : RT α} {R : RA τ} (ha : XP X Γ e M r) (hr : XA X Γ es N R) (hs : starEach (e :: es) X.env = (false, eval e X.env) :: starEach es X.env := by rfl) : XA X Γ (e :: es) (fun P => M fun x => N fun y => P (x, y)) (rac r R) := by
  obtain ⟨t, p, q⟩ := ha
  obtain ⟨u, p2, q2⟩ := hr
  refine ⟨_, pa_cons p p2 hs, fun σ W k s Q P m h => ?_⟩
  refine q σ W k s _ _ m fun x v W1 m1 k1 s1 g1 r1 => ?_
  refine q2 σ W1 k1 g1 _ _ m1 fun y ws W2 m2 k2 s2 g2 r2 => ?_
  exact h (x, y) (v :: ws) W2 m2 k2 (s1.trans s2) g2 ⟨v, ws, rfl, r.mono s2.hc r1, r2⟩
/-! names, constants -/
theorem xp_var (i : Nat) {x : Str} {r : RT α} {y : α} (h : look Γ i = .cl r y) (hN : X.N[i]? = some x := by rfl) (hv : Vis X.env.scope x := by first | exact Or.inl rfl | exact Or.inr (Or.inl rfl) | exact Or.inr (Or.inr rfl)) (hd : (x == ("__debug__" : Str)) = false := by decide) (hcd : (x == ("__classdict__" : Str)) = false := by decide) :
    XP X Γ (.Name x pos) (fun P => P y) r := by
  refine ⟨_, pe_var hN hv hd hcd, fun σ W k s Q P m q => ?_⟩
  obtain ⟨o, e, v, rfl, hr⟩ := s.look h (by simp)
  exact ⟨v, e, q y v W m k (Step.refl W) s hr⟩
theorem xp_int {i : Int} {j : Nat} : XP X Γ (.Constant (.int i) j pos) (fun P => P i) rInt := ⟨_, pe_int, fun σ W k s Q P m h => h i _ W m k (Step.refl W) s rfl⟩
theorem xp_bl {i : Bool} {j : Nat} : XP X Γ (.Constant (.bool i) j pos) (fun P => P i) rBl := ⟨_, pe_bl, fun σ W k s Q P m h => h i _ W m k (Step.refl W) s rfl⟩
theorem xp_str {i : Str} {j : Nat} : XP X Γ (.Constant (.str i) j pos) (fun P => P i) rStr := ⟨_, pe_str, fun σ W k s Q P m h => h i _ W m k (Step.refl W) s rfl⟩
theorem xp_non {j : Nat} : XP X Γ (.Constant .none j pos) (fun P => P ()) rNon := ⟨_, pe_non, fun σ W k s Q P m h => h () _ W m k (Step.refl W) s rfl⟩
theorem xp_none {r : RT α} {j : Nat} : XP X Γ (.Constant .none j pos) (fun P => P none) (rO r) := ⟨_, pe_non, fun σ W k s Q P m h => h none _ W m k (Step.refl W) s rfl⟩
theorem xp_gint {x : Str} {i : Int} {t : Tok} (hm : X.mg x = some (.int i t)) (hg : Gl X x := by rfl) (hd : (x == ("__debug__" : Str)) = false := by decide) : XP X Γ (.Name x pos) (fun P => P i) rInt :=
  ⟨_, pe_glob (v := .int i) hg hm ⟨_, rfl⟩ hd, fun σ W k s Q P m h => h i _ W m k (Step.refl W) s rfl⟩
theorem xp_gstr {x : Str} {i : Str} {t : Tok} (hm : X.mg x = some (.str i t)) (hg : Gl X x := by rfl) (hd : (x == ("__debug__" : Str)) = false := by decide) : XP X Γ (.Name x pos) (fun P => P i) rStr :=
  ⟨_, pe_glob (v := .str i) hg hm ⟨_, rfl⟩ hd, fun σ W k s Q P m h => h i _ W m k (Step.refl W) s rfl⟩
theorem XP.some {M : Mp α} {r : RT α} (h : XP X Γ e M r) (hn : ∀ H x, ¬ r.ok H .non x) : XP X Γ e (fun P => M fun x => P (some x)) (rO r) := by
  obtain ⟨t, p, q⟩ := h
  refine ⟨t, p, fun σ W k s Q P m h => q σ W k s Q _ m fun x v W' m' k' s' g' r' => h (.some x) v W' m' k' s' g' ⟨fun e => hn W'.Hc x (by rw [← e]; exact r'), r'⟩⟩
/-- the value's reading may be turned -/
theorem XP.map {M : Mp α} {r : RT α} {q : RT β} (f : α → β) (hf : ∀ H v x, r.ok H v x → q.ok H v (f x)) (h : XP X Γ e M r) : XP X Γ e (fun P => M fun x => P (f x)) q := by
  obtain ⟨t, p, k⟩ := h
  exact ⟨t, p, fun σ W o s Q P m h => k σ W o s Q _ m fun x v W' m' k' s' g' r' => h (f x) v W' m' k' s' g' (hf _ _ _ r')⟩
/-- what more is known -/
theorem XP.imp {M N : Mp α} {r : RT α} (h : XP X Γ e M r) (hm : ∀ P, N P → M P) : XP X Γ e N r := by
  obtain ⟨t, p, k⟩ := h
  exact ⟨t, p, fun σ W o s Q P m h => k σ W o s Q P (hm P m) h⟩
/-- a new list joins the clean part -/
theorem XN.p {M : Mp (List α)} {r : RT α} (h : XN X Γ e M r) : XP X Γ e M (rL r) := by
  obtain ⟨t, p, q⟩ := h
  refine ⟨t, p, fun σ W k s Q P m h => q σ W k s Q P m fun xs p vs W' m' k' s' g' n nc no hp r' => ?_⟩
  have u := up_frz (o := .lst vs) nc
  exact h xs (.ref p) (W'.frz p (.lst vs)) m' (k'.frz hp no) (s'.frz n nc) (g'.up u) ⟨p, vs, rfl, upd_same, pmap r' fun _ _ => r.mono u.hc⟩
/-! operators by values -/
def OpS (r : R2) (ra : RT α) (rb : RT β) (rc : RT γ) (G : α → β → Mp γ) : Prop :=
  ∀ W : Wd, W.Ok → ∀ v x u y, ra.ok W.Hc v x → rb.ok W.Hc u y → ∀ (Q : VK) (P : γ → Prop), G x y P → (∀ z w W', P z → W'.Ok → Grow W W' → rc.ok W'.Hc w z → Q w W'.H) → r v u W.H Q
theorem op_core {r : R2} {ta tb : TE} {Ma : Mp α} {Mb : Mp β} {ra : RT α} {rb : RT β} {rc : RT γ} {G : α → β → Mp γ}
    (q : ∀ (σ : St) (W : Wd), W.Ok → Sat Γ σ W → ∀ (Q : VK) (P : α → Prop), Ma P → (∀ x v W', P x → W'.Ok → Step W W' → Sat Γ σ W' → ra.ok W'.Hc v x → Q v W'.H) → ta σ W.H Q)
    (q2 : ∀ (σ : St) (W : Wd), W.Ok → Sat Γ σ W → ∀ (Q : VK) (P : β → Prop), Mb P → (∀ x v W', P x → W'.Ok → Step W W' → Sat Γ σ W' → rb.ok W'.Hc v x → Q v W'.H) → tb σ W.H Q) (hr : OpS r ra rb rc G) :
    ∀ (σ : St) (W : Wd), W.Ok → Sat Γ σ W → ∀ (Q : VK) (P : γ → Prop), Ma (fun x => Mb fun y => G x y P) → (∀ x v W', P x → W'.Ok → Step W W' → Sat Γ σ W' → rc.ok W'.Hc v x → Q v W'.H) → tOp r ta tb σ W.H Q := by
  intro σ W k s Q P m h
  refine q σ W k s _ _ m fun x v W1 m1 k1 s1 g1 r1 => ?_
  refine q2 σ W1 k1 g1 _ _ m1 fun y u W2 m2 k2 s2 g2 r2 => ?_
  exact hr W2 k2 v x u y (ra.mono s2.hc r1) r2 Q P m2 fun z w W3 m3 k3 g3 r3 => h z w W3 m3 k3 ((s1.trans s2).trans g3.step) (g2.up (g3.up k2)) r3
theorem xp_op {op : Operator} {r : R2} {Ma : Mp α} {Mb : Mp β} {ra : RT α} {rb : RT β} {rc : RT γ} {G : α → β → Mp γ} (ho : OpR X (binaryOp op) r) (hr : OpS r ra rb rc G) (ha : XP X Γ a Ma ra) (hb : XP X Γ b Mb rb) : XP X Γ (.BinOp a op b pos) (fun P => Ma fun x => Mb fun y => G x y P) rc := by
  obtain ⟨t, p, q⟩ := ha
  obtain ⟨u, p2, q2⟩ := hb
  exact ⟨_, pe_op ho p p2, op_core q q2 hr⟩
theorem xp_cmp {op : CmpOp} {r : R2} {Ma : Mp α} {Mb : Mp β} {ra : RT α} {rb : RT β} {rc : RT γ} {G : α → β → Mp γ} (ho : OpR X (compareOp op) r) (hr : OpS r ra rb rc G) (hm : behindInMarks op b = false) (ha : XP X Γ a Ma ra) (hb : XP X Γ b Mb rb) : XP X Γ (.Compare a [op] [b] pos) (fun P => Ma fun x => Mb fun y => G x y P) rc := by
  obtain ⟨t, p, q⟩ := ha
  obtain ⟨u, p2, q2⟩ := hb
  exact ⟨_, pe_cmpR ho p p2 hm, op_core q q2 hr⟩
theorem xp_ix {r : R2} {Ma : Mp α} {Mb : Mp β} {ra : RT α} {rb : RT β} {rc : RT γ} {G : α → β → Mp γ} (ho : IxR X r) (hr : OpS r ra rb rc G) (ha : XP X Γ a Ma ra) (hb : XP X Γ b Mb rb) (hs : PlainIx b := by exact fun _ _ => rfl) : XP X Γ (.Subscript a b pos) (fun P => Ma fun x => Mb fun y => G x y P) rc := by
  obtain ⟨t, p, q⟩ := ha
  obtain ⟨u, p2, q2⟩ := hb
  exact ⟨_, pe_ix ho p p2 hs, op_core q q2 hr⟩
theorem xt_cmp {op : CmpOp} {r : R2} {Ma : Mp α} {Mb : Mp β} {ra : RT α} {rb : RT β} {G : α → β → Mp Bool} (ho : OpR X (compareOp op) r) (hr : OpS r ra rb rBl G) (hm : behindInMarks op b = false) (ha : XP X Γ a Ma ra) (hb : XP X Γ b Mb rb) : XT X Γ (.Compare a [op] [b] pos) (fun P => Ma fun x => Mb fun y => G x y P) := by
  obtain ⟨t, p, q⟩ := ha
  obtain ⟨u, p2, q2⟩ := hb
  refine ⟨_, pt_cmpR ho p p2 hm, fun σ W k s Q P m h => ?_⟩
  refine op_core (rc := rBl) q q2 hr σ W k s _ P m fun x v W' m' k' s' g' r' => ?_
  exact ⟨x, r', h x W' m' k' s' g'⟩
/-- a < b < c -/
theorem xt_chain {op op' : CmpOp} {r r' : R2} {Ma : Mp α} {Mb : Mp β} {Mc : Mp γ} {ra : RT α} {rb : RT β} {rc : RT γ} {G : α → β → Mp Bool} {G' : β → γ → Mp Bool} (ho : OpR X (compareOp op) r) (hr : OpS r ra rb rBl G) (ho' : OpR X (compareOp op') r') (hr' : OpS r' rb rc rBl G')
    (ha : XP X Γ a Ma ra) (hb : XP X Γ b Mb rb) (hc : XP X Γ c Mc rc)
    (hm : lastMarks [op, op'] [b, c] = false := by with_unfolding_all rfl) :
    XT X Γ (.Compare a [op, op'] [b, c] pos) (fun P => Ma fun x => Mb fun y => G x y fun k => if k = true then Mc fun z => G' y z P else P false) := by
  obtain ⟨t, p, q⟩ := ha
  obtain ⟨u, p2, q2⟩ := hb
  obtain ⟨w, p3, q3⟩ := hc
  refine ⟨_, pt_chain ho ho' p p2 p3 hm, fun σ W k s Q P m h => ?_⟩
  refine q σ W k s _ _ m fun x v W1 m1 k1 s1 g1 r1 => ?_
  refine q2 σ W1 k1 g1 _ _ m1 fun y v2 W2 m2 k2 s2 g2 r2 => ?_
  refine hr W2 k2 v x v2 y (ra.mono s2.hc r1) r2 _ _ m2 fun z w2 W3 m3 k3 g3 r3 => ?_
  have g3' := g2.up (g3.up k2)
  refine ⟨z, r3, ?_⟩
  cases z with
  | false => exact ⟨false, rfl, h false W3 m3 k3 ((s1.trans s2).trans g3.step) g3'⟩
  | true =>
    refine q3 σ W3 k3 g3' _ _ m3 fun z3 v3 W4 m4 k4 s4 g4 r4 => ?_
    exact hr' W4 k4 v2 y v3 z3 (rb.mono s4.hc (rb.mono g3.hc r2)) r4 _ _ m4 fun z5 w5 W5 m5 k5 g5 r5 => ⟨z5, r5, h z5 W5 m5 k5 (((s1.trans s2).trans g3.step).trans (s4.trans g5.step)) (g4.up (g5.up k4))⟩
/-! truth -/
theorem XW.t {M : Mp Bool} (h : XW X Γ e M) : XT X Γ e M := let ⟨t, p, q⟩ := h; ⟨t, p.pt, q⟩
theorem xw_and1 {M : Mp Bool} (h : XT X Γ a M) : XW X Γ (.BoolOp .And [a] pos) M := let ⟨t, p, q⟩ := h; ⟨t, pw_and1 p, q⟩
theorem xw_or1 {M : Mp Bool} (h : XT X Γ a M) : XW X Γ (.BoolOp .Or [a] pos) M := let ⟨t, p, q⟩ := h; ⟨t, pw_or1 p, q⟩
theorem xw_and {M N : Mp Bool} {rest : List Expr} (h : XT X Γ a M) (g : XW X Γ (.BoolOp .And (b :: rest) pos) N) : XW X Γ (.BoolOp .And (a :: b :: rest) pos) (fun P => M fun k => if k = true then N P else P false) := by
  obtain ⟨t, p, q⟩ := h
  obtain ⟨u, p2, q2⟩ := g
  refine ⟨_, pw_and p p2, fun σ W k s Q P m h => ?_⟩
  refine q σ W k s _ _ m fun x W1 m1 k1 s1 g1 => ?_
  cases x with
  | false => exact h false W1 m1 k1 s1 g1
  | true => exact q2 σ W1 k1 g1 _ P m1 fun y W2 m2 k2 s2 g2 => h y W2 m2 k2 (s1.trans s2) g2
theorem xw_or {M N : Mp Bool} {rest : List Expr} (h : XT X Γ a M) (g : XW X Γ (.BoolOp .Or (b :: rest) pos) N) : XW X Γ (.BoolOp .Or (a :: b :: rest) pos) (fun P => M fun k => if k = true then P true else N P) := by
  obtain ⟨t, p, q⟩ := h
  obtain ⟨u, p2, q2⟩ := g
  refine ⟨_, pw_or p p2, fun σ W k s Q P m h => ?_⟩
  refine q σ W k s _ _ m fun x W1 m1 k1 s1 g1 => ?_
  cases x with
  | true => exact h true W1 m1 k1 s1 g1
  | false => exact q2 σ W1 k1 g1 _ P m1 fun y W2 m2 k2 s2 g2 => h y W2 m2 k2 (s1.trans s2) g2
theorem xt_not {M : Mp Bool} (h : XT X Γ a M) : XT X Γ (.UnaryOp .Not a pos) (fun P => M fun k => P (!k)) := by
  obtain ⟨t, p, q⟩ := h
  exact ⟨_, pt_not p, fun σ W k s Q P m h => q σ W k s _ _ m fun x W1 m1 k1 s1 g1 => h (!x) W1 m1 k1 s1 g1⟩
theorem xt_val {M : Mp Bool} (h : XP X Γ e M rBl) (he : ∀ whole, isTrue e X.env whole = (do let v ← whole; standAt e.pos; holding [v] (truthy v)) := by intro _; rfl) : XT X Γ e M := by
  obtain ⟨t, p, q⟩ := h
  exact ⟨_, pt_val p he, fun σ W k s Q P m h => q σ W k s _ P m fun x v W1 m1 k1 s1 g1 r1 => ⟨x, r1, h x W1 m1 k1 s1 g1⟩⟩
theorem xp_not {M : Mp Bool} (h : XP X Γ a M rBl) : XP X Γ (.UnaryOp .Not a pos) (fun P => M fun k => P (!k)) rBl := by
  obtain ⟨t, p, q⟩ := h
  exact ⟨_, pe_not p, fun σ W k s Q P m h => q σ W k s _ _ m fun x v W1 m1 k1 s1 g1 r1 => ⟨x, r1, h (!x) _ W1 m1 k1 s1 g1 rfl⟩⟩
theorem xp_one {op} {M : Mp α} {r : RT α} (h : XP X Γ a M r) : XP X Γ (.BoolOp op [a] pos) M r := let ⟨t, p, q⟩ := h; ⟨t, pe_one p, q⟩
theorem xp_and {M N : Mp Bool} {rest : List Expr} (h : XP X Γ a M rBl) (g : XP X Γ (.BoolOp .And (b :: rest) pos) N rBl) : XP X Γ (.BoolOp .And (a :: b :: rest) pos) (fun P => M fun k => if k = true then N P else P false) rBl := by
  obtain ⟨t, p, q⟩ := h
  obtain ⟨u, p2, q2⟩ := g
  refine ⟨_, pe_and p p2, fun σ W k s Q P m h => ?_⟩
  refine q σ W k s _ _ m fun x v W1 m1 k1 s1 g1 r1 => ⟨x, r1, ?_⟩
  cases x with
  | false => exact h false _ W1 m1 k1 s1 g1 rfl
  | true => exact q2 σ W1 k1 g1 _ P m1 fun y v W2 m2 k2 s2 g2 r2 => h y v W2 m2 k2 (s1.trans s2) g2 r2
theorem xp_or {M N : Mp Bool} {rest : List Expr} (h : XP X Γ a M rBl) (g : XP X Γ (.BoolOp .Or (b :: rest) pos) N rBl) : XP X Γ (.BoolOp .Or (a :: b :: rest) pos) (fun P => M fun k => if k = true then P true else N P) rBl := by
  obtain ⟨t, p, q⟩ := h
  obtain ⟨u, p2, q2⟩ := g
  refine ⟨_, pe_or p p2, fun σ W k s Q P m h => ?_⟩
  refine q σ W k s _ _ m fun x v W1 m1 k1 s1 g1 r1 => ⟨x, r1, ?_⟩
  cases x with
  | true => exact h true _ W1 m1 k1 s1 g1 rfl
  | false => exact q2 σ W1 k1 g1 _ P m1 fun y v W2 m2 k2 s2 g2 r2 => h y v W2 m2 k2 (s1.trans s2) g2 r2
theorem xp_if {C : Mp Bool} {M N : Mp α} {r : RT α} (hc : XT X Γ c C) (ha : XP X Γ a M r) (hb : XP X Γ b N r) : XP X Γ (.IfExp c a b pos) (fun P => C fun k => if k = true then M P else N P) r := by
  obtain ⟨t, p, q⟩ := hc
  obtain ⟨u, p2, q2⟩ := ha
  obtain ⟨w, p3, q3⟩ := hb
  refine ⟨_, pe_ifExp p p2 p3, fun σ W k s Q P m h => ?_⟩
  refine q σ W k s _ _ m fun x W1 m1 k1 s1 g1 => ?_
  cases x with
  | true => exact q2 σ W1 k1 g1 _ P m1 fun y v W2 m2 k2 s2 g2 r2 => h y v W2 m2 k2 (s1.trans s2) g2 r2
  | false => exact q3 σ W1 k1 g1 _ P m1 fun y v W2 m2 k2 s2 g2 r2 => h y v W2 m2 k2 (s1.trans s2) g2 r2
theorem xp_un {op : UnaryOp} {r : V → Hp → VK → Prop} {M : Mp α} {ra : RT α} {rb : RT β} {f : α → β} (ho : UnR X (unaryOp op) r) (hr : ∀ v x H (Q : VK), ra.ok H v x → (∀ w, (∀ H', rb.ok H' w (f x)) → Q w H) → r v H Q) (hm : ∀ H v x, ra.ok H v x → ∀ H', ra.ok H' v x) (ha : XP X Γ a M ra) :
    XP X Γ (.UnaryOp op a pos) (fun P => M fun x => P (f x)) rb := by
  obtain ⟨t, p, q⟩ := ha
  refine ⟨_, pe_un ho p, fun σ W k s Q P m h => q σ W k s _ _ m fun x v W1 m1 k1 s1 g1 r1 => ?_⟩
  exact hr v x W1.H Q (hm _ _ _ r1 W1.H) fun w hw => h (f x) w W1 m1 k1 s1 g1 (hw _)
theorem xp_neg {M : Mp Int} (ha : XP X Γ a M rInt) : XP X Γ (.UnaryOp .USub a pos) (fun P => M fun x => P (-x)) rInt := xp_un un_neg (fun v x H Q r h => ⟨x, r, h _ fun _ => rfl⟩) (fun _ _ _ h _ => h) ha
/-! tuples and lists -/
theorem xp_tup {es : List Expr} {x1} {M : Mp τ} {R : RA τ} {r : RT α} {f : τ → α} (h : XA X Γ es M R) (hl : ∀ H vs x, R.ok H vs x → vs.length ≤ 1000) (hf : ∀ H p vs x, R.ok H vs x → H p = some (.tup vs) → r.ok H (.ref p) (f x)) : XP X Γ (.Tuple es x1 pos) (fun P => M fun x => P (f x)) r := by
  obtain ⟨t, p, q⟩ := h
  refine ⟨_, pe_tup p, fun σ W k s Q P m h => q σ W k s _ _ m fun x vs W1 m1 k1 s1 g1 r1 => ?_⟩
  refine ⟨Nat.le_trans (hl _ _ _ r1) (by decide), fun u nu => ?_⟩
  have g := grow_add (o := .tup vs) k1 nu
  exact h (f x) (.ref u) (W1.add u (.tup vs)) m1 (k1.add nu) (s1.trans g.step) (g1.up (g.up k1)) (hf _ _ vs x (R.mono g.hc r1) upd_same)
theorem rac_len {r : RT α} {R : RA τ} {n : Nat} (h : ∀ H vs x, R.ok H vs x → vs.length ≤ n) : ∀ H vs x, (rac r R).ok H vs x → vs.length ≤ n + 1 := fun H vs x ⟨v, ws, e, _, k⟩ => by
  subst e
  exact Nat.succ_le_succ (h H ws _ k)
theorem ra0_len : ∀ H vs x, ra0.ok H vs x → vs.length ≤ 0 := fun _ vs _ e => by
  have e : vs = [] := e
  rw [e]; exact Nat.le_refl _
/-- (a, b) -/
theorem xp_tup2 {x1} {Ma : Mp α} {Mb : Mp β} {ra : RT α} {rb : RT β} (ha : XP X Γ a Ma ra) (hb : XP X Γ b Mb rb) (h1 : starEach [a, b] X.env = (false, eval a X.env) :: starEach [b] X.env := by rfl) (h2 : starEach [b] X.env = (false, eval b X.env) :: starEach [] X.env := by rfl) :
    XP X Γ (.Tuple [a, b] x1 pos) (fun P => Ma fun x => Mb fun y => P (x, y)) (rP ra rb) :=
  xp_tup (f := fun z : α × β × Unit => (z.1, z.2.1)) (xa_cons ha (xa_cons hb xa_nil h2) h1) (fun H vs x h => Nat.le_trans (rac_len (rac_len ra0_len) H vs x h) (by decide)) fun H p vs x ⟨v, ws, e, k1, v2, ws2, e2, k2, e3⟩ hp => by
    subst e e2
    have e3 : ws2 = [] := e3
    subst e3
    exact ⟨p, v, v2, rfl, hp, k1, k2⟩
theorem xp_tup3 {x1} {Ma : Mp α} {Mb : Mp β} {Mc : Mp γ} {ra : RT α} {rb : RT β} {rc : RT γ} (ha : XP X Γ a Ma ra) (hb : XP X Γ b Mb rb) (hc : XP X Γ c Mc rc) (h1 : starEach [a, b, c] X.env = (false, eval a X.env) :: starEach [b, c] X.env := by rfl) (h2 : starEach [b, c] X.env = (false, eval b X.env) :: starEach [c] X.env := by rfl) (h3 : starEach [c] X.env = (false, eval c X.env) :: starEach [] X.env := by rfl) :
    XP X Γ (.Tuple [a, b, c] x1 pos) (fun P => Ma fun x => Mb fun y => Mc fun z => P (x, y, z)) (rP3 ra rb rc) :=
  xp_tup (f := fun z : α × β × γ × Unit => (z.1, z.2.1, z.2.2.1)) (xa_cons ha (xa_cons hb (xa_cons hc xa_nil h3) h2) h1) (fun H vs x h => Nat.le_trans (rac_len (rac_len (rac_len ra0_len)) H vs x h) (by decide)) fun H p vs x ⟨v, ws, e, k1, v2, ws2, e2, k2, v3, ws3, e3, k3, e4⟩ hp => by
    subst e e2 e3
    have e4 : ws3 = [] := e4
    subst e4
    exact ⟨p, v, v2, v3, rfl, hp, k1, k2, k3⟩
/-- an argument list of one kind -/
def XH (X : Cx) (Γ : List SP) (es : List Expr) (M : Mp (List α)) (r : RT α) : Prop := ∃ t, PA X es t ∧ ∀ (σ : St) (W : Wd), W.Ok → Sat Γ σ W → ∀ (Q : List V → Hp → Prop) (P : List α → Prop), M P → (∀ x v W', P x → W'.Ok → Step W W' → Sat Γ σ W' → Paired (r.ok W'.Hc) v x ∧ v.length = es.length → Q v W'.H) → t σ W.H Q
theorem xh_nil {r : RT α} : XH X Γ [] (fun P => P []) r := ⟨_, pa_nil, fun σ W k s Q P m h => h [] [] W m k (Step.refl W) s ⟨.nil, rfl⟩⟩
theorem xh_cons {es : List Expr} {M : Mp α} {N : Mp (List α)} {r : RT α} (ha : XP X Γ e M r) (hr : XH X Γ es N r) (hs : starEach (e :: es) X.env = (false, eval e X.env) :: starEach es X.env := by rfl) : XH X Γ (e :: es) (fun P => M fun x => N fun y => P (x :: y)) r := by
  obtain ⟨t, p, q⟩ := ha
  obtain ⟨u, p2, q2⟩ := hr
  refine ⟨_, pa_cons p p2 hs, fun σ W k s Q P m h => ?_⟩
  refine q σ W k s _ _ m fun x v W1 m1 k1 s1 g1 r1 => ?_
  refine q2 σ W1 k1 g1 _ _ m1 fun y ws W2 m2 k2 s2 g2 r2 => ?_
  exact h (x :: y) (v :: ws) W2 m2 k2 (s1.trans s2) g2 ⟨.cons (r.mono s2.hc r1) r2.1, congrArg (· + 1) r2.2⟩
theorem xn_lst {es : List Expr} {M : Mp (List α)} {r : RT α} (h : XH X Γ es M r) (hl : es.length ≤ 1000 := by decide) : XN X Γ (.List es pos) M r := by
  obtain ⟨t, p, q⟩ := h
  refine ⟨_, pe_lst p, fun σ W k s Q P m h => q σ W k s _ _ m fun x vs W1 m1 k1 s1 g1 r1 => ?_⟩
  refine ⟨Nat.le_trans (by rw [r1.2]; exact hl) (by decide), fun u nu => ?_⟩
  have g := grow_lay (W := W1) (o := .lst vs) nu
  have n0 : W.H u = none := by
    cases e : W.H u with
    | none => rfl
    | some o => exact absurd nu (s1.dom u (ne_none_of e))
  exact h x u vs (W1.lay u (.lst vs)) m1 (k1.lay nu) (s1.trans g.step) (g1.up (g.up k1)) n0 (k1.none_of nu) (k1.free nu) upd_same r1.1
/-- a tuple of things of one kind -/
theorem xp_tupH {es : List Expr} {x1} {M : Mp (List α)} {r : RT α} (h : XH X Γ es M r) (hl : es.length ≤ 1000 := by decide) : XP X Γ (.Tuple es x1 pos) M (rT r) := by
  obtain ⟨t, p, q⟩ := h
  refine ⟨_, pe_tup p, fun σ W k s Q P m h => q σ W k s _ _ m fun x vs W1 m1 k1 s1 g1 r1 => ?_⟩
  refine ⟨Nat.le_trans (by rw [r1.2]; exact hl) (by decide), fun u nu => ?_⟩
  have g := grow_add (o := .tup vs) k1 nu
  exact h x (.ref u) (W1.add u (.tup vs)) m1 (k1.add nu) (s1.trans g.step) (g1.up (g.up k1)) ⟨u, vs, rfl, upd_same, pmap r1.1 fun _ _ => r.mono g.hc⟩
end
end TM
set_option Elab.async false
set_option linter.all false
set_option maxRecDepth 100000
namespace TM
open PySem PySem.Spec PyProof.Rows L2
section
variable {α β γ δ τ : Type} {K : PySem.W.Frag}
/-! ### operators on numbers -/
theorem os_I0 {g : Int → Int → V} {h : Int → Int → γ} {rc : RT γ} (hr : ∀ H i j, rc.ok H (g i j) (h i j)) : OpS (rI0 g) rInt rInt rc (fun i j P => P (h i j)) := fun W k v x u y e1 e2 Q P m q =>
  ⟨x, y, e1, e2, q (h x y) _ W m k (Grow.refl W) (hr _ _ _)⟩
theorem os_I {C : Int → Int → Prop} {g : Int → Int → V} {h : Int → Int → γ} {rc : RT γ} (hr : ∀ H i j, rc.ok H (g i j) (h i j)) : OpS (rI C g) rInt rInt rc (fun i j P => C i j ∧ P (h i j)) := fun W k v x u y e1 e2 Q P m q =>
  ⟨x, y, e1, e2, m.1, q (h x y) _ W m.2 k (Grow.refl W) (hr _ _ _)⟩
theorem os_add : OpS (rI0 fun i j => .int (i + j)) rInt rInt rInt (fun i j P => P (i + j)) := os_I0 fun _ _ _ => rfl
theorem os_sub : OpS (rI0 fun i j => .int (i - j)) rInt rInt rInt (fun i j P => P (i - j)) := os_I0 fun _ _ _ => rfl
theorem os_mul : OpS (rI CMulX fun i j => .int (i * j)) rInt rInt rInt (fun i j P => CMulX i j ∧ P (i * j)) := os_I fun _ _ _ => rfl
theorem os_div : OpS (rI CDiv fun i j => .int (i / j)) rInt rInt rInt (fun i j P => CDiv i j ∧ P (i / j)) := os_I fun _ _ _ => rfl
theorem os_mod : OpS (rI (fun _ j => 0 < j) fun i j => .int (i % j)) rInt rInt rInt (fun i j P => 0 < j ∧ P (i % j)) := os_I fun _ _ _ => rfl
theorem os_lt : OpS (rI0 fun i j => .bl (decide (i < j))) rInt rInt rBl (fun i j P => P (decide (i < j))) := os_I0 fun _ _ _ => rfl
theorem os_le : OpS (rI0 fun i j => .bl (decide (i ≤ j))) rInt rInt rBl (fun i j P => P (decide (i ≤ j))) := os_I0 fun _ _ _ => rfl
theorem os_gt : OpS (rI0 fun i j => .bl (decide (j < i))) rInt rInt rBl (fun i j P => P (decide (j < i))) := os_I0 fun _ _ _ => rfl
theorem os_ge : OpS (rI0 fun i j => .bl (decide (j ≤ i))) rInt rInt rBl (fun i j P => P (decide (j ≤ i))) := os_I0 fun _ _ _ => rfl
/-- kinds that are a value alone -/
structure Flat (r : RT α) where
  f : α → V
  ok : ∀ H v x, r.ok H v x ↔ v = f x
  inj : ∀ x y, f x = f y → x = y
  scal : ∀ x y, scal (f x) (f y) = true
  flat : ∀ x, flatV (f x) = true
  inv : ∀ x y, eqV (f x) (f y) = decide (f x = f y)

def fInt : Flat rInt := ⟨V.int, fun _ _ _ => Iff.rfl, fun _ _ h => V.int.inj h, fun _ _ => rfl, fun _ => rfl, fun x y => by
  show (x == y) = _
  by_cases h : x = y
  · subst h; simp
  · have : ¬ V.int x = V.int y := fun e => h (V.int.inj e)
    rw [decide_eq_false this]; simpa using h⟩
def fStr : Flat rStr := ⟨V.str, fun _ _ _ => Iff.rfl, fun _ _ h => V.str.inj h, fun _ _ => rfl, fun _ => rfl, fun x y => by
  show (x == y) = _
  by_cases h : x = y
  · subst h; simp
  · have : ¬ V.str x = V.str y := fun e => h (V.str.inj e)
    rw [decide_eq_false this]; simpa using h⟩
def fBl : Flat rBl := ⟨V.bl, fun _ _ _ => Iff.rfl, fun _ _ h => V.bl.inj h, fun _ _ => rfl, fun _ => rfl, fun x y => by cases x <;> cases y <;> rfl⟩
theorem Flat.dec {r : RT α} [DecidableEq α] (F : Flat r) (x y : α) : decide (F.f x = F.f y) = decide (x = y) := by
  by_cases h : x = y
  · subst h; simp
  · rw [decide_eq_false h, decide_eq_false fun e => h (F.inj _ _ e)]
theorem os_eq {r : RT α} [DecidableEq α] (F : Flat r) : OpS rEq r r rBl (fun i j P => P (decide (i = j))) := fun W k v x u y e1 e2 Q P m q => by
  have e1 := (F.ok _ _ _).mp e1
  have e2 := (F.ok _ _ _).mp e2
  subst e1 e2
  exact ⟨F.scal _ _, q _ _ W m k (Grow.refl W) (by rw [F.dec])⟩
theorem os_ne {r : RT α} [DecidableEq α] (F : Flat r) : OpS rNe r r rBl (fun i j P => P (!decide (i = j))) := fun W k v x u y e1 e2 Q P m q => by
  have e1 := (F.ok _ _ _).mp e1
  have e2 := (F.ok _ _ _).mp e2
  subst e1 e2
  exact ⟨F.scal _ _, q _ _ W m k (Grow.refl W) (by rw [F.dec])⟩
theorem os_isN {r : RT α} (hn : ∀ H x, ¬ r.ok H .non x) : OpS rIsN (rO r) rNon rBl (fun o _ P => P o.isNone) := fun W k v x u y e1 e2 Q P m q => by
  refine ⟨e2, q _ _ W m k (Grow.refl W) ?_⟩
  cases x with
  | none => have e1 : v = .non := e1; subst e1; rfl
  | some x => have e1 : v ≠ .non ∧ _ := e1; show V.bl _ = V.bl _; rw [decide_eq_false e1.1]; rfl
theorem os_notN {r : RT α} (hn : ∀ H x, ¬ r.ok H .non x) : OpS rNotN (rO r) rNon rBl (fun o _ P => P o.isSome) := fun W k v x u y e1 e2 Q P m q => by
  refine ⟨e2, q _ _ W m k (Grow.refl W) ?_⟩
  cases x with
  | none => have e1 : v = .non := e1; subst e1; rfl
  | some x => have e1 : v ≠ .non ∧ _ := e1; show V.bl _ = V.bl _; rw [decide_eq_false e1.1]; rfl
theorem os_isB : OpS rIsB rBl rBl rBl (fun i j P => P (decide (i = j))) := fun W k v x u y e1 e2 Q P m q => ⟨x, y, e1, e2, q _ _ W m k (Grow.refl W) rfl⟩
theorem os_notB : OpS rNotB rBl rBl rBl (fun i j P => P (!decide (i = j))) := fun W k v x u y e1 e2 Q P m q => ⟨x, y, e1, e2, q _ _ W m k (Grow.refl W) rfl⟩
/-! texts -/
theorem os_addS : OpS (fun x y H Q => ∃ i j, x = .str i ∧ y = .str j ∧ i.length + j.length ≤ sizeLine ∧ Q (.str (i ++ j)) H) rStr rStr rStr (fun i j P => i.length + j.length ≤ sizeLine ∧ P (i ++ j)) := fun W k v x u y e1 e2 Q P m q =>
  ⟨x, y, e1, e2, m.1, q _ _ W m.2 k (Grow.refl W) rfl⟩
/-- one sign in a text -/
abbrev rSign : RT Nat := ⟨fun _ v c => v = .str ⟨#[c]⟩, fun _ h => h⟩
theorem os_inSign : OpS rInS rSign rStr rBl (fun c z P => P (decide (c ∈ z.cps.toList))) := fun W k v x u y e1 e2 Q P m q => ⟨x, y, e1, e2, q _ _ W m k (Grow.refl W) rfl⟩
theorem os_notInSign : OpS rNotInS rSign rStr rBl (fun c z P => P (!decide (c ∈ z.cps.toList))) := fun W k v x u y e1 e2 Q P m q => ⟨x, y, e1, e2, q _ _ W m k (Grow.refl W) rfl⟩
theorem os_ixS : OpS rIxS rStr rInt rStr (fun z i P => z.length ≤ sizeLine ∧ ∃ c, atI z.cps.toList i = some c ∧ P ⟨#[c]⟩) := fun W k v x u y e1 e2 Q P ⟨m1, c, m2, m3⟩ q => ⟨x, y, c, e1, e2, m1, m2, q _ _ W m3 k (Grow.refl W) rfl⟩
/-! tuples -/
theorem paired_at {F : α → β → Prop} : ∀ {xs : List α} {ys : List β} {j : Nat} {y : β}, Paired F xs ys → ys[j]? = some y → ∃ x, xs[j]? = some x ∧ F x y
  | _, _, _, _, .nil, h => by simp at h
  | _, _, 0, _, .cons r _, h => by
    simp at h; subst h; exact ⟨_, rfl, r⟩
  | _, _, j + 1, y, .cons _ t, h => by
    obtain ⟨x, e, r⟩ := paired_at (j := j) t (by simpa using h)
    exact ⟨x, by simpa using e, r⟩
theorem paired_atI {F : α → β → Prop} {xs : List α} {ys : List β} {i : Int} {y : β} (p : Paired F xs ys) (h : atI ys i = some y) : ∃ x, atI xs i = some x ∧ F x y := by
  unfold atI at h ⊢
  rw [p.length]
  cases e : ixN ys.length i with
  | none => rw [e] at h; cases h
  | some j =>
    rw [e] at h
    exact paired_at p h
theorem os_ixT {r : RT α} : OpS (rIxT K) (rT r) rInt r (fun xs i P => ∃ y, atI xs i = some y ∧ P y) := fun W k v x u y ⟨a, vs, e1, h1, p⟩ e2 Q P ⟨z, m1, m2⟩ q => by
  obtain ⟨w, hw, rw'⟩ := paired_atI p m1
  exact ⟨a, vs, y, w, e1, e2, sqt_of (k.ex _ _ h1), hw, q z w W m2 k (Grow.refl W) rw'⟩
theorem os_ix0 {ra : RT α} {rb : RT β} : OpS (rIxT K) (rP ra rb) rInt ra (fun p i P => i = 0 ∧ P p.1) := fun W k v x u y ⟨a, v1, v2, e1, h1, r1, r2⟩ e2 Q P ⟨m1, m2⟩ q => by
  subst m1
  exact ⟨a, [v1, v2], 0, v1, e1, e2, sqt_of (k.ex _ _ h1), rfl, q _ v1 W m2 k (Grow.refl W) r1⟩
theorem os_ix1 {ra : RT α} {rb : RT β} : OpS (rIxT K) (rP ra rb) rInt rb (fun p i P => i = 1 ∧ P p.2) := fun W k v x u y ⟨a, v1, v2, e1, h1, r1, r2⟩ e2 Q P ⟨m1, m2⟩ q => by
  subst m1
  exact ⟨a, [v1, v2], 1, v2, e1, e2, sqt_of (k.ex _ _ h1), rfl, q _ v2 W m2 k (Grow.refl W) r2⟩
theorem os_ix30 {ra : RT α} {rb : RT β} {rc : RT γ} : OpS (rIxT K) (rP3 ra rb rc) rInt ra (fun p i P => i = 0 ∧ P p.1) := fun W k v x u y ⟨a, v1, v2, v3, e1, h1, r1, r2, r3⟩ e2 Q P ⟨m1, m2⟩ q => by
  subst m1
  exact ⟨a, [v1, v2, v3], 0, v1, e1, e2, sqt_of (k.ex _ _ h1), rfl, q _ v1 W m2 k (Grow.refl W) r1⟩
theorem os_ix31 {ra : RT α} {rb : RT β} {rc : RT γ} : OpS (rIxT K) (rP3 ra rb rc) rInt rb (fun p i P => i = 1 ∧ P p.2.1) := fun W k v x u y ⟨a, v1, v2, v3, e1, h1, r1, r2, r3⟩ e2 Q P ⟨m1, m2⟩ q => by
  subst m1
  exact ⟨a, [v1, v2, v3], 1, v2, e1, e2, sqt_of (k.ex _ _ h1), rfl, q _ v2 W m2 k (Grow.refl W) r2⟩
theorem os_ix32 {ra : RT α} {rb : RT β} {rc : RT γ} : OpS (rIxT K) (rP3 ra rb rc) rInt rc (fun p i P => i = 2 ∧ P p.2.2) := fun W k v x u y ⟨a, v1, v2, v3, e1, h1, r1, r2, r3⟩ e2 Q P ⟨m1, m2⟩ q => by
  subst m1
  exact ⟨a, [v1, v2, v3], 2, v3, e1, e2, sqt_of (k.ex _ _ h1), rfl, q _ v3 W m2 k (Grow.refl W) r3⟩
theorem paired_app {F : α → β → Prop} : ∀ {xs xs' : List α} {ys ys' : List β}, Paired F xs ys → Paired F xs' ys' → Paired F (xs ++ xs') (ys ++ ys')
  | _, _, _, _, .nil, q => q
  | _, _, _, _, .cons r t, q => .cons r (paired_app t q)
/-- t + u -/
def CatOk (x y : List α) : Prop := x ≠ [] ∧ x.length + y.length ≤ sizeLine
end
section
variable {X : Cx} {Γ : List SP} {α β γ δ τ : Type} {e a b c : Expr} {pos : Pos}
/-! ### a list that is read where it stands: clean, one's own, or new -/
def rBk (r : RT α) (W : Wd) (v : V) (xs : List α) : Prop := ∃ a vs, v = .ref a ∧ W.H a = some (.lst vs) ∧ Paired (r.ok W.Hc) vs xs
def XB (X : Cx) (Γ : List SP) (e : Expr) (M : Mp (List α)) (r : RT α) : Prop :=
  ∃ t, PE X e t ∧ ∀ (σ : St) (W : Wd), W.Ok → Sat Γ σ W → ∀ (Q : VK) (P : List α → Prop), M P →
    (∀ xs v W', P xs → W'.Ok → Step W W' → Sat Γ σ W' → (∀ W2 : Wd, W2.Ok → Step W' W2 → Sat Γ σ W2 → rBk r W2 v xs) → Q v W'.H) → t σ W.H Q
theorem xb_cl {M : Mp (List α)} {r : RT α} (h : XP X Γ e M (rL r)) : XB X Γ e M r := by
  obtain ⟨t, p, q⟩ := h
  refine ⟨t, p, fun σ W k s Q P m h => q σ W k s Q P m fun x v W1 m1 k1 s1 g1 ⟨a, vs, e, hh, pr⟩ => h x v W1 m1 k1 s1 g1 fun W2 k2 s2 _ => ?_⟩
  exact ⟨a, vs, e, k2.ex _ _ (s2.hc _ _ hh), pmap pr fun _ _ => r.mono s2.hc⟩
theorem xb_new {M : Mp (List α)} {r : RT α} (h : XN X Γ e M r) : XB X Γ e M r := by
  obtain ⟨t, p, q⟩ := h
  refine ⟨t, p, fun σ W k s Q P m h => q σ W k s Q P m fun x u vs W1 m1 k1 s1 g1 n nc no hh pr => h x (.ref u) W1 m1 k1 s1 g1 fun W2 k2 s2 _ => ?_⟩
  exact ⟨u, vs, rfl, s2.keep _ _ hh no, pmap pr fun _ _ => r.mono s2.hc⟩
theorem xb_own (i : Nat) {x : Str} {r : RT α} {xs : List α} (h : look Γ i = .own r xs) (hN : X.N[i]? = some x := by rfl) (hv : Vis X.env.scope x := by first | exact Or.inl rfl | exact Or.inr (Or.inl rfl) | exact Or.inr (Or.inr rfl)) (hd : (x == ("__debug__" : Str)) = false := by decide) (hcd : (x == ("__classdict__" : Str)) = false := by decide) :
    XB X Γ (.Name x pos) (fun P => P xs) r := by
  refine ⟨_, pe_var hN hv hd hcd, fun σ W k s Q P m q => ?_⟩
  obtain ⟨o, e, a, vs, rfl, n, ho, hh, pr⟩ := s.look h (by simp)
  refine ⟨.ref a, e, q xs (.ref a) W m k (Step.refl W) s fun W2 k2 s2 g2 => ?_⟩
  obtain ⟨o', e', a', vs', rfl, n', ho', hh', pr'⟩ := g2.look h (by simp)
  rw [e] at e'
  cases e'
  exact ⟨a, vs', rfl, hh', pr'⟩
theorem xb_ownA (i : Nat) {x : Str} {r : RT α} {xs : List α} {a : Addr} (h : look Γ i = .ownA a r xs) (hN : X.N[i]? = some x := by rfl) (hv : Vis X.env.scope x := by first | exact Or.inl rfl | exact Or.inr (Or.inl rfl) | exact Or.inr (Or.inr rfl)) (hd : (x == ("__debug__" : Str)) = false := by decide) (hcd : (x == ("__classdict__" : Str)) = false := by decide) :
    XB X Γ (.Name x pos) (fun P => P xs) r := by
  refine ⟨_, pe_var hN hv hd hcd, fun σ W k s Q P m q => ?_⟩
  obtain ⟨o, e, vs, rfl, ho, hh, pr⟩ := s.look h (by simp)
  refine ⟨.ref a, e, q xs (.ref a) W m k (Step.refl W) s fun W2 k2 s2 g2 => ?_⟩
  obtain ⟨o', e', vs', rfl, ho', hh', pr'⟩ := g2.look h (by simp)
  exact ⟨a, vs', rfl, hh', pr'⟩
/-- xs[i] -/
theorem xp_ixL {M : Mp (List α)} {N : Mp Int} {r : RT α} (ha : XB X Γ a M r) (hb : XP X Γ b N rInt) (hs : PlainIx b := by exact fun _ _ => rfl) : XP X Γ (.Subscript a b pos) (fun P => M fun xs => N fun i => ∃ y, atI xs i = some y ∧ P y) r := by
  obtain ⟨t, p, q⟩ := ha
  obtain ⟨u, p2, q2⟩ := hb
  refine ⟨_, pe_ix ix_list p p2 hs, fun σ W k s Q P m h => ?_⟩
  refine q σ W k s _ _ m fun xs v W1 m1 k1 s1 g1 r1 => ?_
  refine q2 σ W1 k1 g1 _ _ m1 fun i w W2 ⟨y, m2, m3⟩ k2 s2 g2 r2 => ?_
  obtain ⟨pa, vs, ev, hh, pr⟩ := r1 W2 k2 s2 g2
  obtain ⟨z, hz, rz⟩ := paired_atI pr m2
  exact ⟨pa, vs, i, z, ev, r2, sql_of hh, hz, h y z W2 m3 k2 (s1.trans s2) g2 rz⟩
/-- a call of a built-in by its arguments, one list -/
theorem xp_bltB {id : String} {x : Str} {p : Pos} {M : Mp (List α)} {G : List α → Mp γ} {r : RT α} {rc : RT γ} {rd : List V → Hp → VK → Prop} (hc : CallR X (.builtin id) rd)
    (hs : ∀ (W : Wd), W.Ok → ∀ v xs, rBk r W v xs → ∀ (Q : VK) (P : γ → Prop), G xs P → (∀ z w W', P z → W'.Ok → Grow W W' → rc.ok W'.Hc w z → Q w W'.H) → rd [v] W.H Q)
    (hm : X.mg x = none) (hv : bootBuiltins x = some (.builtin id)) (ha : XB X Γ e M r) (hg : Gl X x := by rfl) (hn : x ≠ "__name__" := by decide) (hdb : (x == ("__debug__" : Str)) = false := by decide) (h1 : starEach [e] X.env = (false, eval e X.env) :: starEach [] X.env := by rfl) :
    XP X Γ (.Call (.Name x p) [e] [] pos) (fun P => M fun xs => G xs P) rc := by
  obtain ⟨t, pp, q⟩ := ha
  refine ⟨_, pe_callB hc hg hm hv (pa_cons pp pa_nil h1) hn hdb h1, fun σ W k s Q P m h => ?_⟩
  refine q σ W k s _ _ m fun xs v W1 m1 k1 s1 g1 r1 => ?_
  exact hs W1 k1 v xs (r1 W1 k1 (Step.refl W1) g1) Q P m1 fun z w W2 m2 k2 g2 r2 => h z w W2 m2 k2 (s1.trans g2.step) (g1.up (g2.up k1)) r2
theorem xp_lenL {p : Pos} {M : Mp (List α)} {r : RT α} (hm : X.mg "len" = none) (ha : XB X Γ e M r) (hg : Gl X "len" := by rfl) (h1 : starEach [e] X.env = (false, eval e X.env) :: starEach [] X.env := by rfl) : XP X Γ (.Call (.Name "len" p) [e] [] pos) (fun P => M fun xs => P (xs.length : Int)) rInt :=
  xp_bltB call_len_seq (fun W k v xs ⟨a, vs, ev, hh, pr⟩ Q P m h => ⟨a, vs, by rw [ev], .inl (sql_of hh), h _ _ W m k (Grow.refl W) (by show V.int _ = V.int _; rw [pr.length])⟩) hm PySem.boot_len ha hg (by decide) (by decide) h1
end
end TM
set_option Elab.async false
set_option linter.all false
set_option maxRecDepth 100000
namespace TM
open PySem PySem.Spec PyProof.Rows L2
section
variable {X : Cx} {Γ : List SP} {α β γ δ τ : Type} {e a b c : Expr} {es : List Expr} {pos : Pos}
/-! ### built-ins by arguments -/
def CallS (rd : List V → Hp → VK → Prop) (R : RA τ) (rc : RT γ) (G : τ → Mp γ) : Prop :=
  ∀ W : Wd, W.Ok → ∀ vs x, R.ok W.Hc vs x → ∀ (Q : VK) (P : γ → Prop), G x P → (∀ z w W', P z → W'.Ok → Grow W W' → rc.ok W'.Hc w z → Q w W'.H) → rd vs W.H Q
theorem cb_core {rd : List V → Hp → VK → Prop} {R : RA τ} {rc : RT γ} {G : τ → Mp γ} {M : Mp τ} {t : TA} (hs : CallS rd R rc G)
    (q : ∀ (σ : St) (W : Wd), W.Ok → Sat Γ σ W → ∀ (Q : List V → Hp → Prop) (P : τ → Prop), M P → (∀ x v W', P x → W'.Ok → Step W W' → Sat Γ σ W' → R.ok W'.Hc v x → Q v W'.H) → t σ W.H Q) :
    ∀ (σ : St) (W : Wd), W.Ok → Sat Γ σ W → ∀ (Q : VK) (P : γ → Prop), M (fun x => G x P) → (∀ x v W', P x → W'.Ok → Step W W' → Sat Γ σ W' → rc.ok W'.Hc v x → Q v W'.H) → tCB rd t σ W.H Q := by
  intro σ W k s Q P m h
  refine q σ W k s _ _ m fun x v W1 m1 k1 s1 g1 r1 => ?_
  exact hs W1 k1 v x r1 Q P m1 fun z w W2 m2 k2 g2 r2 => h z w W2 m2 k2 (s1.trans g2.step) (g1.up (g2.up k1)) r2
theorem xp_blt {id : String} {x : Str} {p : Pos} {rd : List V → Hp → VK → Prop} {R : RA τ} {rc : RT γ} {G : τ → Mp γ} {M : Mp τ} (hc : CallR X (.builtin id) rd) (hs : CallS rd R rc G) (hv : bootBuiltins x = some (.builtin id)) (hm : X.mg x = none) (ha : XA X Γ (e :: es) M R)
    (hg : Gl X x := by rfl) (hn : x ≠ "__name__" := by decide) (hdb : (x == ("__debug__" : Str)) = false := by decide)
    (he : starEach (e :: es) X.env = (false, eval e X.env) :: starEach es X.env := by rfl) (hpl : (backTo pos (starEach es X.env)).any (·.1) = false := by rfl) :
    XP X Γ (.Call (.Name x p) (e :: es) [] pos) (fun P => M fun x => G x P) rc := by
  obtain ⟨t, pp, q⟩ := ha
  exact ⟨_, pe_callB hc hg hm hv pp hn hdb he hpl, cb_core hs q⟩
theorem xp_ty {T : String} {x : Str} {p : Pos} {rd : List V → Hp → VK → Prop} {R : RA τ} {rc : RT γ} {G : τ → Mp γ} {M : Mp τ} (hc : CallR X (.type T) rd) (hs : CallS rd R rc G) (hv : bootBuiltins x = some (.type T)) (hm : X.mg x = none) (ha : XA X Γ (e :: es) M R)
    (hg : Gl X x := by rfl) (hn : x ≠ "__name__" := by decide) (hdb : (x == ("__debug__" : Str)) = false := by decide)
    (he : starEach (e :: es) X.env = (false, eval e X.env) :: starEach es X.env := by rfl) (hpl : (backTo pos (starEach es X.env)).any (·.1) = false := by rfl) :
    XP X Γ (.Call (.Name x p) (e :: es) [] pos) (fun P => M fun x => G x P) rc := by
  obtain ⟨t, pp, q⟩ := ha
  exact ⟨_, pe_callTy hc hg hm hv pp hn hdb he hpl, cb_core hs q⟩
theorem cs_abs : CallS (fun xs H Q => ∃ i, xs = [.int i] ∧ Q (.int (if i < 0 then -i else i)) H) (rac rInt ra0) rInt (fun x P => P (if x.1 < 0 then -x.1 else x.1)) := fun W k vs x ⟨v, ws, e, h1, h2⟩ Q P m h => by
  have h1 : v = .int x.1 := h1
  have h2 : ws = [] := h2
  subst e h1 h2
  exact ⟨x.1, rfl, h _ _ W m k (Grow.refl W) rfl⟩
theorem cs_max2 : CallS (fun xs H Q => ∃ i j, xs = [.int i, .int j] ∧ Q (.int (if j > i then j else i)) H) (rac rInt (rac rInt ra0)) rInt (fun x P => P (if x.2.1 > x.1 then x.2.1 else x.1)) := fun W k vs x ⟨v, ws, e, h1, v2, ws2, e2, h2, h3⟩ Q P m h => by
  have h1 : v = .int x.1 := h1
  have h2 : v2 = .int x.2.1 := h2
  have h3 : ws2 = [] := h3
  subst e e2 h1 h2 h3
  exact ⟨x.1, x.2.1, rfl, h _ _ W m k (Grow.refl W) rfl⟩
theorem cs_min2 : CallS (fun xs H Q => ∃ i j, xs = [.int i, .int j] ∧ Q (.int (if j < i then j else i)) H) (rac rInt (rac rInt ra0)) rInt (fun x P => P (if x.2.1 < x.1 then x.2.1 else x.1)) := fun W k vs x ⟨v, ws, e, h1, v2, ws2, e2, h2, h3⟩ Q P m h => by
  have h1 : v = .int x.1 := h1
  have h2 : v2 = .int x.2.1 := h2
  have h3 : ws2 = [] := h3
  subst e e2 h1 h2 h3
  exact ⟨x.1, x.2.1, rfl, h _ _ W m k (Grow.refl W) rfl⟩
theorem cs_intB : CallS (fun xs H Q => (∃ i, xs = [.int i] ∧ Q (.int i) H) ∨ ∃ k, xs = [.bl k] ∧ Q (.int (if k then 1 else 0)) H) (rac rBl ra0) rInt (fun x P => P (if x.1 then 1 else 0)) := fun W k vs x ⟨v, ws, e, h1, h2⟩ Q P m h => by
  have h1 : v = .bl x.1 := h1
  have h2 : ws = [] := h2
  subst e h1 h2
  exact .inr ⟨x.1, rfl, h _ _ W m k (Grow.refl W) rfl⟩
theorem cs_lenS : CallS (fun xs H Q => ∃ z, xs = [.str z] ∧ z.length ≤ sizeLine ∧ Q (.int z.length) H) (rac rStr ra0) rInt (fun x P => x.1.length ≤ sizeLine ∧ P (x.1.length : Int)) := fun W k vs x ⟨v, ws, e, h1, h2⟩ Q P m h => by
  have h1 : v = .str x.1 := h1
  have h2 : ws = [] := h2
  subst e h1 h2
  exact ⟨x.1, rfl, m.1, h _ _ W m.2 k (Grow.refl W) rfl⟩
theorem cs_lenT {K : PySem.W.Frag} {r : RT α} : CallS (fun xs H Q => ∃ p ys, xs = [.ref p] ∧ (SqL K H p ys ∨ SqT K H p ys) ∧ Q (.int ys.length) H) (rac (rT r) ra0) rInt (fun x P => P (x.1.length : Int)) := fun W k vs x ⟨v, ws, e, ⟨p, ys, ev, hh, pr⟩, h2⟩ Q P m h => by
  have h2 : ws = [] := h2
  subst e ev h2
  exact ⟨p, ys, rfl, .inr (sqt_of (k.ex _ _ hh)), h _ _ W m k (Grow.refl W) (by show V.int _ = V.int _; rw [pr.length])⟩
theorem cs_lenK {K : PySem.W.Frag} : CallS (fun xs H Q => ∃ p ys, xs = [.ref p] ∧ (SqL K H p ys ∨ SqT K H p ys) ∧ Q (.int ys.length) H) (rac (rLK K) ra0) rInt (fun x P => P (x.1.length : Int)) := fun W k vs x ⟨v, ws, e, ⟨p, ev, hh⟩, h2⟩ Q P m h => by
  have h2 : ws = [] := h2
  subst e ev h2
  exact ⟨p, _, rfl, .inl (ex_sql k.ex hh), h _ _ W m k (Grow.refl W) (by show V.int _ = V.int _; rw [List.length_map])⟩
theorem cs_divmod : CallS (fun xs H Q => ∃ i j, xs = [.int i, .int j] ∧ CDivP i j ∧ ∀ p, H p = none → Q (.ref p) (upd H p (.tup [.int (i / j), .int (i % j)]))) (rac rInt (rac rInt ra0)) (rP rInt rInt) (fun x P => CDivP x.1 x.2.1 ∧ P (x.1 / x.2.1, x.1 % x.2.1)) := fun W k vs x ⟨v, ws, e, h1, v2, ws2, e2, h2, h3⟩ Q P m h => by
  have h1 : v = .int x.1 := h1
  have h2 : v2 = .int x.2.1 := h2
  have h3 : ws2 = [] := h3
  subst e e2 h1 h2 h3
  exact ⟨x.1, x.2.1, rfl, m.1, fun p hp => h _ _ (W.add p _) m.2 (k.add hp) (grow_add k hp) ⟨p, _, _, rfl, upd_same, rfl, rfl⟩⟩
/-! ### one's own defs -/
/-- slots of clean arguments -/
structure RS (τ : Type) extends RA τ where
  sps : τ → List SP
  sat : ∀ {W : Wd} {vs : List V} {x : τ} (i : Nat), ok W.Hc vs x → SatL i (sps x) (vs.map some) W
def rs0 : RS Unit := ⟨ra0, fun _ => [], fun {W vs x} i h => by
  have h : vs = [] := h
  subst h; trivial⟩
def rsc (r : RT α) (R : RS τ) : RS (α × τ) := ⟨rac r R.toRA, fun x => .cl r x.1 :: R.sps x.2, fun {W vs x} i ⟨v, ws, e, h1, h2⟩ => by
  subst e
  exact ⟨⟨v, rfl, h1⟩, R.sat (i + 1) h2⟩⟩
abbrev RRt (β : Type) := β → V → Wd → Prop
abbrev rrc (r : RT β) : RRt β := fun b v W => r.ok W.Hc v b
/-- a new list -/
abbrev rrn (r : RT β) : RRt (List β) := fun xs v W => ∃ p vs, v = .ref p ∧ W.B p = none ∧ W.Hc p = none ∧ W.H p = some (.lst vs) ∧ Paired (r.ok W.Hc) vs xs
def spC (sps : τ → List SP) (F : τ → Mp β) (RR : RRt β) : Sp := fun vs H Q _ => ∃ (x : τ) (W : Wd) (P : β → Prop), W.H = H ∧ W.B = H ∧ W.Ok ∧ (∀ a, W.O a = none) ∧ SatL 0 (sps x) (vs.map some) W ∧ F x P ∧ ∀ b v W', P b → W'.Ok → Step W W' → RR b v W' → Q v W'.H
/-- the law's box ahead of clean arguments -/
def spB (sps : τ → List SP) (F : τ → Mp β) (RR : RRt β) : Sp := fun vs H Q _ => ∃ (a : Addr) (ws : List V) (x : τ) (W : Wd) (P : β → Prop), vs = .ref a :: ws ∧ W.H = H ∧ W.B = H ∧ W.Ok ∧ (∀ b, W.O b = if b = a then some 0 else none) ∧ BoxIs (W.H a) ∧ SatL 1 (sps x) (ws.map some) W ∧ F x P ∧
  ∀ b v W', P b → W'.Ok → Step W W' → W'.O a = some 0 → BoxIs (W'.H a) → RR b v W' → Q v W'.H
/-- behind a call: the callee's world with the caller's owners -/
theorem back_core {W W' : Wd} (k : W.Ok) (k' : W'.Ok) (s : Step ⟨W.Hc, W.H, fun _ => none, W.H⟩ W') : Wd.Ok ⟨W'.Hc, W'.H, W.O, W.B⟩ ∧ Grow W ⟨W'.Hc, W'.H, W.O, W.B⟩ := by
  have kp : Ex W.H W'.H := fun a o e => s.keep a o e rfl
  have od : ∀ a, W.H a ≠ none → W'.Hc a = W.Hc a := fun a n => (s.old a n rfl).1
  refine ⟨⟨k'.ex, fun a i e => ?_, k.basTo s.dom (fun a o _ _ q => kp a o q) fun _ _ n => n⟩, ⟨kp, s.hc, rfl, od, rfl⟩⟩
  obtain ⟨n1, n2⟩ := k.own a i e
  exact ⟨(od a n2).trans n1, s.dom a n2⟩
theorem call_core {CX : Prop} {R : RS τ} {F : τ → Mp β} {RR : RRt β} {x : τ} {vs : List V} {W : Wd} {Q : VK} {E : XK} {P : β → Prop} (k : W.Ok) (hr : R.ok W.Hc vs x) (m : F x P)
    (h : ∀ b v W', P b → W'.Ok → Grow W W' → RR b v ⟨W'.Hc, W'.H, W'.O, W.H⟩ → Q v W'.H) (hRR : ∀ b v (A B : Wd), A.Hc = B.Hc → A.H = B.H → A.B = B.B → RR b v A → RR b v B) : spC R.sps F RR vs W.H Q E := by
  refine ⟨x, ⟨W.Hc, W.H, fun _ => none, W.H⟩, P, rfl, rfl, ⟨k.ex, fun _ _ e => (nomatch e), bas_self⟩, fun _ => rfl, R.sat (W := ⟨W.Hc, W.H, fun _ => none, W.H⟩) 0 hr, m, fun b v W' pb k' s' r' => ?_⟩
  obtain ⟨k2, g2⟩ := back_core k k' s'
  exact h b v ⟨W'.Hc, W'.H, W.O, W.B⟩ pb k2 g2 (hRR b v W' _ rfl rfl s'.B r')
theorem xp_call {k : Nat} {f : Addr} {fd : FuncData} {ps : List Str} {x : Str} {p : Pos} {R : RS τ} {F : τ → Mp β} {r : RT β} {M : Mp τ} (G : FnOk X.prog X.w X.K X.mg X.base CX0 k f fd ps (spC R.sps F (rrc r))) (hr : Room k X.A) (hm : X.mg x = some (.ref f)) (hk : PySem.W.keepIn X.K (.ref f) = true) (hb : Binds X.K fd ps [])
    (ha : XA X Γ (e :: es) M R.toRA) (hg : Gl X x := by rfl) (hdb : (x == ("__debug__" : Str)) = false := by decide) (he : starEach (e :: es) X.env = (false, eval e X.env) :: starEach es X.env := by rfl) (hpl : (backTo pos (starEach es X.env)).any (·.1) = false := by rfl) :
    XP X Γ (.Call (.Name x p) (e :: es) [] pos) (fun P => M fun y => F y P) r := by
  obtain ⟨t, pp, q⟩ := ha
  refine ⟨_, pe_call G hr hg hm hk hb .nil pass0 pp hdb he hpl, fun σ W k s Q P m h => ?_⟩
  refine q σ W k s _ _ m fun y v W1 m1 k1 s1 g1 r1 => ?_
  rw [List.append_nil]
  exact call_core (CX := True) k1 r1 m1 (fun b u W2 pb k2 g2 r2 => h b u W2 pb k2 (s1.trans g2.step) (g1.up (g2.up k1)) r2) fun b v A B e1 _ _ z => by
    show r.ok B.Hc v b
    rw [← e1]; exact z
theorem fresh_of {W W1 : Wd} (s : Step W W1) {p : Addr} (h : W1.H p = none) : W.H p = none := by
  cases e : W.H p with
  | none => rfl
  | some o => exact absurd h (s.dom p (ne_none_of e))
theorem xn_call {k : Nat} {f : Addr} {fd : FuncData} {ps : List Str} {x : Str} {p : Pos} {R : RS τ} {F : τ → Mp (List β)} {r : RT β} {M : Mp τ} (G : FnOk X.prog X.w X.K X.mg X.base CX0 k f fd ps (spC R.sps F (rrn r))) (hr : Room k X.A) (hm : X.mg x = some (.ref f)) (hk : PySem.W.keepIn X.K (.ref f) = true) (hb : Binds X.K fd ps [])
    (ha : XA X Γ (e :: es) M R.toRA) (hg : Gl X x := by rfl) (hdb : (x == ("__debug__" : Str)) = false := by decide) (he : starEach (e :: es) X.env = (false, eval e X.env) :: starEach es X.env := by rfl) (hpl : (backTo pos (starEach es X.env)).any (·.1) = false := by rfl) :
    XN X Γ (.Call (.Name x p) (e :: es) [] pos) (fun P => M fun y => F y P) r := by
  obtain ⟨t, pp, q⟩ := ha
  refine ⟨_, pe_call G hr hg hm hk hb .nil pass0 pp hdb he hpl, fun σ W k s Q P m h => ?_⟩
  refine q σ W k s _ _ m fun y v W1 m1 k1 s1 g1 r1 => ?_
  rw [List.append_nil]
  refine call_core (CX := True) k1 r1 m1 (fun b u W2 pb k2 g2 r2 => ?_) fun b v A B e1 e2 e3 ⟨p, vs, a1, a2, a3, a4, a5⟩ => ⟨p, vs, a1, by rw [← e3]; exact a2, by rw [← e1]; exact a3, by rw [← e2]; exact a4, by rw [← e1]; exact a5⟩
  obtain ⟨z, vs, rfl, n0, nc, hh, pr⟩ := r2
  exact h b z vs W2 pb k2 (s1.trans g2.step) (g1.up (g2.up k1)) (fresh_of s1 n0) nc (by rw [g2.O]; exact k1.free n0) hh pr
end
end TM
set_option Elab.async false
set_option linter.all false
set_option maxRecDepth 100000
namespace TM
open PySem PySem.Spec PyProof.Rows L2
section
variable {X : Cx} {Γ : List SP} {α β γ δ τ : Type} {e a b c : Expr} {es : List Expr} {pos : Pos}
/-! ### calls with the law's box -/
theorem satBox {Γ : List SP} {σ : St} {W W' : Wd} {i : Nat} {a : Addr} (h : Sat Γ σ W) (hi : look Γ i = .bx a) (hc : Ex W.Hc W'.Hc) (hO : W'.O = W.O) (hB : W'.B = W.B) (hk : ∀ b j, W.O b = some j → b ≠ a → W'.H b = W.H b) (hb : BoxIs (W'.H a)) : Sat Γ σ W' := by
  obtain ⟨o, e, e1, e2, e3⟩ := h.look hi (by simp)
  have h1 : Sat (Γ.set i (.bx a)) (σ.set i o) W' := SatL.set h (fun k o' n e4 z => by
    rw [Nat.zero_add] at z ⊢
    have ne : ∀ b, W.O b = some k → b ≠ a := fun b q w => by
      rw [w, e2] at q
      exact n (Option.some.inj q).symm
    exact z.kp ⟨hc, fun b q => ⟨by rw [hO]; exact q, hk b k q (ne b q)⟩, hB, fun _ _ q => by rw [hO]; exact q⟩) (by rw [Nat.zero_add]; exact ⟨e1, by rw [hO]; exact e2, hb⟩)
  rw [set_same e] at h1
  have h2 : Γ.set i (.bx a) = Γ := by
    have : ∀ (Γ : List SP) (i : Nat), TM.look Γ i = .bx a → Γ.set i (.bx a) = Γ := by
      intro Γ
      induction Γ with
      | nil => intro i h; cases i <;> cases h
      | cons p ps ih => intro i h; cases i with
        | zero => have h : p = .bx a := h; rw [h]; rfl
        | succ i => show p :: ps.set i (.bx a) = _; rw [ih i h]
    exact this Γ i hi
  rw [h2] at h1
  exact h1
theorem callB_core {R : RS τ} {F : τ → Mp β} {RR : RRt β} {x : τ} {vs : List V} {σ : St} {W : Wd} {Q : VK} {E : XK} {P : β → Prop} {i : Nat} {a : Addr} (k : W.Ok) (g : Sat Γ σ W) (hi : look Γ i = .bx a) (hr : R.ok W.Hc vs x) (m : F x P)
    (h : ∀ b v W', P b → W'.Ok → Step W W' → Sat Γ σ W' → W'.O = W.O → RR b v ⟨W'.Hc, W'.H, W'.O, W.H⟩ → Q v W'.H) (hRR : ∀ b v (A B : Wd), A.Hc = B.Hc → A.H = B.H → A.B = B.B → RR b v A → RR b v B) : spB R.sps F RR (.ref a :: vs) W.H Q E := by
  obtain ⟨o, e, e1, e2, e3⟩ := g.look hi (by simp)
  obtain ⟨n1, n2⟩ := k.own a i e2
  refine ⟨a, vs, x, ⟨W.Hc, W.H, fun b => if b = a then some 0 else none, W.H⟩, P, rfl, rfl, rfl, ⟨k.ex, fun b j q => ?_, bas_self⟩, fun _ => rfl, e3, R.sat (W := ⟨W.Hc, W.H, fun b => if b = a then some 0 else none, W.H⟩) 1 hr, m, fun b v W' pb k' s' o' b' r' => ?_⟩
  · have q : (if b = a then some 0 else none) = some j := q
    by_cases z : b = a
    · rw [z]; exact ⟨n1, n2⟩
    · rw [if_neg z] at q; cases q
  · have kp : ∀ b o, W.H b = some o → b ≠ a → W'.H b = some o := fun b o q z => s'.keep b o q (if_neg z)
    have od : ∀ b, W.H b ≠ none → b ≠ a → W'.Hc b = W.Hc b := fun b q z => (s'.old b q (if_neg z)).1
    have na : W'.Hc a = none := (k'.own a 0 o').1
    have k2 : Wd.Ok ⟨W'.Hc, W'.H, W.O, W.B⟩ := ⟨k'.ex, fun b j q => by
      obtain ⟨m1, m2⟩ := k.own b j q
      by_cases z : b = a
      · rw [z]; exact ⟨na, s'.dom a n2⟩
      · exact ⟨(od b m2 z).trans m1, s'.dom b m2⟩, k.basTo s'.dom (fun b o _ n q => kp b o q fun z => by rw [z, e2] at n; cases n) fun _ _ n => n⟩
    have st : Step W ⟨W'.Hc, W'.H, W.O, W.B⟩ := ⟨fun b o q w => kp b o q (fun z => by rw [z, e2] at w; cases w), s'.dom, s'.hc, fun b q w => ⟨od b q (fun z => by rw [z, e2] at w; cases w), w⟩, rfl⟩
    refine h b v ⟨W'.Hc, W'.H, W.O, W.B⟩ pb k2 st (satBox g hi s'.hc rfl rfl (fun b j q z => ?_) b') rfl (hRR b v W' _ rfl rfl s'.B r')
    obtain ⟨o2, q2⟩ := of_ne_none (k.own b j q).2
    rw [q2]; exact kp b o2 q2 z
/-- f(box, ..) -/
theorem xp_callB (i : Nat) {a : Addr} {nm : Str} {k : Nat} {f : Addr} {fd : FuncData} {ps : List Str} {x : Str} {p pn : Pos} {R : RS τ} {F : τ → Mp β} {r : RT β} {M : Mp τ} (hi : look Γ i = .bx a) (G : FnOk X.prog X.w X.K X.mg X.base CX0 k f fd ps (spB R.sps F (rrc r))) (hr : Room k X.A) (hm : X.mg x = some (.ref f)) (hk : PySem.W.keepIn X.K (.ref f) = true) (hb : Binds X.K fd ps [])
    (ha : XA X Γ es M R.toRA) (hN : X.N[i]? = some nm := by rfl) (hv : Vis X.env.scope nm := by first | exact Or.inl rfl | exact Or.inr (Or.inl rfl) | exact Or.inr (Or.inr rfl)) (hd : (nm == ("__debug__" : Str)) = false := by decide) (hcd : (nm == ("__classdict__" : Str)) = false := by decide)
    (hg : Gl X x := by rfl) (hdb : (x == ("__debug__" : Str)) = false := by decide) (he : starEach (.Name nm pn :: es) X.env = (false, eval (.Name nm pn) X.env) :: starEach es X.env := by rfl) (hpl : (backTo pos (starEach es X.env)).any (·.1) = false := by rfl) :
    XP X Γ (.Call (.Name x p) (.Name nm pn :: es) [] pos) (fun P => M fun y => F y P) r := by
  obtain ⟨t, pp, q⟩ := ha
  refine ⟨_, pe_call G hr hg hm hk hb .nil pass0 (pa_cons (pe_var hN hv hd hcd) pp he) hdb he hpl, fun σ W k s Q P m h => ?_⟩
  obtain ⟨o, e, rfl, _⟩ := s.look hi (by simp)
  refine ⟨.ref a, e, ?_⟩
  refine q σ W k s _ _ m fun y v W1 m1 k1 s1 g1 r1 => ?_
  show spB R.sps F (rrc r) (.ref a :: (v ++ [])) W1.H Q E0
  rw [List.append_nil]
  exact callB_core k1 g1 hi r1 m1 (fun b u W2 pb k2 s2 g2 _ r2 => h b u W2 pb k2 (s1.trans s2) g2 r2) fun b v A B e1 _ _ z => by
    show r.ok B.Hc v b
    rw [← e1]; exact z
theorem xn_callB (i : Nat) {a : Addr} {nm : Str} {k : Nat} {f : Addr} {fd : FuncData} {ps : List Str} {x : Str} {p pn : Pos} {R : RS τ} {F : τ → Mp (List β)} {r : RT β} {M : Mp τ} (hi : look Γ i = .bx a) (G : FnOk X.prog X.w X.K X.mg X.base CX0 k f fd ps (spB R.sps F (rrn r))) (hr : Room k X.A) (hm : X.mg x = some (.ref f)) (hk : PySem.W.keepIn X.K (.ref f) = true) (hb : Binds X.K fd ps [])
    (ha : XA X Γ es M R.toRA) (hN : X.N[i]? = some nm := by rfl) (hv : Vis X.env.scope nm := by first | exact Or.inl rfl | exact Or.inr (Or.inl rfl) | exact Or.inr (Or.inr rfl)) (hd : (nm == ("__debug__" : Str)) = false := by decide) (hcd : (nm == ("__classdict__" : Str)) = false := by decide)
    (hg : Gl X x := by rfl) (hdb : (x == ("__debug__" : Str)) = false := by decide) (he : starEach (.Name nm pn :: es) X.env = (false, eval (.Name nm pn) X.env) :: starEach es X.env := by rfl) (hpl : (backTo pos (starEach es X.env)).any (·.1) = false := by rfl) :
    XN X Γ (.Call (.Name x p) (.Name nm pn :: es) [] pos) (fun P => M fun y => F y P) r := by
  obtain ⟨t, pp, q⟩ := ha
  refine ⟨_, pe_call G hr hg hm hk hb .nil pass0 (pa_cons (pe_var hN hv hd hcd) pp he) hdb he hpl, fun σ W k s Q P m h => ?_⟩
  obtain ⟨o, e, rfl, _⟩ := s.look hi (by simp)
  refine ⟨.ref a, e, ?_⟩
  refine q σ W k s _ _ m fun y v W1 m1 k1 s1 g1 r1 => ?_
  show spB R.sps F (rrn r) (.ref a :: (v ++ [])) W1.H Q E0
  rw [List.append_nil]
  refine callB_core k1 g1 hi r1 m1 (fun b u W2 pb k2 s2 g2 hO r2 => ?_) fun b v A B e1 e2 e3 ⟨p, vs, a1, a2, a3, a4, a5⟩ => ⟨p, vs, a1, by rw [← e3]; exact a2, by rw [← e1]; exact a3, by rw [← e2]; exact a4, by rw [← e1]; exact a5⟩
  obtain ⟨z, vs, rfl, n0, nc, hh, pr⟩ := r2
  exact h b z vs W2 pb k2 (s1.trans s2) g2 (fresh_of s1 n0) nc (by rw [hO]; exact k1.free n0) hh pr
/-! ### methods, attributes, new instances -/
/-- an instance of the class at C without the attribute m -/
def InsNo (C : Addr) (m : Str) (r : RT β) : Prop := ∀ H v x, r.ok H v x → ∃ p dx fs, v = .ref p ∧ H p = some (.ins C dx fs) ∧ fs.lookup m = none
theorem xp_meth {C : Addr} {m : Str} {k : Nat} {f : Addr} {fd : FuncData} {ps : List Str} {apos : Pos} {o : Expr} {R : RS τ} {F : β × τ → Mp γ} {ro : RT β} {r : RT γ} {Mo : Mp β} {M : Mp τ} {pl : Sem Bool} (hI : InsNo C m ro) (c : Cls X.K C) (hmm : Meth X.K C m f) (G : FnOk X.prog X.w X.K X.mg X.base CX0 k f fd ps (spC (rsc ro R).sps F (rrc r))) (hr : Room k X.A) (hb : Binds X.K fd ps [])
    (ho : XP X Γ o Mo ro) (ha : XA X Γ (e :: es) M R.toRA) (hst : starEach (e :: es) X.env = (false, eval e X.env) :: starEach es X.env := by rfl) (hpl : (backTo pos (starEach es X.env)).any (·.1) = false := by rfl)
    (ht : eval (.Call (.Attribute o m apos) (e :: es) [] pos) X.env = (do
      let ov ← eval o X.env
      standAt apos.atName
      let (f, first) ← holding [ov] (getMethod ov m pl)
      callWith pos f first (backTo pos (starEach (e :: es) X.env)) (backToKw pos (keywordEach [] X.env))) := by rfl) :
    XP X Γ (.Call (.Attribute o m apos) (e :: es) [] pos) (fun P => Mo fun z => M fun y => F (z, y) P) r := by
  obtain ⟨t, pp, q⟩ := ho
  obtain ⟨u, pp2, q2⟩ := ha
  refine ⟨_, pe_meth pp c hmm G hr hb .nil pass0 pp2 hst hpl ht, fun σ W k s Q P m h => ?_⟩
  refine q σ W k s _ _ m fun z v W1 m1 k1 s1 g1 r1 => ?_
  obtain ⟨p, dx, fs, rfl, hp, hl⟩ := hI _ _ _ r1
  refine ⟨p, dx, fs, rfl, k1.ex _ _ hp, hl, ?_⟩
  refine q2 σ W1 k1 g1 _ _ m1 fun y w W2 m2 k2 s2 g2 r2 => ?_
  rw [List.append_nil]
  exact call_core (R := rsc ro R) (x := (z, y)) (CX := True) k2 ⟨.ref p, w, rfl, ro.mono s2.hc r1, r2⟩ m2 (fun b u W3 pb k3 g3 r3 => h b u W3 pb k3 ((s1.trans s2).trans g3.step) (g2.up (g3.up k2)) r3) fun b v A B e1 _ _ z => by
    show r.ok B.Hc v b
    rw [← e1]; exact z
theorem xp_meth0 {C : Addr} {m : Str} {k : Nat} {f : Addr} {fd : FuncData} {ps : List Str} {apos : Pos} {o : Expr} {F : β × Unit → Mp γ} {ro : RT β} {r : RT γ} {Mo : Mp β} {pl : Sem Bool} (hI : InsNo C m ro) (c : Cls X.K C) (hmm : Meth X.K C m f) (G : FnOk X.prog X.w X.K X.mg X.base CX0 k f fd ps (spC (rsc ro rs0).sps F (rrc r))) (hr : Room k X.A) (hb : Binds X.K fd ps [])
    (ho : XP X Γ o Mo ro) (ht : eval (.Call (.Attribute o m apos) [] [] pos) X.env = (do
      let ov ← eval o X.env
      standAt apos.atName
      let (f, first) ← holding [ov] (getMethod ov m pl)
      callWith pos f first (backTo pos (starEach [] X.env)) (backToKw pos (keywordEach [] X.env))) := by rfl) :
    XP X Γ (.Call (.Attribute o m apos) [] [] pos) (fun P => Mo fun z => F (z, ()) P) r := by
  obtain ⟨t, pp, q⟩ := ho
  refine ⟨_, pe_meth0 pp c hmm G hr hb .nil pass0 ht, fun σ W k s Q P m h => ?_⟩
  refine q σ W k s _ _ m fun z v W1 m1 k1 s1 g1 r1 => ?_
  obtain ⟨p, dx, fs, rfl, hp, hl⟩ := hI _ _ _ r1
  refine ⟨p, dx, fs, rfl, k1.ex _ _ hp, hl, ?_⟩
  show spC (rsc ro rs0).sps F (rrc r) (.ref p :: ([] ++ [])) W1.H Q E0
  exact call_core (R := rsc ro rs0) (x := (z, ())) (CX := True) k1 ⟨.ref p, [], rfl, r1, rfl⟩ m1 (fun b u W3 pb k3 g3 r3 => h b u W3 pb k3 (s1.trans g3.step) (g1.up (g3.up k1)) r3) fun b v A B e1 _ _ z => by
    show r.ok B.Hc v b
    rw [← e1]; exact z
/-- a new list told by a method -/
theorem xn_meth0 {C : Addr} {m : Str} {k : Nat} {f : Addr} {fd : FuncData} {ps : List Str} {apos : Pos} {o : Expr} {F : β × Unit → Mp (List γ)} {ro : RT β} {r : RT γ} {Mo : Mp β} {pl : Sem Bool} (hI : InsNo C m ro) (c : Cls X.K C) (hmm : Meth X.K C m f) (G : FnOk X.prog X.w X.K X.mg X.base CX0 k f fd ps (spC (rsc ro rs0).sps F (rrn r))) (hr : Room k X.A) (hb : Binds X.K fd ps [])
    (ho : XP X Γ o Mo ro) (ht : eval (.Call (.Attribute o m apos) [] [] pos) X.env = (do
      let ov ← eval o X.env
      standAt apos.atName
      let (f, first) ← holding [ov] (getMethod ov m pl)
      callWith pos f first (backTo pos (starEach [] X.env)) (backToKw pos (keywordEach [] X.env))) := by rfl) :
    XN X Γ (.Call (.Attribute o m apos) [] [] pos) (fun P => Mo fun z => F (z, ()) P) r := by
  obtain ⟨t, pp, q⟩ := ho
  refine ⟨_, pe_meth0 pp c hmm G hr hb .nil pass0 ht, fun σ W k s Q P m h => ?_⟩
  refine q σ W k s _ _ m fun z v W1 m1 k1 s1 g1 r1 => ?_
  obtain ⟨p, dx, fs, rfl, hp, hl⟩ := hI _ _ _ r1
  refine ⟨p, dx, fs, rfl, k1.ex _ _ hp, hl, ?_⟩
  show spC (rsc ro rs0).sps F (rrn r) (.ref p :: ([] ++ [])) W1.H Q E0
  refine call_core (R := rsc ro rs0) (x := (z, ())) (CX := True) k1 ⟨.ref p, [], rfl, r1, rfl⟩ m1 (fun b u W3 pb k3 g3 r3 => ?_) fun b v A B e1 e2 e3 ⟨p, vs, a1, a2, a3, a4, a5⟩ => ⟨p, vs, a1, by rw [← e3]; exact a2, by rw [← e1]; exact a3, by rw [← e2]; exact a4, by rw [← e1]; exact a5⟩
  obtain ⟨y, vs, rfl, n0, nc, hh, pr⟩ := r3
  exact h b y vs W3 pb k3 (s1.trans g3.step) (g1.up (g3.up k1)) (fresh_of s1 n0) nc (by rw [g3.O]; exact k1.free n0) hh pr
theorem xn_meth {C : Addr} {m : Str} {k : Nat} {f : Addr} {fd : FuncData} {ps : List Str} {apos : Pos} {o : Expr} {R : RS τ} {F : β × τ → Mp (List γ)} {ro : RT β} {r : RT γ} {Mo : Mp β} {M : Mp τ} {pl : Sem Bool} (hI : InsNo C m ro) (c : Cls X.K C) (hmm : Meth X.K C m f) (G : FnOk X.prog X.w X.K X.mg X.base CX0 k f fd ps (spC (rsc ro R).sps F (rrn r))) (hr : Room k X.A) (hb : Binds X.K fd ps [])
    (ho : XP X Γ o Mo ro) (ha : XA X Γ (e :: es) M R.toRA) (hst : starEach (e :: es) X.env = (false, eval e X.env) :: starEach es X.env := by rfl) (hpl : (backTo pos (starEach es X.env)).any (·.1) = false := by rfl)
    (ht : eval (.Call (.Attribute o m apos) (e :: es) [] pos) X.env = (do
      let ov ← eval o X.env
      standAt apos.atName
      let (f, first) ← holding [ov] (getMethod ov m pl)
      callWith pos f first (backTo pos (starEach (e :: es) X.env)) (backToKw pos (keywordEach [] X.env))) := by rfl) :
    XN X Γ (.Call (.Attribute o m apos) (e :: es) [] pos) (fun P => Mo fun z => M fun y => F (z, y) P) r := by
  obtain ⟨t, pp, q⟩ := ho
  obtain ⟨u, pp2, q2⟩ := ha
  refine ⟨_, pe_meth pp c hmm G hr hb .nil pass0 pp2 hst hpl ht, fun σ W k s Q P m h => ?_⟩
  refine q σ W k s _ _ m fun z v W1 m1 k1 s1 g1 r1 => ?_
  obtain ⟨p, dx, fs, rfl, hp, hl⟩ := hI _ _ _ r1
  refine ⟨p, dx, fs, rfl, k1.ex _ _ hp, hl, ?_⟩
  refine q2 σ W1 k1 g1 _ _ m1 fun y w W2 m2 k2 s2 g2 r2 => ?_
  rw [List.append_nil]
  refine call_core (R := rsc ro R) (x := (z, y)) (CX := True) k2 ⟨.ref p, w, rfl, ro.mono s2.hc r1, r2⟩ m2 (fun b u W3 pb k3 g3 r3 => ?_) fun b v A B e1 e2 e3 ⟨p, vs, a1, a2, a3, a4, a5⟩ => ⟨p, vs, a1, by rw [← e3]; exact a2, by rw [← e1]; exact a3, by rw [← e2]; exact a4, by rw [← e1]; exact a5⟩
  obtain ⟨y', vs, rfl, n0, nc, hh, pr⟩ := r3
  exact h b y' vs W3 pb k3 ((s1.trans s2).trans g3.step) (g2.up (g3.up k2)) (fresh_of (s1.trans s2) n0) nc (by rw [g3.O]; exact k2.free n0) hh pr
/-- an attribute -/
def InsF (C : Addr) (f : Str) (r : RT β) (q : RT γ) (g : β → γ) : Prop := ∀ H v x, r.ok H v x → ∃ p dx fs u, v = .ref p ∧ H p = some (.ins C dx fs) ∧ fs.lookup f = some u ∧ q.ok H u (g x)
theorem xp_fld {C : Addr} {f : Str} {ro : RT β} {q : RT γ} {g : β → γ} {M : Mp β} (hI : InsF C f ro q g) (c : Cls X.K C) (hn : NoAttr X.K C f) (ho : XP X Γ e M ro) (hb : attributeBase e f X.env (eval e X.env) = eval e X.env := by rfl) : XP X Γ (.Attribute e f pos) (fun P => M fun z => P (g z)) q := by
  obtain ⟨t, pp, qq⟩ := ho
  refine ⟨_, pe_fld pp hb, fun σ W k s Q P m h => qq σ W k s _ _ m fun z v W1 m1 k1 s1 g1 r1 => ?_⟩
  obtain ⟨p, dx, fs, u, rfl, hp, hl, hu⟩ := hI _ _ _ r1
  exact ⟨p, C, dx, fs, u, rfl, k1.ex _ _ hp, c, hn, hl, h (g z) u W1 m1 k1 s1 g1 hu⟩
/-- C(..): the promise of __init__ is told of the new instance; borrowed arguments at the heap -/
def spI (C : Addr) (sps : τ → List SP) (F : τ → Mp β) (r : RT β) : Sp := fun vs H Q _ => ∃ (p dx : Addr) (ws : List V) (x : τ) (W : Wd) (P : β → Prop), vs = .ref p :: ws ∧ W.H = H ∧ W.B = H ∧ W.Ok ∧ (∀ b, W.O b = if b = p then some 0 else if b = dx then some 1000 else none) ∧ dx ≠ p ∧ W.H p = some (.ins C dx []) ∧ W.H dx = some (.own p) ∧ SatL 1 (sps x) (ws.map some) W ∧ F x P ∧
  ∀ b W', P b → W'.Ok → Step W W' → r.ok W'.Hc (.ref p) b → Q .non W'.H
theorem xp_make {C : Addr} {k : Nat} {f : Addr} {fd : FuncData} {ps : List Str} {x : Str} {p : Pos} {R : RS τ} {F : τ → Mp β} {r : RT β} {M : Mp τ} (Mc : Mk X.K C f) (G : FnOk X.prog X.w X.K X.mg X.base CX0 k f fd ps (spI C R.sps F r)) (hr : Room (k + 1) X.A) (hm : X.mg x = some (.ref C)) (hb : Binds X.K fd ps [])
    (ha : XA X Γ (e :: es) M R.toRA) (hg : Gl X x := by rfl) (hdb : (x == ("__debug__" : Str)) = false := by decide) (he : starEach (e :: es) X.env = (false, eval e X.env) :: starEach es X.env := by rfl) (hpl : (backTo pos (starEach es X.env)).any (·.1) = false := by rfl) :
    XP X Γ (.Call (.Name x p) (e :: es) [] pos) (fun P => M fun y => F y P) r := by
  obtain ⟨t, pp, q⟩ := ha
  refine ⟨_, pe_make Mc G hr hg hm hb .nil pass0 pp hdb he hpl, fun σ W k s Q P m h => ?_⟩
  refine q σ W k s _ _ m fun y v W1 m1 k1 s1 g1 r1 => ?_
  intro z dx nz ndx ne
  rw [List.append_nil]
  have hz : upd (upd W1.H dx (.own z)) z (.ins C dx []) z = some (.ins C dx []) := upd_same
  have hdx : upd (upd W1.H dx (.own z)) z (.ins C dx []) dx = some (.own z) := by rw [upd_ne ne, upd_same]
  have oth : ∀ b, b ≠ z → b ≠ dx → upd (upd W1.H dx (.own z)) z (.ins C dx []) b = W1.H b := fun b n1 n2 => by rw [upd_ne n1, upd_ne n2]
  have exx : Ex W1.H (upd (upd W1.H dx (.own z)) z (.ins C dx [])) := fun b o e => by rw [oth b (ne_of_none e nz) (ne_of_none e ndx)]; exact e
  refine ⟨z, dx, v, y, ⟨W1.Hc, _, fun b => if b = z then some 0 else if b = dx then some 1000 else none, upd (upd W1.H dx (.own z)) z (.ins C dx [])⟩, P, rfl, rfl, rfl, ⟨fun b o e => exx b o (k1.ex b o e), fun b j q => ?_, bas_self⟩, fun _ => rfl, ne, hz, hdx, R.sat (W := ⟨W1.Hc, _, _, _⟩) 1 r1, m1, fun b W2 pb k2 s2 r2 => ⟨rfl, ?_⟩⟩
  · have q : (if b = z then some 0 else if b = dx then some 1000 else none) = some j := q
    show W1.Hc b = none ∧ upd (upd W1.H dx (.own z)) z (.ins C dx []) b ≠ none
    by_cases n1 : b = z
    · rw [n1]; exact ⟨k1.none_of nz, by rw [hz]; simp⟩
    · by_cases n2 : b = dx
      · rw [n2]; exact ⟨k1.none_of ndx, by rw [hdx]; simp⟩
      · rw [if_neg n1, if_neg n2] at q; cases q
  · have nO : ∀ b, W1.H b ≠ none → (if b = z then some 0 else if b = dx then some 1000 else (none : Option Nat)) = none := fun b q => by
      rw [if_neg (fun w => q (by rw [w]; exact nz)), if_neg (fun w => q (by rw [w]; exact ndx))]
    have kp : Ex W1.H W2.H := fun b o e => s2.keep b o (exx b o e) (nO b (ne_none_of e))
    have od : ∀ b, W1.H b ≠ none → W2.Hc b = W1.Hc b := fun b q => by
      obtain ⟨o, e⟩ := of_ne_none q
      exact (s2.old b (ne_none_of (exx b o e)) (nO b q)).1
    have dm : ∀ b, W1.H b ≠ none → W2.H b ≠ none := fun b q => by
      obtain ⟨o, e⟩ := of_ne_none q
      exact ne_none_of (kp b o e)
    have k3 : Wd.Ok ⟨W2.Hc, W2.H, W1.O, W1.B⟩ := ⟨k2.ex, fun b j q => by
      obtain ⟨n1, n2⟩ := k1.own b j q
      exact ⟨(od b n2).trans n1, dm b n2⟩, k1.basTo dm (fun b o _ _ q => kp b o q) fun _ _ n => n⟩
    have g3 : Grow W1 ⟨W2.Hc, W2.H, W1.O, W1.B⟩ := ⟨kp, s2.hc, rfl, od, rfl⟩
    exact h b (.ref z) ⟨W2.Hc, W2.H, W1.O, W1.B⟩ pb k3 (s1.trans g3.step) (g1.up (g3.up k1)) r2
end
end TM
set_option Elab.async false
set_option linter.all false
set_option maxRecDepth 100000
namespace TM
open PySem PySem.Spec PyProof.Rows L2
/-! ### statements -/
structure Kn (S B R : Type) where
  nx : S → Prop
  bk : B → Prop
  ct : B → Prop
  rt : R → Prop
section
variable {X : Cx} {Γ Δ : List SP} {α β γ δ τ S S' B R : Type} {e a b c : Expr} {es : List Expr} {pos : Pos} {st : Stmt} {sts rest body : List Stmt}
def XS (X : Cx) (Γ : List SP) (sts : List Stmt) (M : Kn S B R → Prop) (Γn : S → List SP) (Γb : B → List SP) (RR : R → V → Wd → Prop) : Prop :=
  ∃ t, PSs X sts t ∧ ∀ (σ : St) (W : Wd), W.Ok → Sat Γ σ W → ∀ (κ : Kn S B R) (D : Ends), M κ →
    (∀ s σ' W', κ.nx s → W'.Ok → Step W W' → Sat (Γn s) σ' W' → D.nx σ' W'.H) → (∀ s σ' W', κ.bk s → W'.Ok → Step W W' → Sat (Γb s) σ' W' → D.bk σ' W'.H) → (∀ s σ' W', κ.ct s → W'.Ok → Step W W' → Sat (Γb s) σ' W' → D.ct σ' W'.H) →
    (∀ r v W', κ.rt r → W'.Ok → Step W W' → RR r v W' → D.rt v W'.H) → t D σ W.H
variable {Γn : S → List SP} {Γb : B → List SP} {RR : R → V → Wd → Prop}
theorem xs_nil (s : S) (h : leL Γ (Γn s)) : XS X Γ [] (fun κ : Kn S B R => κ.nx s) Γn Γb RR :=
  ⟨_, pss_nil, fun σ W k g κ D m h1 _ _ _ => h1 s σ W m k (Step.refl W) (g.le h)⟩
theorem xs_break (s : B) (h : leL Γ (Γb s)) : XS X Γ [.Break pos] (fun κ : Kn S B R => κ.bk s) Γn Γb RR :=
  ⟨_, pss_one ps_break, fun σ W k g κ D m _ h1 _ _ => h1 s σ W m k (Step.refl W) (g.le h)⟩
theorem xs_cont (s : B) (h : leL Γ (Γb s)) : XS X Γ [.Continue pos] (fun κ : Kn S B R => κ.ct s) Γn Γb RR :=
  ⟨_, pss_one ps_continue, fun σ W k g κ D m _ _ h1 _ => h1 s σ W m k (Step.refl W) (g.le h)⟩
theorem xs_ret {M : Mp R} {r : RT R} (h : XP X Γ e M r) (hr : ∀ x v (W : Wd), r.ok W.Hc v x → RR x v W) : XS X Γ [.Return (some e) pos] (fun κ : Kn S B R => M κ.rt) Γn Γb RR := by
  obtain ⟨t, p, q⟩ := h
  exact ⟨_, pss_one (ps_ret p), fun σ W k g κ D m _ _ _ h1 => q σ W k g _ _ m fun x v W' m' k' s' g' r' => h1 x v W' m' k' s' (hr x v W' r')⟩
theorem xs_retC {M : Mp R} {r : RT R} (h : XP X Γ e M r) : XS X Γ [.Return (some e) pos] (fun κ : Kn S B R => M κ.rt) Γn Γb (fun x v W => r.ok W.Hc v x) := xs_ret h fun _ _ _ h => h
theorem base_free {W W' : Wd} (k : W.Ok) (s : Step W W') {p : Addr} (h : W.H p = none) : W'.B p = none := by
  rw [s.B]
  cases e : W.B p with
  | none => rfl
  | some o => exact absurd h (k.bas p (ne_none_of e)).1
/-- a new list is handed back -/
theorem xs_retN {M : Mp (List α)} {r : RT α} {Γb : B → List SP} (h : XN X Γ e M r) : XS X Γ [.Return (some e) pos] (fun κ : Kn S B (List α) => M κ.rt) Γn Γb (rrn r) := by
  obtain ⟨t, p, q⟩ := h
  exact ⟨_, pss_one (ps_ret p), fun σ W k g κ D m _ _ _ h1 => q σ W k g _ _ m fun x u vs W' m' k' s' g' n nc no hh pr => h1 x (.ref u) W' m' k' s' ⟨u, vs, rfl, base_free k s' n, nc, hh, pr⟩⟩
/-- one's own list is handed back -/
theorem xs_retO (i : Nat) {x : Str} {p : Pos} {r : RT α} {xs : List α} {Γb : B → List SP} (h : look Γ i = .own r xs) (hN : X.N[i]? = some x := by rfl) (hv : Vis X.env.scope x := by first | exact Or.inl rfl | exact Or.inr (Or.inl rfl) | exact Or.inr (Or.inr rfl)) (hd : (x == ("__debug__" : Str)) = false := by decide) (hcd : (x == ("__classdict__" : Str)) = false := by decide) :
    XS X Γ [.Return (some (.Name x p)) pos] (fun κ : Kn S B (List α) => κ.rt xs) Γn Γb (rrn r) :=
  ⟨_, pss_one (ps_ret (pe_var hN hv hd hcd)), fun σ W k g κ D m _ _ _ h1 => by
    obtain ⟨o, e, u, vs, rfl, n, ho, hh, pr⟩ := g.look h (by simp)
    exact ⟨.ref u, e, h1 xs (.ref u) W m k (Step.refl W) ⟨u, vs, rfl, n, (k.own u i ho).1, hh, pr⟩⟩⟩
/-- one's own list is handed back as a clean one -/
theorem xs_retOC (i : Nat) {x : Str} {p : Pos} {r : RT α} {xs : List α} {Γb : B → List SP} (h : look Γ i = .own r xs) (hN : X.N[i]? = some x := by rfl) (hv : Vis X.env.scope x := by first | exact Or.inl rfl | exact Or.inr (Or.inl rfl) | exact Or.inr (Or.inr rfl)) (hd : (x == ("__debug__" : Str)) = false := by decide) (hcd : (x == ("__classdict__" : Str)) = false := by decide) :
    XS X Γ [.Return (some (.Name x p)) pos] (fun κ : Kn S B (List α) => κ.rt xs) Γn Γb (fun ys v W => (rL r).ok W.Hc v ys) :=
  ⟨_, pss_one (ps_ret (pe_var hN hv hd hcd)), fun σ W k g κ D m _ _ _ h1 => by
    obtain ⟨o, e, u, vs, rfl, n, ho, hh, pr⟩ := g.look h (by simp)
    have nc := (k.own u i ho).1
    have up : Ex W.Hc (upd W.Hc u (.lst vs)) := fun b o e => by rw [upd_ne (ne_of_none e nc)]; exact e
    refine ⟨.ref u, e, h1 xs (.ref u) ⟨upd W.Hc u (.lst vs), W.H, fun b => if b = u then none else W.O b, W.B⟩ m ⟨fun b o q => ?_, fun b j q => ?_, k.basTo (fun _ q => q) (fun _ _ _ _ q => q) fun b e q => by
      have q : (if b = u then none else W.O b) = none := q
      by_cases z : b = u
      · rw [z, n] at e; exact absurd rfl e
      · rw [if_neg z] at q; exact q⟩ ⟨fun _ _ q _ => q, fun _ q => q, up, fun b q w => ?_, rfl⟩ ⟨u, vs, rfl, upd_same, pmap pr fun _ _ => r.mono up⟩⟩
    · have q : upd W.Hc u (.lst vs) b = some o := q
      by_cases z : b = u
      · rw [z] at q ⊢; rw [upd_same] at q; show W.H u = some o; rw [hh]; exact q
      · rw [upd_ne z] at q; exact k.ex b o q
    · have q : (if b = u then none else W.O b) = some j := q
      show upd W.Hc u (.lst vs) b = none ∧ _
      by_cases z : b = u
      · rw [if_pos z] at q; cases q
      · rw [if_neg z] at q; rw [upd_ne z]; exact k.own b j q
    · have z : b ≠ u := fun z => by rw [z, ho] at w; cases w
      show upd W.Hc u (.lst vs) b = W.Hc b ∧ (if b = u then none else W.O b) = none
      rw [upd_ne z, if_neg z]; exact ⟨rfl, w⟩⟩
theorem xs_raise {e : Option Expr} {f : Option Expr} : XS X Γ [.Raise e f pos] (fun κ : Kn S B R => False) Γn Γb RR := ⟨tNever, pss_never, fun _ _ _ _ _ _ m _ _ _ _ => m.elim⟩
theorem xs_never : XS X Γ sts (fun κ : Kn S B R => False) Γn Γb RR := ⟨tNever, pss_never, fun _ _ _ _ _ _ m _ _ _ _ => m.elim⟩
/-- one statement -/
def XSt (X : Cx) (Γ : List SP) (st : Stmt) (M : Kn S B R → Prop) (Γn : S → List SP) (Γb : B → List SP) (RR : R → V → Wd → Prop) : Prop :=
  ∃ t, PS X st t ∧ ∀ (σ : St) (W : Wd), W.Ok → Sat Γ σ W → ∀ (κ : Kn S B R) (D : Ends), M κ →
    (∀ s σ' W', κ.nx s → W'.Ok → Step W W' → Sat (Γn s) σ' W' → D.nx σ' W'.H) → (∀ s σ' W', κ.bk s → W'.Ok → Step W W' → Sat (Γb s) σ' W' → D.bk σ' W'.H) → (∀ s σ' W', κ.ct s → W'.Ok → Step W W' → Sat (Γb s) σ' W' → D.ct σ' W'.H) →
    (∀ r v W', κ.rt r → W'.Ok → Step W W' → RR r v W' → D.rt v W'.H) → t D σ W.H
theorem xs_one {M : Kn S B R → Prop} (h : XSt X Γ st M Γn Γb RR) : XS X Γ [st] M Γn Γb RR := let ⟨t, p, q⟩ := h; ⟨t, pss_one p, q⟩
theorem pss_ex {u : S → TS} (h : ∀ s, PSs X rest (u s)) : PSs X rest (fun D σ H => ∃ s, u s D σ H) := ⟨fun pins s σ H D I ⟨z, w⟩ => (h z).run pins s σ H D I w⟩
theorem xs_cons {S₁ : Type} {Γm : S₁ → List SP} {M : Kn S₁ B R → Prop} {N : S₁ → Kn S B R → Prop} (h : XSt X Γ st M Γm Γb RR) (hr : ∀ s, XS X (Γm s) rest (N s) Γn Γb RR) : XS X Γ (st :: rest) (fun κ => M ⟨fun s => N s κ, κ.bk, κ.ct, κ.rt⟩) Γn Γb RR := by
  obtain ⟨t, p, q⟩ := h
  refine ⟨_, pss_cons p (pss_ex fun s => (Classical.choose_spec (hr s)).1), fun σ W k g κ D m h1 h2 h3 h4 => ?_⟩
  refine q σ W k g ⟨fun s => N s κ, κ.bk, κ.ct, κ.rt⟩ _ m (fun s σ1 W1 m1 k1 s1 g1 => ⟨s, ?_⟩) h2 h3 h4
  exact (Classical.choose_spec (hr s)).2 σ1 W1 k1 g1 κ D m1 (fun z σ2 W2 a b c d => h1 z σ2 W2 a b (s1.trans c) d) (fun z σ2 W2 a b c d => h2 z σ2 W2 a b (s1.trans c) d) (fun z σ2 W2 a b c d => h3 z σ2 W2 a b (s1.trans c) d) (fun r v W2 a b c d => h4 r v W2 a b (s1.trans c) d)
theorem xt_set (i : Nat) {x : Str} {p' : Pos} {M : Mp α} {r : RT α} (h : XP X Γ e M r) (hnd : X.N.Nodup) (hN : X.N[i]? = some x := by rfl) (hx : Loc X.env.scope x := by first | exact .inl rfl | exact .inr rfl) (hs : swapsWith e (some (.Name x p')) pos.line X.env = pure false := by rfl) (hf : X.fn x = true ∨ X.env.scope.names.lookup x = some .local := by first | exact .inl rfl | exact .inr rfl) :
    XSt X Γ (.Assign [.Name x p'] e pos) (fun κ : Kn α B R => M κ.nx) (fun x => Γ.set i (.cl r x)) Γb RR := by
  obtain ⟨t, p, q⟩ := h
  refine ⟨_, ps_set hnd hN hx p hs hf, fun σ W k g κ D m h1 _ _ _ => ?_⟩
  exact q σ W k g _ _ m fun x v W1 m1 k1 s1 g1 r1 => h1 x _ W1 m1 k1 s1 (g1.put ⟨v, rfl, r1⟩)
/-- a new list becomes one's own -/
theorem xt_setN (i : Nat) {x : Str} {p' : Pos} {M : Mp (List α)} {r : RT α} (h : XN X Γ e M r) (hl : i < Γ.length) (hnd : X.N.Nodup) (hN : X.N[i]? = some x := by rfl) (hx : Loc X.env.scope x := by first | exact .inl rfl | exact .inr rfl) (hs : swapsWith e (some (.Name x p')) pos.line X.env = pure false := by rfl) (hf : X.fn x = true ∨ X.env.scope.names.lookup x = some .local := by first | exact .inl rfl | exact .inr rfl) :
    XSt X Γ (.Assign [.Name x p'] e pos) (fun κ : Kn (List α) B R => M κ.nx) (fun x => Γ.set i (.own r x)) Γb RR := by
  obtain ⟨t, p, q⟩ := h
  refine ⟨_, ps_set hnd hN hx p hs hf, fun σ W k g κ D m h1 _ _ _ => ?_⟩
  refine q σ W k g _ _ m fun x u vs W1 m1 k1 s1 g1 n nc no hh pr => ?_
  have h0 := base_free k s1 n
  -- the world in which slot i owns it
  refine h1 x _ ⟨W1.Hc, W1.H, fun b => if b = u then some i else W1.O b, W1.B⟩ m1 ⟨k1.ex, fun b j q => ?_, k1.basTo (fun _ q => q) (fun _ _ _ _ q => q) fun b e q => by
    have q : (if b = u then some i else W1.O b) = none := q
    by_cases z : b = u
    · rw [if_pos z] at q; cases q
    · rw [if_neg z] at q; exact q⟩ ⟨fun b o a c => s1.keep b o a c, s1.dom, s1.hc, fun b a c => ⟨(s1.old b a c).1, ?_⟩, s1.B⟩ (SatL.set g1 (fun k o' nk e z => ?_) ⟨u, vs, rfl, h0, ?_, hh, pr⟩)
  · have q : (if b = u then some i else W1.O b) = some j := q
    by_cases z : b = u
    · rw [z]; exact ⟨nc, ne_none_of hh⟩
    · rw [if_neg z] at q; exact k1.own b j q
  · show (if b = u then some i else W1.O b) = none
    rw [if_neg (fun z => a (by rw [z]; exact n))]; exact (s1.old b a c).2
  · refine z.up ⟨fun _ _ e => e, fun b j q => ⟨?_, rfl⟩, rfl, fun b e q => by
      show (if b = u then some i else W1.O b) = none
      rw [if_neg fun w => e (by rw [w]; exact h0)]; exact q⟩
    show (if b = u then some i else W1.O b) = some j
    rw [if_neg (fun z => by rw [z, no] at q; cases q)]; exact q
  · show (if u = u then some i else W1.O u) = some (0 + i)
    rw [if_pos rfl, Nat.zero_add]
theorem xt_expr {M : Mp α} {r : RT α} (h : XP X Γ e M r) (hs : swapsWith e none pos.line X.env = pure false := by rfl) : XSt X Γ (.Expr e pos) (fun κ : Kn Unit B R => M fun _ => κ.nx ()) (fun _ => Γ) Γb RR := by
  obtain ⟨t, p, q⟩ := h
  exact ⟨_, ps_expr p hs, fun σ W k g κ D m h1 _ _ _ => q σ W k g _ _ m fun x v W1 m1 k1 s1 g1 r1 => h1 () σ W1 m1 k1 s1 g1⟩
theorem xt_if {A C : List Stmt} {Mc : Mp Bool} {MA MC : Kn S B R → Prop} (hc : XT X Γ c Mc) (hA : XS X Γ A MA Γn Γb RR) (hC : XS X Γ C MC Γn Γb RR) : XSt X Γ (.If c A C pos) (fun κ => Mc fun k => if k = true then MA κ else MC κ) Γn Γb RR := by
  obtain ⟨t, p, q⟩ := hc
  obtain ⟨u, p2, q2⟩ := hA
  obtain ⟨w, p3, q3⟩ := hC
  refine ⟨_, ps_if p p2 p3, fun σ W k g κ D m h1 h2 h3 h4 => ?_⟩
  refine q σ W k g _ _ m fun x W1 m1 k1 s1 g1 => ?_
  cases x with
  | true => exact q2 σ W1 k1 g1 κ D m1 (fun z σ2 W2 a b c d => h1 z σ2 W2 a b (s1.trans c) d) (fun z σ2 W2 a b c d => h2 z σ2 W2 a b (s1.trans c) d) (fun z σ2 W2 a b c d => h3 z σ2 W2 a b (s1.trans c) d) (fun r v W2 a b c d => h4 r v W2 a b (s1.trans c) d)
  | false => exact q3 σ W1 k1 g1 κ D m1 (fun z σ2 W2 a b c d => h1 z σ2 W2 a b (s1.trans c) d) (fun z σ2 W2 a b c d => h2 z σ2 W2 a b (s1.trans c) d) (fun z σ2 W2 a b c d => h3 z σ2 W2 a b (s1.trans c) d) (fun r v W2 a b c d => h4 r v W2 a b (s1.trans c) d)
/-- one's own list joins the clean part (no step of the text) -/
theorem satFrz {σ : St} {W : Wd} {i : Nat} {r : RT α} {xs : List α} (k : W.Ok) (g : Sat Γ σ W) (h : look Γ i = .own r xs) : ∃ W', W'.Ok ∧ Step W W' ∧ W'.H = W.H ∧ Sat (Γ.set i (.cl (rL r) xs)) σ W' := by
  obtain ⟨o, e, u, vs, rfl, n, ho, hh, pr⟩ := g.look h (by simp)
  have nc := (k.own u i ho).1
  have up : Ex W.Hc (upd W.Hc u (.lst vs)) := fun b o e => by rw [upd_ne (ne_of_none e nc)]; exact e
  refine ⟨⟨upd W.Hc u (.lst vs), W.H, fun b => if b = u then none else W.O b, W.B⟩, ⟨fun b o q => ?_, fun b j q => ?_, k.basTo (fun _ q => q) (fun _ _ _ _ q => q) fun b e q => by
    have q : (if b = u then none else W.O b) = none := q
    by_cases z : b = u
    · rw [z, n] at e; exact absurd rfl e
    · rw [if_neg z] at q; exact q⟩, ⟨fun _ _ q _ => q, fun _ q => q, up, fun b q w => ?_, rfl⟩, rfl, ?_⟩
  · have q : upd W.Hc u (.lst vs) b = some o := q
    by_cases z : b = u
    · rw [z] at q ⊢; rw [upd_same] at q; show W.H u = some o; rw [hh]; exact q
    · rw [upd_ne z] at q; exact k.ex b o q
  · have q : (if b = u then none else W.O b) = some j := q
    show upd W.Hc u (.lst vs) b = none ∧ _
    by_cases z : b = u
    · rw [if_pos z] at q; cases q
    · rw [if_neg z] at q; rw [upd_ne z]; exact k.own b j q
  · have z : b ≠ u := fun z => by rw [z, ho] at w; cases w
    show upd W.Hc u (.lst vs) b = W.Hc b ∧ (if b = u then none else W.O b) = none
    rw [upd_ne z, if_neg z]; exact ⟨rfl, w⟩
  · have h1 : Sat (Γ.set i (.cl (rL r) xs)) (σ.set i (some (.ref u))) ⟨upd W.Hc u (.lst vs), W.H, fun b => if b = u then none else W.O b, W.B⟩ := SatL.set g (fun j o' nj ej z => by
      rw [Nat.zero_add] at z ⊢
      have ne : ∀ b, W.O b = some j → b ≠ u := fun b q w => by
        rw [w, ho] at q
        exact nj (Option.some.inj q).symm
      have oo : ∀ b, W.O b = some j → (if b = u then none else W.O b) = some j := fun b q => by rw [if_neg (ne b q)]; exact q
      exact z.kp ⟨up, fun b q => ⟨oo b q, rfl⟩, rfl, fun b _ q => by
        show (if b = u then none else W.O b) = none
        by_cases w : b = u
        · rw [if_pos w]
        · rw [if_neg w]; exact q⟩) ⟨.ref u, rfl, u, vs, rfl, upd_same, pmap pr fun _ _ => r.mono up⟩
    rw [set_same e] at h1
    exact h1
theorem xs_frz (i : Nat) {r : RT α} {xs : List α} {M : Kn S B R → Prop} (h : look Γ i = .own r xs) (hr : XS X (Γ.set i (.cl (rL r) xs)) rest M Γn Γb RR) : XS X Γ rest M Γn Γb RR := by
  obtain ⟨t, p, q⟩ := hr
  refine ⟨t, p, fun σ W k g κ D m h1 h2 h3 h4 => ?_⟩
  obtain ⟨W', k', s', eH, g'⟩ := satFrz k g h
  rw [← eH]
  exact q σ W' k' g' κ D m (fun z σ2 W2 a b c d => h1 z σ2 W2 a b (s'.trans c) d) (fun z σ2 W2 a b c d => h2 z σ2 W2 a b (s'.trans c) d) (fun z σ2 W2 a b c d => h3 z σ2 W2 a b (s'.trans c) d) (fun r v W2 a b c d => h4 r v W2 a b (s'.trans c) d)
/-- xs.append(e), xs one's own -/
theorem xt_app (i : Nat) {x : Str} {p1 p2 pc : Pos} {M : Mp α} {r : RT α} {xs : List α} (h : look Γ i = .own r xs) (he : XP X Γ e M r) (hN : X.N[i]? = some x := by rfl) (hv : Vis X.env.scope x := by first | exact Or.inl rfl | exact Or.inr (Or.inl rfl) | exact Or.inr (Or.inr rfl)) (hd : (x == ("__debug__" : Str)) = false := by decide) (hcd : (x == ("__classdict__" : Str)) = false := by decide)
    (hpe : ∀ te, PE X e te → PS X (.Expr (.Call (.Attribute (.Name x p1) "append" p2) [e] [] pc) pos) (tDrop (tBM X.K "list" rAppend (tVar i) (tCons te tNil)))) :
    XSt X Γ (.Expr (.Call (.Attribute (.Name x p1) "append" p2) [e] [] pc) pos) (fun κ : Kn (List α) B R => M fun y => xs.length < sizeLine ∧ κ.nx (xs ++ [y])) (fun ys => Γ.set i (.own r ys)) Γb RR := by
  obtain ⟨t, p, q⟩ := he
  refine ⟨_, hpe t p, fun σ W k g κ D m h1 _ _ _ => ?_⟩
  obtain ⟨o, eo, u, vs, rfl, n, ho, hh, pr⟩ := g.look h (by simp)
  refine ⟨.ref u, eo, .inl ⟨rfl, vs, sql_of hh⟩, ?_⟩
  refine q σ W k g _ _ m fun y v W1 ⟨m1, m2⟩ k1 s1 g1 r1 => ?_
  obtain ⟨o', eo', u', vs', rfl, n', ho', hh', pr'⟩ := g1.look h (by simp)
  rw [eo] at eo'
  cases eo'
  refine ⟨u, vs', v, rfl, rfl, hh', by rw [pr'.length]; exact m1, ?_⟩
  exact h1 (xs ++ [y]) σ (W1.mut u (.lst (vs' ++ [v]))) m2 (k1.mut ho') (s1.trans (step_mut ho')) (g1.mut ho' eo ⟨u, _, rfl, n', ho', upd_same, pr'.snoc r1⟩)
end
end TM
set_option Elab.async false
set_option linter.all false
set_option maxRecDepth 100000
namespace TM
open PySem PySem.Spec PyProof.Rows L2
section
variable {X : Cx} {Γ Δ : List SP} {α β γ δ τ S S' B R : Type} {e a b c tg iter : Expr} {es : List Expr} {pos : Pos} {st : Stmt} {sts rest body : List Stmt}
/-! ### what is walked -/
def Walks (J : It) (r : RT α) (xs : List α) (W0 : Wd) : Prop := ∀ W : Wd, W.Ok → Step W0 W →
  (∀ i, i < xs.length → J.go i W.H) ∧ (∀ i v H', i < xs.length → J.yld i W.H v H' → ∃ W' x, xs[i]? = some x ∧ W'.H = H' ∧ W'.Ok ∧ Grow W W' ∧ r.ok W'.Hc v x) ∧ J.stop xs.length W.H
def XI (X : Cx) (Γ : List SP) (tg iter : Expr) (M : Mp (List α)) (r : RT α) : Prop :=
  ∃ wi, PI X tg iter wi ∧ ∀ (σ : St) (W : Wd), W.Ok → Sat Γ σ W → ∀ (Q : It → Hp → Prop) (P : List α → Prop), M P → (∀ xs J W', P xs → W'.Ok → Step W W' → Sat Γ σ W' → Walks J r xs W' → Q J W'.H) → wi σ W.H Q
theorem paired_get {F : α → β → Prop} {xs : List α} {ys : List β} {i : Nat} (p : Paired F xs ys) (h : i < ys.length) : ∃ x y, xs[i]? = some x ∧ ys[i]? = some y ∧ F x y := by
  obtain ⟨x, e, r⟩ := paired_at p (List.getElem?_eq_getElem h)
  exact ⟨x, _, e, List.getElem?_eq_getElem h, r⟩
theorem xi_list {M : Mp (List α)} {r : RT α} (h : XP X Γ iter M (rL r)) : XI X Γ tg iter M r := by
  obtain ⟨t, p, q⟩ := h
  refine ⟨_, pi_list p, fun σ W k g Q P m h => q σ W k g _ _ m fun xs v W1 m1 k1 s1 g1 ⟨u, vs, e, hh, pr⟩ => ⟨u, e, ⟨vs, sql_of (k1.ex _ _ hh)⟩, h xs _ W1 m1 k1 s1 g1 fun W2 k2 s2 => ?_⟩⟩
  have hl : SqL X.K W2.H u vs := sql_of (k2.ex _ _ (s2.hc _ _ hh))
  refine ⟨fun i hi => ?_, fun i w H' hi y => ?_, ⟨vs, hl, by rw [pr.length]; exact Nat.le_refl _⟩⟩
  · obtain ⟨x, _, e, _, _⟩ := paired_get pr hi
    exact ⟨vs, x, hl, e⟩
  · obtain ⟨x, z, e, e2, rr⟩ := paired_get pr hi
    obtain ⟨rfl, y⟩ := y
    have := (y vs hl).symm.trans e
    cases this
    exact ⟨W2, z, e2, rfl, k2, Grow.refl W2, r.mono s2.hc rr⟩
theorem xi_tup {M : Mp (List α)} {r : RT α} (h : XP X Γ iter M (rT r)) : XI X Γ tg iter M r := by
  obtain ⟨t, p, q⟩ := h
  refine ⟨_, pi_tup p, fun σ W k g Q P m h => q σ W k g _ _ m fun xs v W1 m1 k1 s1 g1 ⟨u, vs, e, hh, pr⟩ => ⟨u, e, ⟨vs, sqt_of (k1.ex _ _ hh)⟩, h xs _ W1 m1 k1 s1 g1 fun W2 k2 s2 => ?_⟩⟩
  have hl : SqT X.K W2.H u vs := sqt_of (k2.ex _ _ (s2.hc _ _ hh))
  refine ⟨fun i hi => ?_, fun i w H' hi y => ?_, ⟨vs, hl, by rw [pr.length]; exact Nat.le_refl _⟩⟩
  · obtain ⟨x, _, e, _, _⟩ := paired_get pr hi
    exact ⟨vs, x, hl, e⟩
  · obtain ⟨x, z, e, e2, rr⟩ := paired_get pr hi
    obtain ⟨rfl, y⟩ := y
    have := (y vs hl).symm.trans e
    cases this
    exact ⟨W2, z, e2, rfl, k2, Grow.refl W2, r.mono s2.hc rr⟩
/-- reversed(tuple) -/
theorem xi_revT {M : Mp (List α)} {r : RT α} {p : Pos} (hm : X.mg "reversed" = none) (h : XP X Γ e M (rT r)) (hg : Gl X "reversed" := by rfl) (hs : starEach [e] X.env = (false, eval e X.env) :: starEach [] X.env := by rfl) : XI X Γ tg (.Call (.Name "reversed" p) [e] [] pos) (fun P => M fun xs => P xs.reverse) r := by
  obtain ⟨t, pp, q⟩ := h
  refine ⟨_, RT.pi_revA hg hm pp hs, fun σ W k g Q P m h => q σ W k g _ _ m fun xs v W1 m1 k1 s1 g1 ⟨u, vs, e, hh, pr⟩ => ⟨u, vs, e, .inr ⟨sqt_of (k1.ex _ _ hh), h xs.reverse _ W1 m1 k1 s1 g1 fun W2 k2 s2 => ?_⟩⟩⟩
  have hl : SqT X.K W2.H u vs := sqt_of (k2.ex _ _ (s2.hc _ _ hh))
  have en := pr.length
  have at_ : ∀ i, i < xs.reverse.length → ∃ x z, vs[vs.length - 1 - i]? = some x ∧ xs.reverse[i]? = some z ∧ r.ok W1.Hc x z := fun i hi => by
    rw [List.length_reverse] at hi
    obtain ⟨x, z, e1, e2, rr⟩ := paired_get (i := xs.length - 1 - i) pr (by omega)
    refine ⟨x, z, by rw [en]; exact e1, ?_, rr⟩
    rw [List.getElem?_reverse hi]; exact e2
  refine ⟨fun i hi => ?_, fun i w H' hi y => ?_, by show vs.length ≤ xs.reverse.length; rw [List.length_reverse, en]; exact Nat.le_refl _⟩
  · obtain ⟨x, _, e, _, _⟩ := at_ i hi
    rw [List.length_reverse] at hi
    exact ⟨by omega, vs, x, hl, e⟩
  · obtain ⟨x, z, e, e2, rr⟩ := at_ i hi
    obtain ⟨rfl, y⟩ := y
    have := (y vs hl).symm.trans e
    cases this
    exact ⟨W2, z, e2, rfl, k2, Grow.refl W2, r.mono s2.hc rr⟩
def rangeL (lo : Int) (n : Nat) : List Int := (List.range n).map fun (i : Nat) => lo + (i : Int)
theorem rangeL_len {lo : Int} {n : Nat} : (rangeL lo n).length = n := by simp [rangeL]
theorem rangeL_get {lo : Int} {n i : Nat} (h : i < n) : (rangeL lo n)[i]? = some (lo + (i : Int)) := by simp [rangeL, h]
theorem walks_range {lo : Int} {n : Nat} {W0 : Wd} : Walks (Itr lo n) rInt (rangeL lo n) W0 := fun W k s => by
  refine ⟨fun i hi => by rw [rangeL_len] at hi; exact hi, fun i v H' hi y => ?_, by show n ≤ _; rw [rangeL_len]; exact Nat.le_refl _⟩
  obtain ⟨rfl, rfl⟩ := y
  rw [rangeL_len] at hi
  exact ⟨W, _, rangeL_get hi, rfl, k, Grow.refl W, rfl⟩
def RgOk (i : Int) : Prop := -(2 ^ 62) ≤ i ∧ i < 2 ^ 62
theorem xi_range1 {M : Mp Int} {p : Pos} (hm : X.mg "range" = none) (h : XP X Γ a M rInt) (hg : Gl X "range" := by rfl) (hs : starEach [a] X.env = [(false, eval a X.env)] := by rfl) : XI X Γ tg (.Call (.Name "range" p) [a] [] pos) (fun P => M fun n => RgOk n ∧ P (rangeL 0 n.toNat)) rInt := by
  obtain ⟨t, pp, q⟩ := h
  refine ⟨_, pi_range1 hg hm (pa_cons pp pa_nil hs) hs, fun σ W k g Q P m h => q σ W k g _ _ m fun n v W1 ⟨m0, m1⟩ k1 s1 g1 r1 => ?_⟩
  have r1 : v = .int n := r1
  subst r1
  exact ⟨n, rfl, m0.1, m0.2, h _ _ W1 m1 k1 s1 g1 walks_range⟩
theorem xi_range2 {M N : Mp Int} {p : Pos} (hm : X.mg "range" = none) (h : XP X Γ a M rInt) (h' : XP X Γ b N rInt) (hg : Gl X "range" := by rfl) (hs : starEach [a, b] X.env = [(false, eval a X.env), (false, eval b X.env)] := by rfl) (hs2 : starEach [b] X.env = [(false, eval b X.env)] := by rfl) : XI X Γ tg (.Call (.Name "range" p) [a, b] [] pos) (fun P => M fun i => N fun j => (RgOk i ∧ RgOk j) ∧ P (rangeL i (j - i).toNat)) rInt := by
  obtain ⟨t, pp, q⟩ := h
  obtain ⟨u, pp2, q2⟩ := h'
  refine ⟨_, pi_range2 hg hm (pa_cons pp (pa_cons pp2 pa_nil hs2) (by rw [hs, hs2])) hs hs2, fun σ W k g Q P m h => q σ W k g _ _ m fun n v W1 m1 k1 s1 g1 r1 => ?_⟩
  refine q2 σ W1 k1 g1 _ _ m1 fun n2 v2 W2 ⟨m0, m2⟩ k2 s2 g2 r2 => ?_
  have r1 : v = .int n := r1
  have r2 : v2 = .int n2 := r2
  subst r1 r2
  exact ⟨n, n2, rfl, ⟨m0.1.1, m0.1.2, m0.2.1, m0.2.2⟩, h _ _ W2 m2 k2 (s1.trans s2) g2 walks_range⟩
def signsOf (x : Str) : List Nat := x.cps.toList
theorem xi_str {M : Mp Str} (h : XP X Γ iter M rStr) : XI X Γ tg iter (fun P => M fun s => P (signsOf s)) rSign := by
  obtain ⟨t, p, q⟩ := h
  refine ⟨_, pi_str p, fun σ W k g Q P m h => q σ W k g _ _ m fun s v W1 m1 k1 s1 g1 e => ⟨s, e, h _ _ W1 m1 k1 s1 g1 fun W2 k2 s2 => ?_⟩⟩
  have hl : (signsOf s).length = s.cps.size := by simp [signsOf]
  refine ⟨fun i hi => by rw [hl] at hi; exact hi, fun i w H' hi y => ?_, by show _ ≤ _; rw [hl]; exact Nat.le_refl _⟩
  obtain ⟨rfl, ch, e1, e2⟩ := y
  exact ⟨W2, ch, by simp only [signsOf]; rw [Array.getElem?_toList]; exact e1, rfl, k2, Grow.refl W2, e2⟩
/-- zip of two clean lists -/
theorem xi_zipL {Ma : Mp (List α)} {Mb : Mp (List β)} {ra : RT α} {rb : RT β} {p tpos : Pos} {elts : List Expr} {kk : Nat} (hm : X.mg "zip" = none) (ha : XP X Γ a Ma (rL ra)) (hb : XP X Γ b Mb (rL rb)) (hg : Gl X "zip" := by rfl) (h1 : starEach [a, b] X.env = (false, eval a X.env) :: starEach [b] X.env := by rfl) (h2 : starEach [b] X.env = (false, eval b X.env) :: starEach [] X.env := by rfl)
    (hpi : ∀ t, PA X [a, b] t → PI X (.Tuple elts kk tpos) (.Call (.Name "zip" p) [a, b] [] pos) (iZip X.K t)) : XI X Γ (.Tuple elts kk tpos) (.Call (.Name "zip" p) [a, b] [] pos) (fun P => Ma fun xs => Mb fun ys => P (xs.zip ys)) (rP ra rb) := by
  obtain ⟨t, pp, q⟩ := ha
  obtain ⟨u, pp2, q2⟩ := hb
  refine ⟨_, hpi _ (pa_cons pp (pa_cons pp2 pa_nil h2) h1), fun σ W k g Q P m h => q σ W k g _ _ m fun xs v W1 m1 k1 s1 g1 r1 => ?_⟩
  refine q2 σ W1 k1 g1 _ _ m1 fun ys v2 W2 m2 k2 s2 g2 r2 => ?_
  obtain ⟨pa', vs, e1, hh1, pr1⟩ := (rL ra).mono s2.hc r1
  obtain ⟨pb', ws, e2, hh2, pr2⟩ := r2
  subst e1 e2
  refine ⟨pa', pb', vs, ws, rfl, sql_of (k2.ex _ _ hh1), sql_of (k2.ex _ _ hh2), h _ _ W2 m2 k2 (s1.trans s2) g2 fun W3 k3 s3 => ?_⟩
  have l1 : SqL X.K W3.H pa' vs := sql_of (k3.ex _ _ (s3.hc _ _ hh1))
  have l2 : SqL X.K W3.H pb' ws := sql_of (k3.ex _ _ (s3.hc _ _ hh2))
  have n1 := pr1.length
  have n2 := pr2.length
  have at_ : ∀ i, i < (xs.zip ys).length → ∃ x y x' y', vs[i]? = some x ∧ ws[i]? = some y ∧ (xs.zip ys)[i]? = some (x', y') ∧ ra.ok W2.Hc x x' ∧ rb.ok W2.Hc y y' := fun i hi => by
    rw [List.length_zip] at hi
    obtain ⟨x, x', a1, a2, a3⟩ := paired_get (i := i) pr1 (by omega)
    obtain ⟨y, y', b1, b2, b3⟩ := paired_get (i := i) pr2 (by omega)
    exact ⟨x, y, x', y', a1, b1, by rw [List.getElem?_zip_eq_some]; exact ⟨a2, b2⟩, a3, b3⟩
  refine ⟨fun i hi => ?_, fun i w H' hi y => ?_, ?_⟩
  · obtain ⟨x, y, _, _, c1, c2, _⟩ := at_ i hi
    exact ⟨vs, ws, x, y, l1, l2, c1, c2⟩
  · obtain ⟨x, y', x2, y2, c1, c2, c3, c4, c5⟩ := at_ i hi
    obtain ⟨T, x0, y0, rfl, nT, rfl, d1, d2⟩ := y
    have e1 := (d1 vs l1).symm.trans c1
    have e2 := (d2 ws l2).symm.trans c2
    cases e1
    cases e2
    have gg := grow_add (o := .tup [x, y']) k3 nT
    exact ⟨W3.add T (.tup [x, y']), _, c3, rfl, k3.add nT, gg, T, x, y', rfl, upd_same, ra.mono gg.hc (ra.mono s3.hc c4), rb.mono gg.hc (rb.mono s3.hc c5)⟩
  · refine ⟨vs, ws, l1, l2, ?_⟩
    rw [List.length_zip, n1, n2]
    omega
theorem spc {r : RT α} {v : V} {x : α} {i : Nat} {W : Wd} (h : r.ok W.Hc v x) : SPok (.cl r x) i (some v) W := ⟨v, rfl, h⟩
/-! ### targets -/
def XG (X : Cx) (tg : Expr) (Γs : S → List SP) (r : RT α) (Γt : α → S → List SP) : Prop :=
  ∃ g, PG X tg g ∧ ∀ (σ : St) (W : Wd) v x s, W.Ok → Sat (Γs s) σ W → r.ok W.Hc v x → ∀ Q : St → Hp → Prop, (∀ σ', Sat (Γt x s) σ' W → Q σ' W.H) → g v σ W.H Q
theorem xg_name (i : Nat) {x : Str} {Γs : S → List SP} {r : RT α} (hnd : X.N.Nodup) (hN : X.N[i]? = some x := by rfl) (hx : Loc X.env.scope x := by first | exact .inl rfl | exact .inr rfl) (hf : X.fn x = true ∨ X.env.scope.names.lookup x = some .local := by first | exact .inl rfl | exact .inr rfl) :
    XG X (.Name x pos) Γs r (fun y s => (Γs s).set i (.cl r y)) :=
  ⟨_, pg_name hnd hN hx hf, fun σ W v y s k g rr Q h => h _ (g.put (spc rr))⟩
theorem xg_tup2 (i j : Nat) {x y : Str} {p1 p2 : Pos} {k : Nat} {Γs : S → List SP} {ra : RT α} {rb : RT β} (hnd : X.N.Nodup) (hg : PG X (.Tuple [.Name x p1, .Name y p2] k pos) (gTup X.K 2 (gCons (gName i) (gCons (gName j) gNil)))) :
    XG X (.Tuple [.Name x p1, .Name y p2] k pos) Γs (rP ra rb) (fun z s => ((Γs s).set i (.cl ra z.1)).set j (.cl rb z.2)) :=
  ⟨_, hg, fun σ W v z s kk g ⟨u, a1, a2, e, hh, r1, r2⟩ Q h => ⟨u, [a1, a2], e, sqt_of (kk.ex _ _ hh), rfl, a1, [a2], rfl, a2, [], rfl, rfl, h _ ((g.put (spc r1)).put (spc r2))⟩⟩
theorem xg_tup3 (i j l : Nat) {x y z : Str} {p1 p2 p3 : Pos} {k : Nat} {Γs : S → List SP} {ra : RT α} {rb : RT β} {rc : RT γ} (hnd : X.N.Nodup) (hg : PG X (.Tuple [.Name x p1, .Name y p2, .Name z p3] k pos) (gTup X.K 3 (gCons (gName i) (gCons (gName j) (gCons (gName l) gNil))))) :
    XG X (.Tuple [.Name x p1, .Name y p2, .Name z p3] k pos) Γs (rP3 ra rb rc) (fun z s => (((Γs s).set i (.cl ra z.1)).set j (.cl rb z.2.1)).set l (.cl rc z.2.2)) :=
  ⟨_, hg, fun σ W v z s kk g ⟨u, a1, a2, a3, e, hh, r1, r2, r3⟩ Q h => ⟨u, [a1, a2, a3], e, sqt_of (kk.ex _ _ hh), rfl, a1, [a2, a3], rfl, a2, [a3], rfl, a3, [], rfl, rfl, h _ (((g.put (spc r1)).put (spc r2)).put (spc r3))⟩⟩
/-- a, b = e -/
theorem xt_unp {M : Mp α} {r : RT α} {Γt : α → List SP} {Γb : B → List SP} {RR : R → V → Wd → Prop} (h : XP X Γ e M r) (hg : XG X tg (fun _ : Unit => Γ) r (fun x _ => Γt x)) (hs : swapsWithSole [tg] e pos.line X.env = pure false := by rfl) (hw : swappedStores [tg] e X.env = pure none := by rfl) (ha : (assignEach [tg] X.env).map (·.2) = [assign tg X.env] := by rfl) :
    XSt X Γ (.Assign [tg] e pos) (fun κ : Kn α B R => M κ.nx) Γt Γb RR := by
  obtain ⟨t, p, q⟩ := h
  obtain ⟨g, p2, q2⟩ := hg
  refine ⟨_, ps_asg p p2 hs hw ha, fun σ W k gg κ D m h1 _ _ _ => ?_⟩
  exact q σ W k gg _ _ m fun x v W1 m1 k1 s1 g1 r1 => q2 σ W1 v x () k1 g1 r1 _ fun σ' g' => h1 x σ' W1 m1 k1 s1 g'
/-! ### loops -/
def forW : List α → S → (α → S → (S → Prop) → Prop) → (S → Prop) → Prop
  | [], s, _, k => k s
  | x :: xs, s, f, k => f x s fun s' => forW xs s' f k
theorem xt_for {Ms : Mp (List α)} {r : RT α} {Γs : S → List SP} {Γt : α → S → List SP} {Mb : α → S → Kn S S R → Prop} {Γb : B → List SP} {RR : R → V → Wd → Prop} (s0 : S) (hp : PassesOwn (model X.prog X.w) X.A X.env X.xe) (hcalm : X.calm = true) (hi : XI X Γ tg iter Ms r) (hg : XG X tg Γs r Γt) (hb : ∀ x s, XS X (Γt x s) body (Mb x s) Γs Γs RR) (h0 : leL Γ (Γs s0))
    (hs : ∀ x, foldedSetIterable iter X.env x = pure x := by intro _; rfl) :
    XSt X Γ (.For tg iter body [] pos) (fun κ : Kn S B R => Ms fun xs => forW xs s0 (fun x s nx => Mb x s ⟨nx, κ.nx, nx, κ.rt⟩) κ.nx) Γs Γb RR := by
  obtain ⟨wi, p, q⟩ := hi
  obtain ⟨g, p2, q2⟩ := hg
  refine ⟨_, ps_for hp hcalm p p2 (pss_ex (fun x => pss_ex fun s => (Classical.choose_spec (hb x s)).1)) hs, fun σ W k gg κ D m h1 _ _ h4 => ?_⟩
  refine q σ W k gg _ _ m fun xs J W1 m1 k1 s1 g1 wk => ?_
  refine ⟨fun i m σ' H' => m = xs.length - i ∧ i ≤ xs.length ∧ ∃ s W', W'.H = H' ∧ W'.Ok ∧ Step W1 W' ∧ Sat (Γs s) σ' W' ∧ forW (xs.drop i) s (fun x s nx => Mb x s ⟨nx, κ.nx, nx, κ.rt⟩) κ.nx, ⟨xs.length, by simp, Nat.zero_le _, s0, W1, rfl, k1, Step.refl W1, g1.le h0, m1⟩, ?_⟩
  rintro i n σ' H' ⟨rfl, hi, s, W', rfl, k', s', g', f'⟩
  obtain ⟨wgo, wy, wst⟩ := wk W' k' s'
  by_cases hlt : i < xs.length
  · refine .inr ⟨wgo i hlt, fun σ2 H2 => i + 1 ≤ xs.length ∧ ∃ s W', W'.H = H2 ∧ W'.Ok ∧ Step W1 W' ∧ Sat (Γs s) σ2 W' ∧ forW (xs.drop (i + 1)) s (fun x s nx => Mb x s ⟨nx, κ.nx, nx, κ.rt⟩) κ.nx, fun σ2 H2 h => ⟨xs.length - (i + 1), by omega, rfl, h.1, h.2⟩, fun v H2 y => ?_⟩
    obtain ⟨W2, x, ex, rfl, k2, gr2, rr⟩ := wy i v H2 hlt y
    refine q2 σ' W2 v x s k2 (g'.up (gr2.up k')) rr _ fun σ3 g3 => ⟨x, s, ?_⟩
    have hd : xs.drop i = x :: xs.drop (i + 1) := by
      rw [List.drop_eq_getElem_cons hlt]
      rw [List.getElem?_eq_getElem hlt] at ex
      cases ex; rfl
    rw [hd] at f'
    have s2 := (s1.trans s').trans gr2.step
    refine (Classical.choose_spec (hb x s)).2 σ3 W2 k2 g3 ⟨fun s' => forW (xs.drop (i + 1)) s' (fun x s nx => Mb x s ⟨nx, κ.nx, nx, κ.rt⟩) κ.nx, κ.nx, fun s' => forW (xs.drop (i + 1)) s' (fun x s nx => Mb x s ⟨nx, κ.nx, nx, κ.rt⟩) κ.nx, κ.rt⟩ _ f'
      (fun z σ4 W4 a b c d => ⟨hlt, z, W4, rfl, b, (s'.trans gr2.step).trans c, d, a⟩) (fun z σ4 W4 a b c d => h1 z σ4 W4 a b (s2.trans c) d) (fun z σ4 W4 a b c d => ⟨hlt, z, W4, rfl, b, (s'.trans gr2.step).trans c, d, a⟩) (fun rr v W4 a b c d => h4 rr v W4 a b (s2.trans c) d)
  · have e : i = xs.length := by omega
    subst e
    rw [List.drop_length] at f'
    exact .inl ⟨wst, h1 s σ' W' f' k' (s1.trans s') g'⟩
/-- while: an invariant and a measure of one's own, told where the loop is met -/
def whileW (c : S → Mp Bool) (f : S → (S → Prop) → Prop) (s0 : S) (k : S → Prop) : Prop := ∃ I : Nat → S → Prop, (∃ n, I n s0) ∧ ∀ n s, I n s → c s fun b => if b = true then f s (fun s' => ∃ m, m < n ∧ I m s') else k s
theorem xt_while {Γs : S → List SP} {Mc : S → Mp Bool} {Mb : S → Kn S S R → Prop} {Γb : B → List SP} {RR : R → V → Wd → Prop} (s0 : S) (hp : PassesOwn (model X.prog X.w) X.A X.env X.xe) (hc : ∀ s, XT X (Γs s) c (Mc s)) (hb : ∀ s, XS X (Γs s) body (Mb s) Γs Γs RR) (h0 : leL Γ (Γs s0)) :
    XSt X Γ (.While c body [] pos) (fun κ : Kn S B R => whileW Mc (fun s nx => Mb s ⟨nx, κ.nx, nx, κ.rt⟩) s0 κ.nx) Γs Γb RR := by
  have pt : PT X c (fun σ H Q => ∃ s, Classical.choose (hc s) σ H Q) := ⟨fun pins s σ H Q I ⟨z, w⟩ => (Classical.choose_spec (hc z)).1.run pins s σ H Q I w⟩
  refine ⟨_, ps_while hp pt (pss_ex fun s => (Classical.choose_spec (hb s)).1), fun σ W k gg κ D ⟨I, ⟨n0, i0⟩, turn⟩ h1 _ _ h4 => ?_⟩
  refine ⟨fun n σ' H' => ∃ s W', W'.H = H' ∧ W'.Ok ∧ Step W W' ∧ Sat (Γs s) σ' W' ∧ I n s, ⟨n0, s0, W, rfl, k, Step.refl W, gg.le h0, i0⟩, ?_⟩
  rintro n σ' H' ⟨s, W', rfl, k', s', g', i'⟩
  refine ⟨s, (Classical.choose_spec (hc s)).2 σ' W' k' g' _ _ (turn n s i') fun b W2 m2 k2 s2 g2 => ?_⟩
  cases b with
  | true =>
    refine ⟨fun σ4 H4 => ∃ m, m < n ∧ ∃ s W', W'.H = H4 ∧ W'.Ok ∧ Step W W' ∧ Sat (Γs s) σ4 W' ∧ I m s, fun _ _ h => h, s, ?_⟩
    exact (Classical.choose_spec (hb s)).2 σ' W2 k2 g2 ⟨fun s' => ∃ m, m < n ∧ I m s', κ.nx, fun s' => ∃ m, m < n ∧ I m s', κ.rt⟩ _ m2
      (fun z σ4 W4 ⟨m, hm, hI⟩ b c d => ⟨m, hm, z, W4, rfl, b, (s'.trans s2).trans c, d, hI⟩) (fun z σ4 W4 a b c d => h1 z σ4 W4 a b ((s'.trans s2).trans c) d) (fun z σ4 W4 ⟨m, hm, hI⟩ b c d => ⟨m, hm, z, W4, rfl, b, (s'.trans s2).trans c, d, hI⟩) (fun rr v W4 a b c d => h4 rr v W4 a b ((s'.trans s2).trans c) d)
  | false => exact h1 s σ' W2 m2 k2 (s'.trans s2) g2
end
end TM
set_option Elab.async false
set_option linter.all false
set_option maxRecDepth 100000
namespace TM
open PySem PySem.Spec PyProof.Rows L2
section
variable {X : Cx} {Γ Δ : List SP} {α β γ δ τ S S' B R : Type} {e a b c tg iter elt : Expr} {es : List Expr} {pos : Pos} {st : Stmt} {sts rest body : List Stmt}
/-! ### slots one by one -/
theorem satL_of : ∀ {Γ : List SP} {j : Nat} {σ : St} {W : Wd}, σ.length = Γ.length → (∀ k o, σ[k]? = some o → SPok (look Γ k) (j + k) o W) → SatL j Γ σ W
  | [], _, [], _, _, _ => trivial
  | p :: ps, j, o :: σ, W, hl, h => by
    refine ⟨h 0 o rfl, satL_of (Nat.succ.inj hl) fun k o' e => ?_⟩
    have := h (k + 1) o' e
    rw [show j + 1 + k = j + (k + 1) by omega]; exact this
theorem sat_of {Γ : List SP} {σ : St} {W : Wd} (hl : σ.length = Γ.length) (h : ∀ k o, σ[k]? = some o → SPok (look Γ k) k o W) : Sat Γ σ W := satL_of hl fun k o e => by rw [Nat.zero_add]; exact h k o e
theorem sat_at {Γ : List SP} {σ : St} {W : Wd} (g : Sat Γ σ W) {k : Nat} {o : Option V} (e : σ[k]? = some o) : SPok (look Γ k) k o W := by
  have hk : k < Γ.length := by rw [← SatL.len g]; exact (List.getElem?_eq_some_iff.mp e).1
  obtain ⟨o', e', h⟩ := SatL.get g hk
  rw [e] at e'
  cases e'
  rw [Nat.zero_add] at h
  exact h
def wipeL (Γ : List SP) : List Nat → List SP
  | [] => Γ
  | v :: vs => (wipeL Γ vs).set v .unk
theorem sat_wipe {Γ : List SP} {σ : St} {W : Wd} (g : Sat Γ σ W) : ∀ vs : List Nat, Sat (wipeL Γ vs) (wipe σ vs) W
  | [] => g
  | v :: vs => (sat_wipe g vs).put (p := .unk) trivial
theorem look_set_ne : ∀ {Γ : List SP} {i k : Nat} {p : SP}, k ≠ i → look (Γ.set i p) k = look Γ k
  | [], _, _, _, _ => rfl
  | q :: Γ, 0, 0, _, h => absurd rfl h
  | q :: Γ, 0, k + 1, _, _ => rfl
  | q :: Γ, i + 1, 0, _, _ => rfl
  | q :: Γ, i + 1, k + 1, p, h => look_set_ne (Γ := Γ) (i := i) (k := k) (p := p) fun z => h (by omega)
theorem look_wipe {Γ : List SP} {k : Nat} : ∀ {vs : List Nat}, k ∉ vs → look (wipeL Γ vs) k = look Γ k
  | [], _ => rfl
  | v :: vs, h => by
    have h1 : k ≠ v := fun z => h (by rw [z]; exact List.mem_cons_self)
    show look ((wipeL Γ vs).set v .unk) k = _
    rw [look_set_ne h1]
    exact look_wipe fun z => h (List.mem_cons_of_mem _ z)
theorem get_wipe {σ : St} {k : Nat} : ∀ {vs : List Nat}, k ∉ vs → (wipe σ vs)[k]? = σ[k]?
  | [], _ => rfl
  | v :: vs, h => by
    have h1 : v ≠ k := fun z => h (by rw [z]; exact List.mem_cons_self)
    show ((wipe σ vs).set v none)[k]? = _
    rw [List.getElem?_set_ne h1]
    exact get_wipe fun z => h (List.mem_cons_of_mem _ z)
def isClu : SP → Bool
  | .unk => true
  | .cl _ _ => true
  | _ => false
theorem sat_unwipe {Γ : List SP} {σ : St} {W W' : Wd} {vs : List Nat} (g : Sat Γ σ W) (s : Step W W') (g' : Sat (wipeL Γ vs) (wipe σ vs) W') (hv : ∀ j ∈ vs, isClu (look Γ j) = true) : Sat Γ σ W' := by
  refine sat_of (SatL.len g) fun k o e => ?_
  by_cases hk : k ∈ vs
  · have h1 := sat_at g e
    have h2 := hv k hk
    cases hp : look Γ k with
    | unk => trivial
    | bot => rw [hp] at h2; cases h2
    | cl r x => rw [hp] at h1; obtain ⟨v, q, w⟩ := h1; exact ⟨v, q, r.mono s.hc w⟩
    | own r xs => rw [hp] at h2; cases h2
    | ownA b r xs => rw [hp] at h2; cases h2
    | bx b => rw [hp] at h2; cases h2
    | dp r x => rw [hp] at h2; cases h2
    | gen g => rw [hp] at h2; cases h2
  · have := sat_at g' (k := k) (o := o) (by rw [get_wipe hk]; exact e)
    rw [look_wipe hk] at this
    exact this
/-! ### what a comprehension walks: one's own lists too -/
def WalksL (Γ : List SP) (σ : St) (vs : List Nat) (J : It) (r : RT α) (xs : List α) (W0 : Wd) : Prop := ∀ W : Wd, W.Ok → Step W0 W → Sat (wipeL Γ vs) (wipe σ vs) W →
  (∀ i, i < xs.length → J.go i W.H) ∧ (∀ i v H', i < xs.length → J.yld i W.H v H' → ∃ W' x, xs[i]? = some x ∧ W'.H = H' ∧ W'.Ok ∧ Grow W W' ∧ r.ok W'.Hc v x) ∧ J.stop xs.length W.H
def XIL (X : Cx) (Γ : List SP) (tg iter : Expr) (vs : List Nat) (M : Mp (List α)) (r : RT α) : Prop :=
  ∃ wi, PI X tg iter wi ∧ ∀ (σ : St) (W : Wd), W.Ok → Sat Γ σ W → ∀ (Q : It → Hp → Prop) (P : List α → Prop), M P → (∀ xs J W', P xs → W'.Ok → Step W W' → Sat Γ σ W' → WalksL Γ σ vs J r xs W' → Q J W'.H) → wi σ W.H Q
theorem xil {vs : List Nat} {M : Mp (List α)} {r : RT α} (h : XI X Γ tg iter M r) : XIL X Γ tg iter vs M r := let ⟨wi, p, q⟩ := h; ⟨wi, p, fun σ W k g Q P m hh => q σ W k g Q P m fun xs J W' pm k' s' g' wk => hh xs J W' pm k' s' g' fun W2 k2 s2 _ => wk W2 k2 s2⟩
theorem xil_own (i : Nat) {x : Str} {p : Pos} {vs : List Nat} {r : RT α} {xs : List α} (h : look Γ i = .own r xs) (hi : i ∉ vs) (hN : X.N[i]? = some x := by rfl) (hv : Vis X.env.scope x := by first | exact Or.inl rfl | exact Or.inr (Or.inl rfl) | exact Or.inr (Or.inr rfl)) (hd : (x == ("__debug__" : Str)) = false := by decide) (hcd : (x == ("__classdict__" : Str)) = false := by decide) : XIL X Γ tg (.Name x p) vs (fun P => P xs) r := by
  refine ⟨_, pi_list (pe_var hN hv hd hcd), fun σ W k g Q P m hh => ?_⟩
  obtain ⟨o, eo, u, vs0, rfl, n, ho, hhp, pr⟩ := g.look h (by simp)
  refine ⟨.ref u, eo, u, rfl, ⟨vs0, sql_of hhp⟩, hh xs _ W m k (Step.refl W) g fun W2 k2 s2 g2 => ?_⟩
  obtain ⟨o', eo', u', vs', rfl, n', ho', hh', pr'⟩ := g2.look (i := i) (p := .own r xs) (by rw [look_wipe hi]; exact h) (by simp)
  rw [get_wipe hi, eo] at eo'
  cases eo'
  have hl : SqL X.K W2.H u vs' := sql_of hh'
  refine ⟨fun i hi => ?_, fun i w H' hi y => ?_, ⟨vs', hl, by rw [pr'.length]; exact Nat.le_refl _⟩⟩
  · obtain ⟨x, _, e, _, _⟩ := paired_get pr' hi
    exact ⟨vs', x, hl, e⟩
  · obtain ⟨x, z, e, e2, rr⟩ := paired_get pr' hi
    obtain ⟨rfl, y⟩ := y
    have := (y vs' hl).symm.trans e
    cases this
    exact ⟨W2, z, e2, rfl, k2, Grow.refl W2, rr⟩
/-! ### comprehensions -/
def lcW : List α → (α → (Option β → Prop) → Prop) → List β → (List β → Prop) → Prop
  | [], _, acc, k => k acc
  | x :: xs, f, acc, k => f x fun o => match o with
    | none => lcW xs f acc k
    | some y => lcW xs f (acc ++ [y]) k
theorem step_mutF {W W' : Wd} (s : Step W W') {D : Addr} {o : HO} (h : W.H D = none) : Step W (W'.mut D o) := by
  have ne : ∀ b, W.H b ≠ none → b ≠ D := fun b e z => e (by rw [z]; exact h)
  refine ⟨fun b u e n => ?_, fun b e => upd_dom (s.dom b e), s.hc, s.old, s.B⟩
  show upd W'.H D o b = some u
  rw [upd_ne (ne b (ne_none_of e))]; exact s.keep b u e n
theorem up_mutF {W : Wd} {D : Addr} {o : HO} (h : W.O D = none) : Up W (W.mut D o) := ⟨fun _ _ e => e, fun b j e => ⟨e, by
  show upd W.H D o b = W.H b
  rw [upd_ne fun z => by rw [z, h] at e; cases e]⟩, rfl, fun _ _ e => e⟩
/-- what a comprehension makes, from its pieces -/
def XLC (X : Cx) (Γ : List SP) (elt tg iter : Expr) (ifs : List Expr) (scope : Scope) (own : List (Str × Nat)) (g : TG) (M : Mp (List β)) (r : RT β) : Prop :=
  ∃ wi tt te, PI X tg iter wi ∧ (∀ (s : Shared) (H : Hp) (C : Addr) (cl : List (Str × Addr)) (fp : List Addr), PTs (X.blk s H scope (compEnvC scope cl C X.env) fp) ifs tt) ∧
    (∀ (s : Shared) (H : Hp) (C : Addr) (cl : List (Str × Addr)) (fp : List Addr), PE (X.blk s H scope (compEnvC scope cl C X.env) fp) elt te) ∧
    ∀ (σ : St) (W : Wd), W.Ok → Sat Γ σ W → ∀ (Q : VK) (P : List β → Prop), M P →
      (∀ xs p vs W', P xs → W'.Ok → Step W W' → Sat Γ σ W' → W.H p = none → W'.Hc p = none → W'.O p = none → W'.H p = some (.lst vs) → Paired (r.ok W'.Hc) vs xs → Q (.ref p) W'.H) → tLc wi g tt te (own.map (·.2)) σ W.H Q
theorem xlc_core {scope : Scope} {own : List (Str × Nat)} {g : TG} {ifs : List Expr} {Ms : Mp (List α)} {ra : RT α} {r : RT β} {Γt : α → List SP} {Mc : α → Mp Bool} {Me : α → Mp β} {tt : TT}
    (hi : XIL X Γ tg iter (own.map (·.2)) Ms ra) (hv : ∀ j ∈ own.map (·.2), isClu (look Γ j) = true)
    (hg : ∀ (σ : St) (W : Wd) v x, W.Ok → Sat (wipeL Γ (own.map (·.2))) (wipe σ (own.map (·.2))) W → ra.ok W.Hc v x → ∀ Q : St → Hp → Prop, (∀ σ', Sat (Γt x) σ' W → wipe σ' (own.map (·.2)) = wipe σ (own.map (·.2)) → Q σ' W.H) → g v (wipe σ (own.map (·.2))) W.H Q)
    (hback : ∀ (σ σ' : St) (W : Wd) x, Sat (Γt x) σ' W → wipe σ' (own.map (·.2)) = wipe σ (own.map (·.2)) → Sat (wipeL Γ (own.map (·.2))) (wipe σ (own.map (·.2))) W)
    (ht : ∀ (s : Shared) (H : Hp) (C : Addr) (cl : List (Str × Addr)) (fp : List Addr), PTs (X.blk s H scope (compEnvC scope cl C X.env) fp) ifs tt)
    (hts : ∀ x (σ : St) (W : Wd), W.Ok → Sat (Γt x) σ W → ∀ (Q : Bool → Hp → Prop) (P : Bool → Prop), Mc x P → (∀ b W', P b → W'.Ok → Step W W' → Sat (Γt x) σ W' → Q b W'.H) → tt σ W.H Q)
    (he : ∀ x (s : Shared) (H : Hp) (C : Addr) (cl : List (Str × Addr)) (fp : List Addr), XP (X.blk s H scope (compEnvC scope cl C X.env) fp) (Γt x) elt (Me x) r) :
    XLC X Γ elt tg iter ifs scope own g (fun P => Ms fun xs => xs.length ≤ sizeLine ∧ lcW xs (fun x nx => Mc x fun b => if b = true then Me x fun y => nx (some y) else nx none) [] P) r := by
  obtain ⟨wi, p, q⟩ := hi
  refine ⟨wi, tt, fun σ H Q => ∃ x, ∀ (s : Shared) (H' : Hp) (C : Addr) (cl : List (Str × Addr)) (fp : List Addr), Classical.choose (he x s H' C cl fp) σ H Q, p, ht, fun s H C cl fp => ⟨fun pins s' σ H' Q I ⟨x, h⟩ => (Classical.choose_spec (he x s H C cl fp)).1.run pins s' σ H' Q I (h s H C cl fp)⟩, ?_⟩
  intro σ W k gg Q P m h
  generalize hvs : own.map (·.2) = vs at *
  refine q σ W k gg _ _ m fun xs J W1 ⟨mz, m1⟩ k1 s1 g1 wk => ?_
  intro D nD
  have n0 : W.H D = none := fresh_of s1 nD
  refine ⟨fun i m H' => m = xs.length - i ∧ i ≤ xs.length ∧ ∃ acc ws W', W'.H = H' ∧ W'.Ok ∧ Step W1 W' ∧ Sat (wipeL Γ vs) (wipe σ vs) W' ∧ W'.H D = some (.lst ws) ∧ W'.Hc D = none ∧ W'.O D = none ∧ Paired (r.ok W'.Hc) ws acc ∧ acc.length ≤ i ∧
      lcW (xs.drop i) (fun x nx => Mc x fun b => if b = true then Me x fun y => nx (some y) else nx none) acc P,
    ⟨xs.length, by simp, Nat.zero_le _, [], [], W1.lay D (.lst []), rfl, k1.lay nD, (grow_lay nD).step, (sat_wipe g1 vs).up ((grow_lay nD).up k1), upd_same, k1.none_of nD, k1.free nD, .nil, Nat.le_refl _, m1⟩, ?_⟩
  rintro i n H' ⟨rfl, hi, acc, ws, W', rfl, k', s', g', hD, hc, hO, pr, hl, f'⟩
  obtain ⟨wgo, wy, wst⟩ := wk W' k' s' g'
  by_cases hlt : i < xs.length
  · refine .inr ⟨wgo i hlt, fun H2 => i + 1 ≤ xs.length ∧ ∃ acc ws W', W'.H = H2 ∧ W'.Ok ∧ Step W1 W' ∧ Sat (wipeL Γ vs) (wipe σ vs) W' ∧ W'.H D = some (.lst ws) ∧ W'.Hc D = none ∧ W'.O D = none ∧ Paired (r.ok W'.Hc) ws acc ∧ acc.length ≤ i + 1 ∧
        lcW (xs.drop (i + 1)) (fun x nx => Mc x fun b => if b = true then Me x fun y => nx (some y) else nx none) acc P, fun H2 h => ⟨xs.length - (i + 1), by omega, rfl, h.1, h.2⟩, fun v H2 y => ?_⟩
    obtain ⟨W2, x, ex, rfl, k2, gr2, rr⟩ := wy i v H2 hlt y
    have hd : xs.drop i = x :: xs.drop (i + 1) := by
      rw [List.drop_eq_getElem_cons hlt]
      rw [List.getElem?_eq_getElem hlt] at ex
      cases ex; rfl
    rw [hd] at f'
    have s2 := s'.trans gr2.step
    have dne : W'.H D ≠ none := ne_none_of hD
    have hD2 := gr2.keep _ _ hD
    have hc2 : W2.Hc D = none := (gr2.old D dne).trans hc
    have hO2 : W2.O D = none := by rw [gr2.O]; exact hO
    refine hg σ W2 v x k2 (g'.up (gr2.up k')) rr _ fun σ3 g3 hw => ⟨hw, ?_⟩
    refine hts x σ3 W2 k2 g3 _ _ f' fun bb W3 m3 k3 s3 g3' => ?_
    have hD3 := s3.keep _ _ hD2 hO2
    obtain ⟨hc3, hO3⟩ := s3.old D (ne_none_of hD2) hO2
    have hc3 := hc3.trans hc2
    cases bb with
    | false => exact ⟨hlt, acc, ws, W3, rfl, k3, s2.trans s3, hback σ σ3 W3 x g3' hw, hD3, hc3, hO3, pmap pr fun _ _ => r.mono fun b o e => s3.hc b o (gr2.hc b o e), by omega, m3⟩
    | true =>
      refine ⟨x, fun sA HA C cl fp => ?_⟩
      refine (Classical.choose_spec (he x sA HA C cl fp)).2 σ3 W3 k3 g3' _ _ m3 fun y w W4 m4 k4 s4 g4 r4 => ?_
      have hD4 := s4.keep _ _ hD3 hO3
      obtain ⟨hc4, hO4⟩ := s4.old D (ne_none_of hD3) hO3
      have hc4 := hc4.trans hc3
      have e4 : Ex W'.Hc W4.Hc := fun b o e => s4.hc b o (s3.hc b o (gr2.hc b o e))
      refine ⟨ws, hD4, by rw [pr.length]; omega, hlt, acc ++ [y], ws ++ [w], W4.mut D (.lst (ws ++ [w])), rfl, k4.mutB hc4 fun q => absurd (base_free k (s1.trans ((s2.trans s3).trans s4)) n0) q, step_mutF ((s2.trans s3).trans s4) nD, hback σ σ3 _ x (g4.up (up_mutF hO4)) hw, upd_same, hc4, hO4, (pmap pr fun _ _ => r.mono e4).snoc r4, by rw [List.length_append, List.length_singleton]; omega, m4⟩
  · have e : i = xs.length := by omega
    subst e
    rw [List.drop_length] at f'
    refine .inl ⟨wst, h acc D ws W' f' k' (s1.trans s') ?_ n0 hc hO hD pr⟩
    exact sat_unwipe gg (s1.trans s') g' hv
theorem set_set' {σ : St} {i : Nat} {o u : Option V} : (σ.set i o).set i u = σ.set i u := List.set_set ..
/-- [elt for x in iter] -/
theorem xlc_1 (i : Nat) {x : Str} {scope : Scope} {Ms : Mp (List α)} {ra : RT α} {r : RT β} {Me : α → Mp β} (hi : XIL X Γ tg iter [i] Ms ra) (hv : isClu (look Γ i) = true)
    (he : ∀ y (s : Shared) (H : Hp) (C : Addr) (cl : List (Str × Addr)) (fp : List Addr), XP (X.blk s H scope (compEnvC scope cl C X.env) fp) ((Γ.set i .unk).set i (.cl ra y)) elt (Me y) r) :
    XLC X Γ elt tg iter [] scope [(x, i)] (gName i) (fun P => Ms fun xs => xs.length ≤ sizeLine ∧ lcW xs (fun x nx => Me x fun y => nx (some y)) [] P) r :=
  xlc_core (Γt := fun y => (Γ.set i .unk).set i (.cl ra y)) (Mc := fun _ P => P true) hi (fun j hj => by
    have : j = i := by simpa using hj
    rw [this]; exact hv) (fun σ W v y k g rr Q h => h _ (g.put (spc rr)) (by show List.set (List.set (List.set σ i none) i (some v)) i none = List.set σ i none; rw [List.set_set, List.set_set]))
    (fun σ σ' W y g hw => by
      rw [← hw]
      have h1 : Sat (((Γ.set i .unk).set i (.cl ra y)).set i .unk) (σ'.set i none) W := g.put (p := .unk) trivial
      rw [List.set_set, List.set_set] at h1
      exact h1) (fun _ _ _ _ _ => pts_nil) (fun y σ W k g Q P m h => h true W m k (Step.refl W) g) he
theorem xlc_1if (i : Nat) {x : Str} {scope : Scope} {Ms : Mp (List α)} {ra : RT α} {r : RT β} {Mc : α → Mp Bool} {Me : α → Mp β} (hi : XIL X Γ tg iter [i] Ms ra) (hv : isClu (look Γ i) = true)
    (hc : ∀ y (s : Shared) (H : Hp) (C : Addr) (cl : List (Str × Addr)) (fp : List Addr), XT (X.blk s H scope (compEnvC scope cl C X.env) fp) ((Γ.set i .unk).set i (.cl ra y)) c (Mc y))
    (he : ∀ y (s : Shared) (H : Hp) (C : Addr) (cl : List (Str × Addr)) (fp : List Addr), XP (X.blk s H scope (compEnvC scope cl C X.env) fp) ((Γ.set i .unk).set i (.cl ra y)) elt (Me y) r) :
    XLC X Γ elt tg iter [c] scope [(x, i)] (gName i) (fun P => Ms fun xs => xs.length ≤ sizeLine ∧ lcW xs (fun x nx => Mc x fun b => if b = true then Me x fun y => nx (some y) else nx none) [] P) r :=
  xlc_core (Γt := fun y => (Γ.set i .unk).set i (.cl ra y)) (tt := fun σ H Q => ∃ y, ∀ (s : Shared) (H' : Hp) (C : Addr) (cl : List (Str × Addr)) (fp : List Addr), Classical.choose (hc y s H' C cl fp) σ H Q) hi (fun j hj => by
    have : j = i := by simpa using hj
    rw [this]; exact hv) (fun σ W v y k g rr Q h => h _ (g.put (spc rr)) (by show List.set (List.set (List.set σ i none) i (some v)) i none = List.set σ i none; rw [List.set_set, List.set_set]))
    (fun σ σ' W y g hw => by
      rw [← hw]
      have h1 : Sat (((Γ.set i .unk).set i (.cl ra y)).set i .unk) (σ'.set i none) W := g.put (p := .unk) trivial
      rw [List.set_set, List.set_set] at h1
      exact h1) (fun s H C cl fp => pts_one ⟨fun pins s' σ H' Q I ⟨y, h⟩ => (Classical.choose_spec (hc y s H C cl fp)).1.run pins s' σ H' Q I (h s H C cl fp)⟩)
    (fun y σ W k g Q P m h => ⟨y, fun s H C cl fp => (Classical.choose_spec (hc y s H C cl fp)).2 σ W k g Q P m h⟩) he
theorem set_comm' {σ : St} {i j : Nat} {o u : Option V} (h : i ≠ j) : (σ.set i o).set j u = (σ.set j u).set i o := List.set_comm _ _ h
theorem setL_comm {σ : List SP} {i j : Nat} {o u : SP} (h : i ≠ j) : (σ.set i o).set j u = (σ.set j u).set i o := List.set_comm _ _ h
/-- [elt for x, y in iter] -/
theorem xlc_2if (i j : Nat) {x y : Str} {scope : Scope} {Ms : Mp (List (α × δ))} {ra : RT α} {rd : RT δ} {r : RT β} {Mc : α × δ → Mp Bool} {Me : α × δ → Mp β} (hij : i ≠ j) (hi : XIL X Γ tg iter [i, j] Ms (rP ra rd)) (hv : isClu (look Γ i) = true) (hv2 : isClu (look Γ j) = true)
    (hc : ∀ y (s : Shared) (H : Hp) (C : Addr) (cl : List (Str × Addr)) (fp : List Addr), XT (X.blk s H scope (compEnvC scope cl C X.env) fp) ((((Γ.set j .unk).set i .unk).set i (.cl ra y.1)).set j (.cl rd y.2)) c (Mc y))
    (he : ∀ y (s : Shared) (H : Hp) (C : Addr) (cl : List (Str × Addr)) (fp : List Addr), XP (X.blk s H scope (compEnvC scope cl C X.env) fp) ((((Γ.set j .unk).set i .unk).set i (.cl ra y.1)).set j (.cl rd y.2)) elt (Me y) r) :
    XLC X Γ elt tg iter [c] scope [(x, i), (y, j)] (gTup X.K 2 (gCons (gName i) (gCons (gName j) gNil))) (fun P => Ms fun xs => xs.length ≤ sizeLine ∧ lcW xs (fun x nx => Mc x fun b => if b = true then Me x fun y => nx (some y) else nx none) [] P) r :=
  xlc_core (Γt := fun y : α × δ => (((Γ.set j .unk).set i .unk).set i (.cl ra y.1)).set j (.cl rd y.2)) (tt := fun σ H Q => ∃ y, ∀ (s : Shared) (H' : Hp) (C : Addr) (cl : List (Str × Addr)) (fp : List Addr), Classical.choose (hc y s H' C cl fp) σ H Q) hi (fun k hk => by
    have : k = i ∨ k = j := by simpa using hk
    rcases this with e | e <;> rw [e] <;> assumption) (fun σ W v z k g ⟨u, a1, a2, e, hh, r1, r2⟩ Q h => ⟨u, [a1, a2], e, sqt_of (k.ex _ _ hh), rfl, a1, [a2], rfl, a2, [], rfl, rfl, h _ ((g.put (spc r1)).put (spc r2)) (by
      show List.set (List.set (List.set (List.set (List.set (List.set σ j none) i none) i (some a1)) j (some a2)) j none) i none = List.set (List.set σ j none) i none
      rw [List.set_set, List.set_set, set_comm' hij, List.set_set, List.set_set])⟩)
    (fun σ σ' W y g hw => by
      rw [← hw]
      have h1 : Sat ((((((Γ.set j .unk).set i .unk).set i (.cl ra y.1)).set j (.cl rd y.2)).set j .unk).set i .unk) ((σ'.set j none).set i none) W := (g.put (p := .unk) trivial).put (p := .unk) trivial
      rw [List.set_set, List.set_set, setL_comm hij, List.set_set, List.set_set] at h1
      exact h1) (fun s H C cl fp => pts_one ⟨fun pins s' σ H' Q I ⟨y, h⟩ => (Classical.choose_spec (hc y s H C cl fp)).1.run pins s' σ H' Q I (h s H C cl fp)⟩)
    (fun y σ W k g Q P m h => ⟨y, fun s H C cl fp => (Classical.choose_spec (hc y s H C cl fp)).2 σ W k g Q P m h⟩) he
theorem xlc_2 (i j : Nat) {x y : Str} {scope : Scope} {Ms : Mp (List (α × δ))} {ra : RT α} {rd : RT δ} {r : RT β} {Me : α × δ → Mp β} (hij : i ≠ j) (hi : XIL X Γ tg iter [i, j] Ms (rP ra rd)) (hv : isClu (look Γ i) = true) (hv2 : isClu (look Γ j) = true)
    (he : ∀ y (s : Shared) (H : Hp) (C : Addr) (cl : List (Str × Addr)) (fp : List Addr), XP (X.blk s H scope (compEnvC scope cl C X.env) fp) ((((Γ.set j .unk).set i .unk).set i (.cl ra y.1)).set j (.cl rd y.2)) elt (Me y) r) :
    XLC X Γ elt tg iter [] scope [(x, i), (y, j)] (gTup X.K 2 (gCons (gName i) (gCons (gName j) gNil))) (fun P => Ms fun xs => xs.length ≤ sizeLine ∧ lcW xs (fun x nx => Me x fun y => nx (some y)) [] P) r :=
  xlc_core (Γt := fun y : α × δ => (((Γ.set j .unk).set i .unk).set i (.cl ra y.1)).set j (.cl rd y.2)) (Mc := fun _ P => P true) hi (fun k hk => by
    have : k = i ∨ k = j := by simpa using hk
    rcases this with e | e <;> rw [e] <;> assumption) (fun σ W v z k g ⟨u, a1, a2, e, hh, r1, r2⟩ Q h => ⟨u, [a1, a2], e, sqt_of (k.ex _ _ hh), rfl, a1, [a2], rfl, a2, [], rfl, rfl, h _ ((g.put (spc r1)).put (spc r2)) (by
      show List.set (List.set (List.set (List.set (List.set (List.set σ j none) i none) i (some a1)) j (some a2)) j none) i none = List.set (List.set σ j none) i none
      rw [List.set_set, List.set_set, set_comm' hij, List.set_set, List.set_set])⟩)
    (fun σ σ' W y g hw => by
      rw [← hw]
      have h1 : Sat ((((((Γ.set j .unk).set i .unk).set i (.cl ra y.1)).set j (.cl rd y.2)).set j .unk).set i .unk) ((σ'.set j none).set i none) W := (g.put (p := .unk) trivial).put (p := .unk) trivial
      rw [List.set_set, List.set_set, setL_comm hij, List.set_set, List.set_set] at h1
      exact h1) (fun _ _ _ _ _ => pts_nil) (fun y σ W k g Q P m h => h true W m k (Step.refl W) g) he
theorem xn_lc {scope : Scope} {own : List (Str × Nat)} {g : TG} {ifs : List Expr} {M : Mp (List β)} {r : RT β} (h : XLC X Γ elt tg iter ifs scope own g M r) (hcalm : X.calm = true) (hnd : X.N.Nodup) (hok : BlkOk X.N X.env.scope scope own)
    (hg : ∀ (s : Shared) (H : Hp) (C : Addr) (cl : List (Str × Addr)) (fp : List Addr), PG (X.blk s H scope (compEnvC scope cl C X.env) fp) tg g) (hs : ∀ x, foldedSetIterable iter X.env x = pure x := by intro _; rfl) :
    XN X Γ (.ListComp elt [⟨tg, iter, ifs, 0⟩] scope pos) M r := by
  obtain ⟨wi, tt, te, p, ht, he, q⟩ := h
  exact ⟨_, pe_lc hcalm hnd p hok hg ht he hs, q⟩
end
end TM
set_option Elab.async false
set_option linter.all false
set_option maxRecDepth 100000
namespace TM
open PySem PySem.Spec PyProof.Rows L2 HT
section
variable {prog : Program} {w : World} {A : Around} {E : Value → Shared → Prop} {s : Shared}
theorem sliceApplied_rev {sl : Addr} {vs : Value} {n : Nat} {Q : Int × Int × Nat → Shared → Prop} (hs : s.heap.IsSliceOf sl .none .none vs) (ps : IsPart vs (some (-1)))
    (h : Q ((n : Int) - 1, -1, n) s) : wpAny (model prog w) A (Builtin.Slice.sliceApplied (.ref sl) (pure (n : Int))) Q E s := by
  obtain ⟨os, hos, hcs, hds⟩ := id hs
  unfold Builtin.Slice.sliceApplied Builtin.Slice.sliceFields
  refine wpAny_bind (wpAny_bind (wpAny_field hos hds (x := .none) rfl (wpAny_bind (wpAny_field hos hds (x := .none) rfl (wpAny_bind (wpAny_field hos hds (x := vs) rfl (wpAny_pure ?_)))))))
  refine wpAny_bind (slicePart_ ps ?_)
  show wpAny _ _ (if ((-1 : Int) == 0) = true then _ else _) _ _ s
  rw [if_neg (by decide)]
  refine wpAny_bind (slicePart_ .none (wpAny_bind (slicePart_ .none (wpAny_bind (wpAny_pure ?_)))))
  show wpAny _ _ (match Builtin.Slice.sliceAdjust none none (-1) (n : Int) with | (lo, hi) => pure (lo, (-1 : Int), Builtin.Slice.slicePlaces lo hi (-1))) _ _ s
  have e1 : Builtin.Slice.sliceAdjust none none (-1) (n : Int) = ((n : Int) - 1, -1) := by
    unfold Builtin.Slice.sliceAdjust
    simp
  rw [e1]
  show wpAny _ _ (pure ((n : Int) - 1, (-1 : Int), Builtin.Slice.slicePlaces ((n : Int) - 1) (-1) (-1))) _ _ s
  have e2 : Builtin.Slice.slicePlaces ((n : Int) - 1) (-1) (-1) = n := by
    unfold Builtin.Slice.slicePlaces
    simp
    all_goals omega
  rw [e2]
  exact wpAny_pure h
theorem pick_rev (xs : Array Value) : ((List.range xs.size).filterMap fun (m : Nat) => xs[(((xs.size : Int) - 1) + (m : Int) * (-1)).toNat]?).toArray = xs.toList.reverse.toArray := by
  have e : (List.range xs.size).filterMap (fun (m : Nat) => xs[(((xs.size : Int) - 1) + (m : Int) * (-1)).toNat]?) = (List.range xs.size).filterMap (fun m => xs[xs.size - 1 - m]?) := by
    have : ∀ (l : List Nat), (∀ m ∈ l, m < xs.size) → l.filterMap (fun (m : Nat) => xs[(((xs.size : Int) - 1) + (m : Int) * (-1)).toNat]?) = l.filterMap (fun m => xs[xs.size - 1 - m]?) := by
      intro l
      induction l with
      | nil => intro _; rfl
      | cons m l ih =>
        intro h
        have hm := h m List.mem_cons_self
        have e1 : (((xs.size : Int) - 1) + (m : Int) * (-1)).toNat = xs.size - 1 - m := by omega
        rw [List.filterMap_cons, List.filterMap_cons, e1, ih fun k hk => h k (List.mem_cons_of_mem _ hk)]
    exact this _ fun m hm => List.mem_range.mp hm
  rw [e]
  have e3 : (List.range xs.size).filterMap (fun m => xs[xs.size - 1 - m]?) = ((List.range xs.size).map (fun k => xs.size - 1 - k)).filterMap (xs[·]?) := by
    rw [List.filterMap_map]; rfl
  rw [e3, PySem.W.krv_range, List.filterMap_reverse, PySem.W.krv_all]
theorem getItem_tuple_rev {t sl : Addr} {items : Array Value} {vs : Value} {Q : Value → Shared → Prop} (ht : IsTup s.heap t items) (hs : s.heap.IsSliceOf sl .none .none vs) (ps : IsPart vs (some (-1)))
    (h : Q (.ref s.heap.objs.size) { s with heap := s.heap.push { cls := .type "tuple", data := .seq items.toList.reverse.toArray } })
    (hsz : items.size ≤ sizeLine) : wpAny (model prog w) A (getItem (.ref t) (.ref sl)) Q E s := by
  have htake : sizeOk (.seq items.toList.reverse.toArray) := by
    show items.toList.reverse.toArray.size ≤ sizeLine
    rw [List.size_toArray, List.length_reverse, Array.length_toList]
    exact hsz
  obtain ⟨os, hos, hcs, hds⟩ := id hs
  have hTs : s.TypeIs (.ref sl) "slice" := ⟨os, hos, hcs⟩
  unfold getItem
  try with_reducible refine wpAny_holding ?_
  first | refine wpAny_bind (wpAny_pure ?_) | skip
  refine wpAny_bind (wpAny_sequenceKey ht.typeIs (by decide) ?_)
  refine wpAny_bind (wpAny_callSpecial?_slot (name := Str.ofString "__getitem__") ht.typeIs PyProof.Rows.slot_tuple_getitem
    (wpAny_call_entry PyProof.Rows.slot_tuple_getitem ht.typeIs entry_tuple_getitem ?_ (args_tuple_getitem _ _)))
  show wpAny _ _ (Builtin.Tuple.tupleItemsOf (.ref t) >>= _) _ _ s
  refine wpAny_bind (tupleItemsOf_ ht ?_)
  refine wpAny_bind (wpAny_typeOf hTs ?_)
  rw [if_pos (by decide)]
  refine wpAny_bind (sliceApplied_rev hs ps ?_)
  have hno : ¬ ((((items.size : Int) - 1) == 0 && (-1 : Int) == 1 && items.size == items.size) = true) := by
    intro q
    rw [Bool.and_eq_true, Bool.and_eq_true] at q
    have q1 : (-1 : Int) = 1 := eq_of_beq q.1.2
    omega
  show wpAny _ _ (if (((items.size : Int) - 1) == 0 && (-1 : Int) == 1 && items.size == items.size) = true then _ else _) _ _ s
  rw [if_neg hno, pick_rev]
  first
    | exact wpAny_bind (m := Builtin.Tuple.tupleExact _) (wpAny_newObj_type (wpAny_pure ⟨_, rfl, wpAny_pure h⟩) htake)
    | exact wpAny_bind (m := Builtin.Tuple.tupleExact _) (wpAny_newObj_type (wpAny_bind (wpAny_pure (wpAny_pure ⟨_, rfl, wpAny_pure h⟩))) htake)
    | exact wpAny_bind (wpAny_bind (m := Builtin.Tuple.tupleExact _) (wpAny_newObj_type (wpAny_pure (wpAny_pure ⟨_, rfl, wpAny_pure h⟩)) htake))
    | exact wpAny_bind (wpAny_bind (m := Builtin.Tuple.tupleExact _) (wpAny_newObj_type (wpAny_pure ⟨_, rfl, wpAny_pure h⟩) htake))
end
section
variable {X : Cx}
/-- t[::-1] of a tuple -/
def tRevT (K : PySem.W.Frag) (te : TE) : TE := fun σ H Q => te σ H fun x H1 => ∃ a xs, x = .ref a ∧ SqT K H1 a xs ∧ ∀ p, H1 p = none → Q (.ref p) (upd H1 p (.tup xs.reverse))
theorem pe_revT {e : Expr} {te : TE} {k : Nat} {p1 p2 p3 pos : Pos} (he : PE X e te) : PE X (.Subscript e (.Slice none none (some (.UnaryOp .USub (.Constant (.int 1) k p1) p2)) p3) pos) (tRevT X.K te) := by
  refine ⟨fun pins s σ H Q I h => ?_⟩
  refine Subscript_ (thn (he.run pins s σ H _ I h) fun v s1 ⟨x, H1, I1, r1, q1⟩ => ?_)
  obtain ⟨a, xs, ex, hx, q⟩ := q1
  subst ex
  cases r1
  have hst : PO X (some (.UnaryOp .USub (.Constant (.int 1) k p1) p2)) (tPart (tUn (rU fun i => .int (-i)) (tC (.int 1)))) := po_some (pe_un un_neg pe_int)
  refine wpAny_Slice (thn (po_none.run pins s1 σ H1 (fun o H2 => o = none ∧ H2 = H1) I1 ⟨rfl, rfl⟩) fun vl s2 ⟨l, H2, I2, pl, el, e2⟩ => ?_)
  subst el e2
  refine thn (po_none.run pins s2 σ H2 (fun o H3 => o = none ∧ H3 = H2) I2 ⟨rfl, rfl⟩) fun vu s3 ⟨u, H3, I3, pu, eu, e3⟩ => ?_
  subst eu e3
  refine thn (hst.run pins s3 σ H3 (fun o H4 => o = some (-1) ∧ H4 = H3) I3 ⟨1, rfl, -1, rfl, rfl, rfl⟩) fun vs s4 ⟨o, H4, I4, ps, eo, e4⟩ => ?_
  subst eo e4
  cases pl
  cases pu
  have I5 : Inv X pins σ H4 { s4 with heap := s4.heap.push { cls := .type "slice", data := .fields #[.none, .none, vs] } } := I4.kept (t' := s4.toks) fun b ob q => Heap.get?_push_of_some _ q
  obtain ⟨its, r, ht, hz⟩ := I5.tuple hx
  have hlen := r.length
  show wpAny (model X.prog X.w) X.A (subscriptTail e (.Slice none none (some (.UnaryOp .USub (.Constant (.int 1) k p1) p2)) p3) (.ref a) (.ref s4.heap.objs.size)) (EP X pins σ Q) X.xe { s4 with heap := s4.heap.push { cls := .type "slice", data := .fields #[.none, .none, vs] } }
  refine tail_any (ops := [.ref a, .ref s4.heap.objs.size]) ht.typeIs PyProof.Rows.slot_tuple_getitem.lookup ?_ (by with_unfolding_all rfl)
  refine getItem_tuple_rev ht (Heap.IsSliceOf.new _ _ _ vs) ps ?_ (by rw [List.size_toArray]; omega)
  refine ⟨.ref _, _, I5.laid (t' := s4.toks) (o := .tup xs.reverse) (fun b ob q => Heap.get?_push_of_some _ q) (Nat.le_refl _) ?_, rfl, q _ (I5.hok.fresh (Nat.le_refl _))⟩
  exact ⟨by rw [List.length_reverse]; exact hz, _, r.reverse, IsTup.new _ _⟩
end
end TM
set_option Elab.async false
set_option linter.all false
set_option maxRecDepth 100000
namespace TM
open PySem PySem.Spec PyProof.Rows L2
/-! ### defs of the text and their promises -/
section
variable {P : Program} {w : World} {K : PySem.W.Frag} {mg : Str → Option Value} {base : Heap} {α β γ τ : Type}
/-- a def that the module's name x holds -/
def Glob (P : Program) (w : World) (K : PySem.W.Frag) (mg : Str → Option Value) (base : Heap) (x : Str) (k : Nat) (ps : List Str) (sp : Sp) : Prop :=
  ∃ f fd, mg x = some (.ref f) ∧ PySem.W.keepIn K (.ref f) = true ∧ L2.Binds K fd ps [] ∧ FnOk P w K mg base CX0 k f fd ps sp
/-- a method of the class at C -/
def MethG (P : Program) (w : World) (K : PySem.W.Frag) (mg : Str → Option Value) (base : Heap) (C : Addr) (m : Str) (k : Nat) (ps : List Str) (sp : Sp) : Prop :=
  ∃ f fd, Meth K C m f ∧ L2.Binds K fd ps [] ∧ FnOk P w K mg base CX0 k f fd ps sp
/-- a class that the module's name x holds, made by __init__ -/
def MakeG (P : Program) (w : World) (K : PySem.W.Frag) (mg : Str → Option Value) (base : Heap) (x : Str) (C : Addr) (k : Nat) (ps : List Str) (sp : Sp) : Prop :=
  mg x = some (.ref C) ∧ ∃ f fd, Mk K C f ∧ L2.Binds K fd ps [] ∧ FnOk P w K mg base CX0 k f fd ps sp
/-! the return -/
def bxok : Option Addr → Wd → Prop
  | none, _ => True
  | some a, W => W.O a = some 0 ∧ BoxIs (W.H a)
def bxin : Option Addr → List SP → Prop
  | none, _ => True
  | some a, Γ => look Γ 0 = .bx a
theorem bxok_of {ba : Option Addr} {Γ : List SP} {σ : St} {W : Wd} (h : bxin ba Γ) (g : Sat Γ σ W) : bxok ba W := by
  cases ba with
  | none => trivial
  | some a =>
    obtain ⟨o, e, e1, e2, e3⟩ := g.look h (by simp)
    exact ⟨e2, e3⟩
abbrev rcx (ba : Option Addr) (r : RT β) : β → V → Wd → Prop := fun x v W => bxok ba W ∧ r.ok W.Hc v x
abbrev rnx (ba : Option Addr) (r : RT β) : List β → V → Wd → Prop := fun x v W => bxok ba W ∧ rrn r x v W
theorem start_sat {N : List Str} {vs : List V} {Γ : List SP} {n : Nat} {W : Wd} (h : SatL 0 Γ (vs.map some) W) (hn : N.length = Γ.length + n) : Sat (Γ ++ List.replicate n .unk) (L2.start N vs) W := by
  have hl : vs.length = Γ.length := by rw [← SatL.len h, List.length_map]
  have e : N.length - vs.length = n := by omega
  unfold L2.start
  rw [e]
  have gen : ∀ (Γ : List SP) (i : Nat) (σ : St), SatL i Γ σ W → SatL i (Γ ++ List.replicate n .unk) (σ ++ List.replicate n none) W := by
    intro Γ
    induction Γ with
    | nil => intro i σ h; cases σ with
      | nil =>
        show SatL i (List.replicate n .unk) (List.replicate n none) W
        have : ∀ (m i : Nat), SatL i (List.replicate m .unk) (List.replicate m (none : Option V)) W := by
          intro m
          induction m with
          | zero => intro i; trivial
          | succ m ih => intro i; exact ⟨trivial, ih _⟩
        exact this n i
      | cons _ _ => exact h.elim
    | cons p ps ih => intro i σ h; cases σ with
      | nil => exact h.elim
      | cons o σ => exact ⟨h.1, ih _ _ h.2⟩
  exact gen Γ 0 _ h
variable {x qual : Str} {st : Stmt} {f : Addr} {fd : FuncData} {N ps : List Str} {k n : Nat}
/-- a def over clean arguments that hands back a value -/
theorem fn_C {sps : τ → List SP} {F : τ → Mp β} {RR : RRt β} {M : τ → Kn Unit Unit β → Prop} (Fn : Fun K x qual st f fd) (S : FnScope N ps (defScope st)) (hl : ∀ z, (sps z).length = ps.length) (hn : N.length = ps.length + n) (RB : β → V → Wd → Prop) (hR : ∀ b v W, RB b v W → RR b v W)
    (hbody : ∀ (cdv : Value) (A : Around) (outer : List Env) (s : Shared) (H : Hp) (E : XK), Room k (A.deeper (envOfC qual (defScope st) s.heap.objs.size f cdv)) → ∀ z, XS (cxOf CX0 P w K mg base N qual (defScope st) f cdv A outer s H E).nox (sps z ++ List.replicate n .unk) (defBody st) (M z) (fun _ : Unit => [.bot]) (fun _ : Unit => [.bot]) RB)
    (hM : ∀ z P, F z P → M z ⟨fun _ => False, fun _ => False, fun _ => False, P⟩) : FnOk P w K mg base CX0 (k + 1) f fd ps (spC sps F RR) := by
  refine Fn.ok S (fun vs H Q E ⟨z, W, _, _, _, _, _, h, _⟩ => ?_) fun cdv A outer s H vs Q E hr hh => ?_
  · rw [← hl z, ← SatL.len h, List.length_map]
  · obtain ⟨z, W, P', rfl, hB, kW, hO, h, m, q⟩ := hh
    obtain ⟨t, p, qq⟩ := hbody cdv A outer s W.H E hr z
    refine ⟨t, p, qq _ W kW (start_sat h (by rw [hl z]; exact hn)) _ _ (hM z P' m) (fun _ _ _ h => h.elim) (fun _ _ _ h => h.elim) (fun _ _ _ h => h.elim) fun b v W' pb k' s' r' => q b v W' pb k' s' (hR b v W' r')⟩
/-- .. that hands back nothing -/
theorem fn_P {sps : τ → List SP} {F : τ → Mp Unit} {M : τ → Kn Unit Unit Unit → Prop} {Γn : Unit → List SP} (Fn : Fun K x qual st f fd) (S : FnScope N ps (defScope st)) (hl : ∀ z, (sps z).length = ps.length) (hn : N.length = ps.length + n)
    (hbody : ∀ (cdv : Value) (A : Around) (outer : List Env) (s : Shared) (H : Hp) (E : XK), Room k (A.deeper (envOfC qual (defScope st) s.heap.objs.size f cdv)) → ∀ z, XS (cxOf CX0 P w K mg base N qual (defScope st) f cdv A outer s H E).nox (sps z ++ List.replicate n .unk) (defBody st) (M z) Γn (fun _ : Unit => [.bot]) (rrc rNon))
    (hM : ∀ z P, F z P → M z ⟨P, fun _ => False, fun _ => False, P⟩) : FnOk P w K mg base CX0 (k + 1) f fd ps (spC sps F (rrc rNon)) := by
  refine Fn.ok S (fun vs H Q E ⟨z, W, _, _, _, _, _, h, _⟩ => ?_) fun cdv A outer s H vs Q E hr hh => ?_
  · rw [← hl z, ← SatL.len h, List.length_map]
  · obtain ⟨z, W, P', rfl, hB, kW, hO, h, m, q⟩ := hh
    obtain ⟨t, p, qq⟩ := hbody cdv A outer s W.H E hr z
    exact ⟨t, p, qq _ W kW (start_sat h (by rw [hl z]; exact hn)) _ _ (hM z P' m) (fun u _ W' pu k' s' _ => q () .non W' pu k' s' rfl) (fun _ _ _ h => h.elim) (fun _ _ _ h => h.elim) fun b v W' pb k' s' r' => q b v W' pb k' s' r'⟩
/-- a def whose first argument is the law's box -/
theorem fn_B {sps : τ → List SP} {F : τ → Mp β} {RR : RRt β} {M : Addr → τ → Kn Unit Unit β → Prop} (Fn : Fun K x qual st f fd) (S : FnScope N ps (defScope st)) (hl : ∀ z, (sps z).length + 1 = ps.length) (hn : N.length = ps.length + n) (RB : Addr → β → V → Wd → Prop) (hR : ∀ a b v W, RB a b v W → bxok (some a) W ∧ RR b v W)
    (hbody : ∀ (cdv : Value) (A : Around) (outer : List Env) (s : Shared) (H : Hp) (E : XK), Room k (A.deeper (envOfC qual (defScope st) s.heap.objs.size f cdv)) → ∀ a z, XS (cxOf CX0 P w K mg base N qual (defScope st) f cdv A outer s H E).nox ((.bx a :: sps z) ++ List.replicate n .unk) (defBody st) (M a z) (fun _ : Unit => [.bot]) (fun _ : Unit => [.bot]) (RB a))
    (hM : ∀ a z P, F z P → M a z ⟨fun _ => False, fun _ => False, fun _ => False, P⟩) : FnOk P w K mg base CX0 (k + 1) f fd ps (spB sps F RR) := by
  refine Fn.ok S (fun vs H Q E ⟨a, ws, z, W, _, ev, _, _, _, _, _, h, _⟩ => ?_) fun cdv A outer s H vs Q E hr hh => ?_
  · have := SatL.len h
    rw [List.length_map] at this
    rw [ev, ← hl z, List.length_cons, this]
  · obtain ⟨a, ws, z, W, P', ev, rfl, hB, kW, hO, hb, h, m, q⟩ := hh
    obtain ⟨t, p, qq⟩ := hbody cdv A outer s W.H E hr a z
    subst ev
    refine ⟨t, p, qq _ W kW (start_sat (vs := .ref a :: ws) (Γ := .bx a :: sps z) ⟨⟨rfl, by rw [hO]; exact if_pos rfl, hb⟩, h⟩ (by rw [List.length_cons, hl z]; exact hn)) _ _ (hM a z P' m) (fun _ _ _ h => h.elim) (fun _ _ _ h => h.elim) (fun _ _ _ h => h.elim) fun b v W' pb k' s' r' => ?_⟩
    obtain ⟨⟨r1, r2⟩, r3⟩ := hR a b v W' r'
    exact q b v W' pb k' s' r1 r2 r3
end
section
variable {X : Cx} {Γ Δ : List SP} {α β γ δ τ S S' B R : Type} {e a b c tg iter elt o : Expr} {es : List Expr} {pos : Pos} {st : Stmt} {sts rest body : List Stmt}
theorem xs_retX {ba : Option Addr} {M : Mp R} {r : RT R} {Γn : S → List SP} {Γb : B → List SP} (hb : bxin ba Γ) (h : XP X Γ e M r) : XS X Γ [.Return (some e) pos] (fun κ : Kn S B R => M κ.rt) Γn Γb (rcx ba r) := by
  obtain ⟨t, p, q⟩ := h
  exact ⟨_, pss_one (ps_ret p), fun σ W k g κ D m _ _ _ h1 => q σ W k g _ _ m fun x v W' m' k' s' g' r' => h1 x v W' m' k' s' ⟨bxok_of hb g', r'⟩⟩
theorem xs_retXN {ba : Option Addr} {M : Mp (List α)} {r : RT α} {Γn : S → List SP} {Γb : B → List SP} (hb : bxin ba Γ) (h : XN X Γ e M r) : XS X Γ [.Return (some e) pos] (fun κ : Kn S B (List α) => M κ.rt) Γn Γb (rnx ba r) := by
  obtain ⟨t, p, q⟩ := h
  exact ⟨_, pss_one (ps_ret p), fun σ W k g κ D m _ _ _ h1 => q σ W k g _ _ m fun x u vs W' m' k' s' g' n nc no hh pr => h1 x (.ref u) W' m' k' s' ⟨bxok_of hb g', u, vs, rfl, base_free k s' n, nc, hh, pr⟩⟩
theorem xs_retXO {ba : Option Addr} (i : Nat) {x : Str} {p : Pos} {r : RT α} {xs : List α} {Γn : S → List SP} {Γb : B → List SP} (hb : bxin ba Γ) (h : look Γ i = .own r xs) (hN : X.N[i]? = some x := by rfl) (hv : Vis X.env.scope x := by first | exact Or.inl rfl | exact Or.inr (Or.inl rfl) | exact Or.inr (Or.inr rfl)) (hd : (x == ("__debug__" : Str)) = false := by decide) (hcd : (x == ("__classdict__" : Str)) = false := by decide) :
    XS X Γ [.Return (some (.Name x p)) pos] (fun κ : Kn S B (List α) => κ.rt xs) Γn Γb (rnx ba r) :=
  ⟨_, pss_one (ps_ret (pe_var hN hv hd hcd)), fun σ W k g κ D m _ _ _ h1 => by
    obtain ⟨o, e, u, vs, rfl, n, ho, hh, pr⟩ := g.look h (by simp)
    exact ⟨.ref u, e, h1 xs (.ref u) W m k (Step.refl W) ⟨bxok_of hb g, u, vs, rfl, n, (k.own u i ho).1, hh, pr⟩⟩⟩
theorem le_refl' : ∀ Γ : List SP, leL Γ Γ
  | [] => trivial
  | _ :: ps => ⟨.inr rfl, le_refl' ps⟩
/-- if c: A, whose slots behind it are as ahead of it (A leaves, as a rule) -/
theorem xt_ifx {A : List Stmt} {Mc : Mp Bool} {MA : Kn Unit B R → Prop} {Γb : B → List SP} {RR : R → V → Wd → Prop} (hc : XT X Γ c Mc) (hA : XS X Γ A MA (fun _ : Unit => Γ) Γb RR) : XSt X Γ (.If c A [] pos) (fun κ : Kn Unit B R => Mc fun k => if k = true then MA κ else κ.nx ()) (fun _ => Γ) Γb RR :=
  xt_if hc hA (xs_nil () (le_refl' _))
/-! calls by these -/
theorem xg_call {k j : Nat} {ps : List Str} {x : Str} {p : Pos} {R : RS τ} {F : τ → Mp β} {r : RT β} {M : Mp τ} (G : Glob X.prog X.w X.K X.mg X.base x k ps (spC R.sps F (rrc r))) (hr : Room j X.A) (hj : k ≤ j)
    (ha : XA X Γ (e :: es) M R.toRA) (hg : Gl X x := by rfl) (hdb : (x == ("__debug__" : Str)) = false := by decide) (he : starEach (e :: es) X.env = (false, eval e X.env) :: starEach es X.env := by rfl) (hpl : (backTo pos (starEach es X.env)).any (·.1) = false := by rfl) :
    XP X Γ (.Call (.Name x p) (e :: es) [] pos) (fun P => M fun y => F y P) r := by
  obtain ⟨f, fd, g1, g2, g3, g4⟩ := G
  exact xp_call g4 (hr.mono hj) g1 g2 g3 ha hg hdb he hpl
theorem xg_callN {k j : Nat} {ps : List Str} {x : Str} {p : Pos} {R : RS τ} {F : τ → Mp (List β)} {r : RT β} {M : Mp τ} (G : Glob X.prog X.w X.K X.mg X.base x k ps (spC R.sps F (rrn r))) (hr : Room j X.A) (hj : k ≤ j)
    (ha : XA X Γ (e :: es) M R.toRA) (hg : Gl X x := by rfl) (hdb : (x == ("__debug__" : Str)) = false := by decide) (he : starEach (e :: es) X.env = (false, eval e X.env) :: starEach es X.env := by rfl) (hpl : (backTo pos (starEach es X.env)).any (·.1) = false := by rfl) :
    XN X Γ (.Call (.Name x p) (e :: es) [] pos) (fun P => M fun y => F y P) r := by
  obtain ⟨f, fd, g1, g2, g3, g4⟩ := G
  exact xn_call g4 (hr.mono hj) g1 g2 g3 ha hg hdb he hpl
theorem xg_callB (i : Nat) {a : Addr} {nm : Str} {k j : Nat} {ps : List Str} {x : Str} {p pn : Pos} {R : RS τ} {F : τ → Mp β} {r : RT β} {M : Mp τ} (hi : look Γ i = .bx a) (G : Glob X.prog X.w X.K X.mg X.base x k ps (spB R.sps F (rrc r))) (hr : Room j X.A) (hj : k ≤ j)
    (ha : XA X Γ es M R.toRA) (hN : X.N[i]? = some nm := by rfl) (hv : Vis X.env.scope nm := by first | exact Or.inl rfl | exact Or.inr (Or.inl rfl) | exact Or.inr (Or.inr rfl)) (hd : (nm == ("__debug__" : Str)) = false := by decide) (hcd : (nm == ("__classdict__" : Str)) = false := by decide)
    (hg : Gl X x := by rfl) (hdb : (x == ("__debug__" : Str)) = false := by decide) (he : starEach (.Name nm pn :: es) X.env = (false, eval (.Name nm pn) X.env) :: starEach es X.env := by rfl) (hpl : (backTo pos (starEach es X.env)).any (·.1) = false := by rfl) :
    XP X Γ (.Call (.Name x p) (.Name nm pn :: es) [] pos) (fun P => M fun y => F y P) r := by
  obtain ⟨f, fd, g1, g2, g3, g4⟩ := G
  exact xp_callB i hi g4 (hr.mono hj) g1 g2 g3 ha hN hv hd hcd hg hdb he hpl
theorem xg_callBN (i : Nat) {a : Addr} {nm : Str} {k j : Nat} {ps : List Str} {x : Str} {p pn : Pos} {R : RS τ} {F : τ → Mp (List β)} {r : RT β} {M : Mp τ} (hi : look Γ i = .bx a) (G : Glob X.prog X.w X.K X.mg X.base x k ps (spB R.sps F (rrn r))) (hr : Room j X.A) (hj : k ≤ j)
    (ha : XA X Γ es M R.toRA) (hN : X.N[i]? = some nm := by rfl) (hv : Vis X.env.scope nm := by first | exact Or.inl rfl | exact Or.inr (Or.inl rfl) | exact Or.inr (Or.inr rfl)) (hd : (nm == ("__debug__" : Str)) = false := by decide) (hcd : (nm == ("__classdict__" : Str)) = false := by decide)
    (hg : Gl X x := by rfl) (hdb : (x == ("__debug__" : Str)) = false := by decide) (he : starEach (.Name nm pn :: es) X.env = (false, eval (.Name nm pn) X.env) :: starEach es X.env := by rfl) (hpl : (backTo pos (starEach es X.env)).any (·.1) = false := by rfl) :
    XN X Γ (.Call (.Name x p) (.Name nm pn :: es) [] pos) (fun P => M fun y => F y P) r := by
  obtain ⟨f, fd, g1, g2, g3, g4⟩ := G
  exact xn_callB i hi g4 (hr.mono hj) g1 g2 g3 ha hN hv hd hcd hg hdb he hpl
theorem xg_meth {C : Addr} {m : Str} {k j : Nat} {ps : List Str} {apos : Pos} {R : RS τ} {F : β × τ → Mp γ} {ro : RT β} {r : RT γ} {Mo : Mp β} {M : Mp τ} {pl : Sem Bool} (hI : InsNo C m ro) (c : Cls X.K C) (G : MethG X.prog X.w X.K X.mg X.base C m k ps (spC (rsc ro R).sps F (rrc r))) (hr : Room j X.A) (hj : k ≤ j)
    (ho : XP X Γ o Mo ro) (ha : XA X Γ (e :: es) M R.toRA) (hst : starEach (e :: es) X.env = (false, eval e X.env) :: starEach es X.env := by rfl) (hpl : (backTo pos (starEach es X.env)).any (·.1) = false := by rfl)
    (ht : eval (.Call (.Attribute o m apos) (e :: es) [] pos) X.env = (do
      let ov ← eval o X.env
      standAt apos.atName
      let (f, first) ← holding [ov] (getMethod ov m pl)
      callWith pos f first (backTo pos (starEach (e :: es) X.env)) (backToKw pos (keywordEach [] X.env))) := by rfl) :
    XP X Γ (.Call (.Attribute o m apos) (e :: es) [] pos) (fun P => Mo fun z => M fun y => F (z, y) P) r := by
  obtain ⟨f, fd, g1, g3, g4⟩ := G
  exact xp_meth hI c g1 g4 (hr.mono hj) g3 ho ha hst hpl ht
theorem xg_meth0 {C : Addr} {m : Str} {k j : Nat} {ps : List Str} {apos : Pos} {F : β × Unit → Mp γ} {ro : RT β} {r : RT γ} {Mo : Mp β} {pl : Sem Bool} (hI : InsNo C m ro) (c : Cls X.K C) (G : MethG X.prog X.w X.K X.mg X.base C m k ps (spC (rsc ro rs0).sps F (rrc r))) (hr : Room j X.A) (hj : k ≤ j)
    (ho : XP X Γ o Mo ro) (ht : eval (.Call (.Attribute o m apos) [] [] pos) X.env = (do
      let ov ← eval o X.env
      standAt apos.atName
      let (f, first) ← holding [ov] (getMethod ov m pl)
      callWith pos f first (backTo pos (starEach [] X.env)) (backToKw pos (keywordEach [] X.env))) := by rfl) :
    XP X Γ (.Call (.Attribute o m apos) [] [] pos) (fun P => Mo fun z => F (z, ()) P) r := by
  obtain ⟨f, fd, g1, g3, g4⟩ := G
  exact xp_meth0 hI c g1 g4 (hr.mono hj) g3 ho ht
theorem xg_methN {C : Addr} {m : Str} {k j : Nat} {ps : List Str} {apos : Pos} {R : RS τ} {F : β × τ → Mp (List γ)} {ro : RT β} {r : RT γ} {Mo : Mp β} {M : Mp τ} {pl : Sem Bool} (hI : InsNo C m ro) (c : Cls X.K C) (G : MethG X.prog X.w X.K X.mg X.base C m k ps (spC (rsc ro R).sps F (rrn r))) (hr : Room j X.A) (hj : k ≤ j)
    (ho : XP X Γ o Mo ro) (ha : XA X Γ (e :: es) M R.toRA) (hst : starEach (e :: es) X.env = (false, eval e X.env) :: starEach es X.env := by rfl) (hpl : (backTo pos (starEach es X.env)).any (·.1) = false := by rfl)
    (ht : eval (.Call (.Attribute o m apos) (e :: es) [] pos) X.env = (do
      let ov ← eval o X.env
      standAt apos.atName
      let (f, first) ← holding [ov] (getMethod ov m pl)
      callWith pos f first (backTo pos (starEach (e :: es) X.env)) (backToKw pos (keywordEach [] X.env))) := by rfl) :
    XN X Γ (.Call (.Attribute o m apos) (e :: es) [] pos) (fun P => Mo fun z => M fun y => F (z, y) P) r := by
  obtain ⟨f, fd, g1, g3, g4⟩ := G
  exact xn_meth hI c g1 g4 (hr.mono hj) g3 ho ha hst hpl ht
theorem xg_meth0N {C : Addr} {m : Str} {k j : Nat} {ps : List Str} {apos : Pos} {F : β × Unit → Mp (List γ)} {ro : RT β} {r : RT γ} {Mo : Mp β} {pl : Sem Bool} (hI : InsNo C m ro) (c : Cls X.K C) (G : MethG X.prog X.w X.K X.mg X.base C m k ps (spC (rsc ro rs0).sps F (rrn r))) (hr : Room j X.A) (hj : k ≤ j)
    (ho : XP X Γ o Mo ro) (ht : eval (.Call (.Attribute o m apos) [] [] pos) X.env = (do
      let ov ← eval o X.env
      standAt apos.atName
      let (f, first) ← holding [ov] (getMethod ov m pl)
      callWith pos f first (backTo pos (starEach [] X.env)) (backToKw pos (keywordEach [] X.env))) := by rfl) :
    XN X Γ (.Call (.Attribute o m apos) [] [] pos) (fun P => Mo fun z => F (z, ()) P) r := by
  obtain ⟨f, fd, g1, g3, g4⟩ := G
  exact xn_meth0 hI c g1 g4 (hr.mono hj) g3 ho ht
end
end TM
set_option Elab.async false
set_option linter.all false
set_option maxRecDepth 100000
namespace TM
open PySem PySem.Spec PyProof.Rows L2
section
variable {α β γ δ τ : Type} {K : PySem.W.Frag}
/-! ### data that are compared deeply -/
structure DatR (r : RT α) where
  d : α → PyData
  g : α → Prop
  n : Nat
  ok : ∀ K H v x, r.ok H v x → Dp K H v (d x)
  lay : ∀ x, g x → (d x).canLay0 = true
  dep : ∀ x, (d x).depth ≤ n
  inj : ∀ x y, PyData.eqv (d x) (d y) = true ↔ x = y
def dInt : DatR rInt := ⟨.int, fun _ => True, 0, fun K H v x e => by
  have e : v = .int x := e
  subst e; exact .int x, fun _ _ => by simp [PyData.canLay0], fun _ => by simp [PyData.depth], fun x y => by simp [PyData.eqv]⟩
def dBl : DatR rBl := ⟨.bool, fun _ => True, 0, fun K H v x e => by
  have e : v = .bl x := e
  subst e; exact .bl x, fun _ _ => by simp [PyData.canLay0], fun _ => by simp [PyData.depth], fun x y => by simp [PyData.eqv]⟩
def dStr : DatR rStr := ⟨.str, fun x => PySem.PyData.strOk x = true, 0, fun K H v x e => by
  have e : v = .str x := e
  subst e; exact .str x, fun _ h => by simpa [PyData.canLay0] using h, fun _ => by simp [PyData.depth], fun x y => by simp [PyData.eqv]⟩
theorem dpAll {r : RT α} (D : DatR r) {H : Hp} : ∀ {vs : List V} {xs : List α}, Paired (r.ok H) vs xs → DpAll K H vs (xs.map D.d)
  | _, _, .nil => .nil
  | _, _, .cons h t => .cons (D.ok K H _ _ h) (dpAll D t)
theorem layAll {r : RT α} (D : DatR r) : ∀ {xs : List α}, (∀ x ∈ xs, D.g x) → PyData.canLayAll0 (xs.map D.d) = true
  | [], _ => by simp [PyData.canLayAll0]
  | x :: xs, h => by
    simp only [List.map_cons, PyData.canLayAll0, D.lay x (h x List.mem_cons_self), layAll D fun y hy => h y (List.mem_cons_of_mem _ hy), Bool.and_self]
theorem depAll {r : RT α} (D : DatR r) : ∀ {xs : List α}, PyData.depthAll (xs.map D.d) ≤ D.n
  | [] => by simp [PyData.depthAll]
  | x :: xs => by
    simp only [List.map_cons, PyData.depthAll]
    exact Nat.max_le.mpr ⟨D.dep x, depAll D⟩
theorem injAll {r : RT α} (D : DatR r) : ∀ {xs ys : List α}, PyData.eqvAll (xs.map D.d) (ys.map D.d) = true ↔ xs = ys
  | [], [] => by simp [PyData.eqvAll]
  | [], y :: ys => by simp [PyData.eqvAll]
  | x :: xs, [] => by simp [PyData.eqvAll]
  | x :: xs, y :: ys => by
    simp only [List.map_cons, PyData.eqvAll, Bool.and_eq_true, D.inj x y, injAll D (xs := xs) (ys := ys), List.cons.injEq]
def dL {r : RT α} (D : DatR r) : DatR (rL r) := ⟨fun xs => .list (xs.map D.d), fun xs => ∀ x ∈ xs, D.g x, D.n + 1, fun K H v xs ⟨a, vs, e, hh, pr⟩ => by subst e; exact .lst (sql_of hh) (dpAll D pr), fun xs h => by simp only [PyData.canLay0]; exact layAll D h,
  fun xs => by simp only [PyData.depth]; exact Nat.succ_le_succ (depAll D), fun xs ys => by simp only [PyData.eqv]; exact injAll D⟩
def dT {r : RT α} (D : DatR r) : DatR (rT r) := ⟨fun xs => .tuple (xs.map D.d), fun xs => ∀ x ∈ xs, D.g x, D.n + 1, fun K H v xs ⟨a, vs, e, hh, pr⟩ => by subst e; exact .tup (sqt_of hh) (dpAll D pr), fun xs h => by simp only [PyData.canLay0]; exact layAll D h,
  fun xs => by simp only [PyData.depth]; exact Nat.succ_le_succ (depAll D), fun xs ys => by simp only [PyData.eqv]; exact injAll D⟩
def dP {r : RT α} {q : RT β} (D : DatR r) (E : DatR q) : DatR (rP r q) := ⟨fun p => .tuple [D.d p.1, E.d p.2], fun p => D.g p.1 ∧ E.g p.2, max D.n E.n + 1, fun K H v p ⟨a, x, y, e, hh, r1, r2⟩ => by subst e; exact .tup (sqt_of hh) (.cons (D.ok K H _ _ r1) (.cons (E.ok K H _ _ r2) .nil)),
  fun p h => by simp only [PyData.canLay0, PyData.canLayAll0, D.lay _ h.1, E.lay _ h.2, Bool.and_self], fun p => by
    simp only [PyData.depth, PyData.depthAll]
    have := D.dep p.1
    have := E.dep p.2
    omega, fun p q => by
    simp only [PyData.eqv, PyData.eqvAll, Bool.and_eq_true, Bool.and_true, D.inj, E.inj]
    exact ⟨fun h => Prod.ext h.1 h.2, fun h => by subst h; exact ⟨rfl, rfl⟩⟩⟩
def dP3 {r : RT α} {q : RT β} {z : RT γ} (D : DatR r) (E : DatR q) (F : DatR z) : DatR (rP3 r q z) := ⟨fun p => .tuple [D.d p.1, E.d p.2.1, F.d p.2.2], fun p => D.g p.1 ∧ E.g p.2.1 ∧ F.g p.2.2, max D.n (max E.n F.n) + 1, fun K H v p ⟨a, x, y, u, e, hh, r1, r2, r3⟩ => by subst e; exact .tup (sqt_of hh) (.cons (D.ok K H _ _ r1) (.cons (E.ok K H _ _ r2) (.cons (F.ok K H _ _ r3) .nil))),
  fun p h => by simp only [PyData.canLay0, PyData.canLayAll0, D.lay _ h.1, E.lay _ h.2.1, F.lay _ h.2.2, Bool.and_self], fun p => by
    simp only [PyData.depth, PyData.depthAll]
    have := D.dep p.1
    have := E.dep p.2.1
    have := F.dep p.2.2
    omega, fun p q => by
    simp only [PyData.eqv, PyData.eqvAll, Bool.and_eq_true, Bool.and_true, D.inj, E.inj, F.inj]
    exact ⟨fun h => Prod.ext h.1 (Prod.ext h.2.1 h.2.2), fun h => by subst h; exact ⟨rfl, rfl, rfl⟩⟩⟩
theorem DatR.shaped {r : RT α} (D : DatR r) (hn : D.n ≤ 64) {x : α} (h : D.g x) : SeqAt.shaped (D.d x) = true := by
  unfold SeqAt.shaped
  rw [D.lay x h, decide_eq_true (Nat.le_trans (D.dep x) hn)]; rfl
theorem os_eqD {r : RT α} [DecidableEq α] (D : DatR r) (hn : D.n ≤ 64) : OpS (rEqD K) r r rBl (fun x y P => (D.g x ∧ D.g y) ∧ P (decide (x = y))) := fun W k v x u y e1 e2 Q P ⟨⟨m1, m2⟩, m⟩ q => by
  refine ⟨D.d x, D.d y, D.ok K _ _ _ (r.mono k.ex e1), D.ok K _ _ _ (r.mono k.ex e2), D.shaped hn m1, D.shaped hn m2, q _ _ W m k (Grow.refl W) ?_⟩
  show V.bl _ = V.bl _
  congr 1
  rw [Bool.eq_iff_iff, D.inj, decide_eq_true_iff]
theorem os_neD {r : RT α} [DecidableEq α] (D : DatR r) (hn : D.n ≤ 64) : OpS (rNeD K) r r rBl (fun x y P => (D.g x ∧ D.g y) ∧ P (!decide (x = y))) := fun W k v x u y e1 e2 Q P ⟨⟨m1, m2⟩, m⟩ q => by
  refine ⟨D.d x, D.d y, D.ok K _ _ _ (r.mono k.ex e1), D.ok K _ _ _ (r.mono k.ex e2), D.shaped hn m1, D.shaped hn m2, q _ _ W m k (Grow.refl W) ?_⟩
  show V.bl _ = V.bl _
  congr 2
  rw [Bool.eq_iff_iff, D.inj, decide_eq_true_iff]
/-! ### tuples put together -/
theorem os_catA {r : RT α} : OpS (rCatA K) (rT r) (rT r) (rT r) (fun x y P => x.length + y.length ≤ sizeLine ∧ P (x ++ y)) := fun W k v x u y ⟨a, vs, e1, h1, p1⟩ ⟨b, ws, e2, h2, p2⟩ Q P ⟨m1, m⟩ q => by
  refine ⟨a, b, vs, ws, e1, e2, sqt_of (k.ex _ _ h1), sqt_of (k.ex _ _ h2), by rw [p1.length, p2.length]; exact m1, fun z => ?_, fun _ z => ?_, fun _ _ p np => ?_⟩
  · subst z
    cases p1
    exact q y (.ref b) W m k (Grow.refl W) ⟨b, ws, rfl, h2, p2⟩
  · subst z
    cases p2
    rw [List.append_nil] at m
    exact q x (.ref a) W m k (Grow.refl W) ⟨a, vs, rfl, h1, p1⟩
  · have g := grow_add (o := .tup (vs ++ ws)) k np
    exact q _ (.ref p) (W.add p (.tup (vs ++ ws))) m (k.add np) g ⟨p, _, rfl, upd_same, paired_app (pmap p1 fun _ _ => r.mono g.hc) (pmap p2 fun _ _ => r.mono g.hc)⟩
end
section
variable {X : Cx} {Γ Δ : List SP} {α β γ δ τ S S' B R : Type} {e a b c tg iter elt o : Expr} {es : List Expr} {pos : Pos} {st : Stmt} {sts rest body : List Stmt}
theorem xp_chain {op op' : CmpOp} {r r' : R2} {Ma : Mp α} {Mb : Mp β} {Mc : Mp γ} {ra : RT α} {rb : RT β} {rc : RT γ} {G : α → β → Mp Bool} {G' : β → γ → Mp Bool} (ho : OpR X (compareOp op) r) (hr : OpS r ra rb rBl G) (ho' : OpR X (compareOp op') r') (hr' : OpS r' rb rc rBl G')
    (ha : XP X Γ a Ma ra) (hb : XP X Γ b Mb rb) (hc : XP X Γ c Mc rc) (hm : lastMarks [op, op'] [b, c] = false := by with_unfolding_all rfl) :
    XP X Γ (.Compare a [op, op'] [b, c] pos) (fun P => Ma fun x => Mb fun y => G x y fun k => if k = true then Mc fun z => G' y z P else P false) rBl := by
  obtain ⟨t, p, q⟩ := ha
  obtain ⟨u, p2, q2⟩ := hb
  obtain ⟨w, p3, q3⟩ := hc
  refine ⟨_, pe_chain ho ho' p p2 p3 hm, fun σ W k s Q P m h => ?_⟩
  refine q σ W k s _ _ m fun x v W1 m1 k1 s1 g1 r1 => ?_
  refine q2 σ W1 k1 g1 _ _ m1 fun y v2 W2 m2 k2 s2 g2 r2 => ?_
  refine hr W2 k2 v x v2 y (ra.mono s2.hc r1) r2 _ _ m2 fun z w2 W3 m3 k3 g3 r3 => ?_
  have g3' := g2.up (g3.up k2)
  refine ⟨z, r3, ?_⟩
  cases z with
  | false => exact h false _ W3 m3 k3 ((s1.trans s2).trans g3.step) g3' rfl
  | true =>
    refine q3 σ W3 k3 g3' _ _ m3 fun z3 v3 W4 m4 k4 s4 g4 r4 => ?_
    exact hr' W4 k4 v2 y v3 z3 (rb.mono s4.hc (rb.mono g3.hc r2)) r4 _ _ m4 fun z5 w5 W5 m5 k5 g5 r5 => h z5 w5 W5 m5 k5 (((s1.trans s2).trans g3.step).trans (s4.trans g5.step)) (g4.up (g5.up k4)) r5
/-! ### lists: in, tuple(xs), list(xs), slices, sums -/
theorem Flat.vs {r : RT α} (F : Flat r) {H : Hp} : ∀ {vs : List V} {xs : List α}, Paired (r.ok H) vs xs → vs = xs.map F.f
  | _, _, .nil => rfl
  | _, _, .cons h t => by rw [List.map_cons, (F.ok _ _ _).mp h, ← F.vs t]
theorem Flat.inV {r : RT α} [DecidableEq α] (F : Flat r) (x : α) : ∀ xs : List α, L2.inV (F.f x) (xs.map F.f) = decide (x ∈ xs)
  | [] => by simp [L2.inV]
  | y :: ys => by
    have ih := F.inV x ys
    unfold L2.inV at ih ⊢
    rw [List.map_cons, List.any_cons, ih, F.inv, F.dec]
    by_cases h : y = x
    · subst h; simp
    · have h' : ¬ x = y := fun z => h z.symm
      simp [h, h']
theorem Flat.all {r : RT α} (F : Flat r) (xs : List α) : (xs.map F.f).all flatV = true := by
  rw [List.all_eq_true]
  intro v hv
  obtain ⟨x, _, rfl⟩ := List.mem_map.mp hv
  exact F.flat x
theorem inl_core {r : RT α} [DecidableEq α] (F : Flat r) {neg : Bool} {ta tb : TE} {Ma : Mp α} {Mb : Mp (List α)} {σ : St} {W : Wd}
    (q : ∀ (σ : St) (W : Wd), W.Ok → Sat Γ σ W → ∀ (Q : VK) (P : α → Prop), Ma P → (∀ x v W', P x → W'.Ok → Step W W' → Sat Γ σ W' → r.ok W'.Hc v x → Q v W'.H) → ta σ W.H Q)
    (q2 : ∀ (σ : St) (W : Wd), W.Ok → Sat Γ σ W → ∀ (Q : VK) (P : List α → Prop), Mb P → (∀ xs v W', P xs → W'.Ok → Step W W' → Sat Γ σ W' → (∀ W2 : Wd, W2.Ok → Step W' W2 → Sat Γ σ W2 → rBk r W2 v xs) → Q v W'.H) → tb σ W.H Q)
    (k : W.Ok) (s : Sat Γ σ W) (Q : VK) (P : Bool → Prop) (m : Ma fun x => Mb fun xs => P (if neg then !decide (x ∈ xs) else decide (x ∈ xs))) (h : ∀ z v W', P z → W'.Ok → Step W W' → Sat Γ σ W' → rBl.ok W'.Hc v z → Q v W'.H) : tOp (rIn X.K neg) ta tb σ W.H Q := by
  refine q σ W k s _ _ m fun x v W1 m1 k1 s1 g1 r1 => ?_
  refine q2 σ W1 k1 g1 _ _ m1 fun xs u W2 m2 k2 s2 g2 r2 => ?_
  obtain ⟨p, vs, e, hh, pr⟩ := r2 W2 k2 (Step.refl W2) g2
  have e1 := (F.ok _ _ _).mp r1
  have e2 := F.vs pr
  subst e1 e2
  refine ⟨p, _, e, .inl (sql_of hh), F.flat x, F.all xs, h _ _ W2 m2 k2 (s1.trans s2) g2 ?_⟩
  show V.bl _ = V.bl _
  rw [F.inV]
theorem xp_inL {r : RT α} [DecidableEq α] (F : Flat r) {Ma : Mp α} {Mb : Mp (List α)} (ha : XP X Γ a Ma r) (hb : XB X Γ b Mb r) (hm : behindInMarks .In b = false := by rfl) : XP X Γ (.Compare a [.In] [b] pos) (fun P => Ma fun x => Mb fun xs => P (decide (x ∈ xs))) rBl := by
  obtain ⟨t, p, q⟩ := ha
  obtain ⟨u, p2, q2⟩ := hb
  exact ⟨_, pe_cmpR op_in_seq p p2 hm, fun σ W k s Q P m h => inl_core F q q2 k s Q P m h⟩
theorem xp_ninL {r : RT α} [DecidableEq α] (F : Flat r) {Ma : Mp α} {Mb : Mp (List α)} (ha : XP X Γ a Ma r) (hb : XB X Γ b Mb r) (hm : behindInMarks .NotIn b = false := by rfl) : XP X Γ (.Compare a [.NotIn] [b] pos) (fun P => Ma fun x => Mb fun xs => P (!decide (x ∈ xs))) rBl := by
  obtain ⟨t, p, q⟩ := ha
  obtain ⟨u, p2, q2⟩ := hb
  exact ⟨_, pe_cmpR op_notIn_seq p p2 hm, fun σ W k s Q P m h => inl_core F q q2 k s Q P m h⟩
theorem xt_of {M : Mp Bool} (h : ∀ t, PE X e t → PT X e (tTest t)) (g : XP X Γ e M rBl) : XT X Γ e M := by
  obtain ⟨t, p, q⟩ := g
  exact ⟨_, h t p, fun σ W k s Q P m hh => q σ W k s _ P m fun x v W' m' k' s' g' r' => ⟨x, r', hh x W' m' k' s' g'⟩⟩
theorem xt_inL {r : RT α} [DecidableEq α] (F : Flat r) {Ma : Mp α} {Mb : Mp (List α)} (ha : XP X Γ a Ma r) (hb : XB X Γ b Mb r) (hm : behindInMarks .In b = false := by rfl) : XT X Γ (.Compare a [.In] [b] pos) (fun P => Ma fun x => Mb fun xs => P (decide (x ∈ xs))) := by
  obtain ⟨t, p, q⟩ := ha
  obtain ⟨u, p2, q2⟩ := hb
  exact ⟨_, pt_cmpR op_in_seq p p2 hm, fun σ W k s Q P m h => inl_core F q q2 k s _ P m fun z v W' m' k' s' g' r' => ⟨z, r', h z W' m' k' s' g'⟩⟩
theorem xt_ninL {r : RT α} [DecidableEq α] (F : Flat r) {Ma : Mp α} {Mb : Mp (List α)} (ha : XP X Γ a Ma r) (hb : XB X Γ b Mb r) (hm : behindInMarks .NotIn b = false := by rfl) : XT X Γ (.Compare a [.NotIn] [b] pos) (fun P => Ma fun x => Mb fun xs => P (!decide (x ∈ xs))) := by
  obtain ⟨t, p, q⟩ := ha
  obtain ⟨u, p2, q2⟩ := hb
  exact ⟨_, pt_cmpR op_notIn_seq p p2 hm, fun σ W k s Q P m h => inl_core F q q2 k s _ P m fun z v W' m' k' s' g' r' => ⟨z, r', h z W' m' k' s' g'⟩⟩
/-- a built-in class called with one list -/
theorem xp_tyB {T : String} {x : Str} {p : Pos} {M : Mp (List α)} {G : List α → Mp γ} {r : RT α} {rc : RT γ} {rd : List V → Hp → VK → Prop} (hc : CallR X (.type T) rd)
    (hs : ∀ (W : Wd), W.Ok → ∀ v xs, rBk r W v xs → ∀ (Q : VK) (P : γ → Prop), G xs P → (∀ z w W', P z → W'.Ok → Grow W W' → rc.ok W'.Hc w z → Q w W'.H) → rd [v] W.H Q)
    (hv : bootBuiltins x = some (.type T)) (hm : X.mg x = none) (ha : XB X Γ e M r) (hg : Gl X x := by rfl) (hn : x ≠ "__name__" := by decide) (hdb : (x == ("__debug__" : Str)) = false := by decide) (h1 : starEach [e] X.env = (false, eval e X.env) :: starEach [] X.env := by rfl) :
    XP X Γ (.Call (.Name x p) [e] [] pos) (fun P => M fun xs => G xs P) rc := by
  obtain ⟨t, pp, q⟩ := ha
  refine ⟨_, pe_callTy hc hg hm hv (pa_cons pp pa_nil h1) hn hdb h1, fun σ W k s Q P m h => ?_⟩
  refine q σ W k s _ _ m fun xs v W1 m1 k1 s1 g1 r1 => ?_
  exact hs W1 k1 v xs (r1 W1 k1 (Step.refl W1) g1) Q P m1 fun z w W2 m2 k2 g2 r2 => h z w W2 m2 k2 (s1.trans g2.step) (g1.up (g2.up k1)) r2
theorem xp_tupleL {p : Pos} {M : Mp (List α)} {r : RT α} (hm : X.mg "tuple" = none) (ha : XB X Γ e M r) (hg : Gl X "tuple" := by rfl) (h1 : starEach [e] X.env = (false, eval e X.env) :: starEach [] X.env := by rfl) : XP X Γ (.Call (.Name "tuple" p) [e] [] pos) (fun P => M fun xs => P xs) (rT r) :=
  xp_tyB call_tuple_of (fun W k v xs ⟨a, vs, e, hh, pr⟩ Q P m h => ⟨a, vs, by rw [e], .inl ⟨sql_of hh, fun l nl => by
    have g := grow_add (o := .tup vs) k nl
    exact h xs (.ref l) (W.add l (.tup vs)) m (k.add nl) g ⟨l, vs, rfl, upd_same, pmap pr fun _ _ => r.mono g.hc⟩⟩⟩) (by decide +kernel) hm ha hg (by decide) (by decide) h1
/-- list(xs) -/
theorem xn_listL {p : Pos} {M : Mp (List α)} {r : RT α} (hm : X.mg "list" = none) (ha : XB X Γ e M r) (hg : Gl X "list" := by rfl) (h1 : starEach [e] X.env = (false, eval e X.env) :: starEach [] X.env := by rfl) : XN X Γ (.Call (.Name "list" p) [e] [] pos) M r := by
  obtain ⟨t, pp, q⟩ := ha
  refine ⟨_, pe_callTy call_list_of hg hm (by decide +kernel) (pa_cons pp pa_nil h1) (by decide) (by decide) h1, fun σ W k s Q P m h => ?_⟩
  refine q σ W k s _ _ m fun xs v W1 m1 k1 s1 g1 r1 => ?_
  obtain ⟨a, vs, e, hh, pr⟩ := r1 W1 k1 (Step.refl W1) g1
  refine ⟨a, vs, by rw [e], .inl (sql_of hh), fun l nl => ?_⟩
  have g := grow_lay (W := W1) (o := .lst vs) nl
  exact h xs l vs (W1.lay l (.lst vs)) m1 (k1.lay nl) (s1.trans g.step) (g1.up (g.up k1)) (fresh_of s1 nl) (k1.none_of nl) (k1.free nl) upd_same pr
theorem xn_listT {p : Pos} {M : Mp (List α)} {r : RT α} (hm : X.mg "list" = none) (ha : XP X Γ e M (rT r)) (hg : Gl X "list" := by rfl) (h1 : starEach [e] X.env = (false, eval e X.env) :: starEach [] X.env := by rfl) : XN X Γ (.Call (.Name "list" p) [e] [] pos) M r := by
  obtain ⟨t, pp, q⟩ := ha
  refine ⟨_, pe_callTy call_list_of hg hm (by decide +kernel) (pa_cons pp pa_nil h1) (by decide) (by decide) h1, fun σ W k s Q P m h => ?_⟩
  refine q σ W k s _ _ m fun xs v W1 m1 k1 s1 g1 ⟨a, vs, e, hh, pr⟩ => ?_
  refine ⟨a, vs, by rw [e], .inr (sqt_of (k1.ex _ _ hh)), fun l nl => ?_⟩
  have g := grow_lay (W := W1) (o := .lst vs) nl
  exact h xs l vs (W1.lay l (.lst vs)) m1 (k1.lay nl) (s1.trans g.step) (g1.up (g.up k1)) (fresh_of s1 nl) (k1.none_of nl) (k1.free nl) upd_same pr
/-- t[::-1], xs[::-1] -/
theorem xp_revT {k : Nat} {p1 p2 p3 : Pos} {M : Mp (List α)} {r : RT α} (h : XP X Γ e M (rT r)) : XP X Γ (.Subscript e (.Slice none none (some (.UnaryOp .USub (.Constant (.int 1) k p1) p2)) p3) pos) (fun P => M fun xs => P xs.reverse) (rT r) := by
  obtain ⟨t, p, q⟩ := h
  refine ⟨_, pe_revT p, fun σ W k s Q P m h => q σ W k s _ _ m fun xs v W1 m1 k1 s1 g1 ⟨a, vs, e, hh, pr⟩ => ⟨a, vs, e, sqt_of (k1.ex _ _ hh), fun l nl => ?_⟩⟩
  have g := grow_add (o := .tup vs.reverse) k1 nl
  have rev : ∀ {vs : List V} {xs : List α}, Paired (r.ok W1.Hc) vs xs → Paired (r.ok W1.Hc) vs.reverse xs.reverse := fun {vs xs} pr => by
    induction pr with
    | nil => exact .nil
    | cons h t ih => rw [List.reverse_cons, List.reverse_cons]; exact ih.snoc h
  exact h _ (.ref l) (W1.add l (.tup vs.reverse)) m1 (k1.add nl) (s1.trans g.step) (g1.up (g.up k1)) ⟨l, _, rfl, upd_same, pmap (rev pr) fun _ _ => r.mono g.hc⟩
theorem xn_revL {k : Nat} {p1 p2 p3 : Pos} {M : Mp (List α)} {r : RT α} (h : XB X Γ e M r) : XN X Γ (.Subscript e (.Slice none none (some (.UnaryOp .USub (.Constant (.int 1) k p1) p2)) p3) pos) (fun P => M fun xs => P xs.reverse) r := by
  obtain ⟨t, p, q⟩ := h
  refine ⟨_, pe_revL p, fun σ W k s Q P m h => q σ W k s _ _ m fun xs v W1 m1 k1 s1 g1 r1 => ?_⟩
  obtain ⟨a, vs, e, hh, pr⟩ := r1 W1 k1 (Step.refl W1) g1
  refine ⟨a, vs, e, sql_of hh, fun l nl => ?_⟩
  have g := grow_lay (W := W1) (o := .lst vs.reverse) nl
  have rev : ∀ {vs : List V} {xs : List α}, Paired (r.ok W1.Hc) vs xs → Paired (r.ok W1.Hc) vs.reverse xs.reverse := fun {vs xs} pr => by
    induction pr with
    | nil => exact .nil
    | cons h t ih => rw [List.reverse_cons, List.reverse_cons]; exact ih.snoc h
  exact h _ l _ (W1.lay l (.lst vs.reverse)) m1 (k1.lay nl) (s1.trans g.step) (g1.up (g.up k1)) (fresh_of s1 nl) (k1.none_of nl) (k1.free nl) upd_same (rev pr)
/-! parts of slices -/
def XO (X : Cx) (Γ : List SP) (e : Option Expr) (M : Mp (Option Int)) : Prop :=
  ∃ t, PO X e t ∧ ∀ (σ : St) (W : Wd), W.Ok → Sat Γ σ W → ∀ (Q : Option Int → Hp → Prop) (P : Option Int → Prop), M P → (∀ x W', P x → W'.Ok → Step W W' → Sat Γ σ W' → Q x W'.H) → t σ W.H Q
theorem xo_none : XO X Γ none (fun P => P none) := ⟨_, po_none, fun σ W k s Q P m h => h none W m k (Step.refl W) s⟩
theorem xo_some {M : Mp Int} (h : XP X Γ e M rInt) : XO X Γ (some e) (fun P => M fun i => P (some i)) := by
  obtain ⟨t, p, q⟩ := h
  exact ⟨_, po_some p, fun σ W k s Q P m h => q σ W k s _ _ m fun x v W1 m1 k1 s1 g1 r1 => ⟨x, r1, h _ W1 m1 k1 s1 g1⟩⟩
/-- the items of xs[lo:hi] -/
def cutL (xs : List α) (lo hi : Option Int) : List α := (xs.drop (HT.sIx xs.length 0 lo)).take (HT.sIx xs.length xs.length hi - HT.sIx xs.length 0 lo)
theorem paired_cut {F : V → α → Prop} {vs : List V} {xs : List α} (h : Paired F vs xs) (lo hi : Option Int) : Paired F (cutV vs lo hi) (cutL xs lo hi) := by
  unfold cutV cutL
  rw [h.length]
  have dr : ∀ {vs : List V} {xs : List α} (n : Nat), Paired F vs xs → Paired F (vs.drop n) (xs.drop n) := fun {vs xs} n h => by
    induction h generalizing n with
    | nil => rw [List.drop_nil, List.drop_nil]; exact .nil
    | cons h t ih => cases n with
      | zero => exact .cons h t
      | succ n => exact ih n
  have tk : ∀ {vs : List V} {xs : List α} (n : Nat), Paired F vs xs → Paired F (vs.take n) (xs.take n) := fun {vs xs} n h => by
    induction h generalizing n with
    | nil => rw [List.take_nil, List.take_nil]; exact .nil
    | cons h t ih => cases n with
      | zero => exact .nil
      | succ n => exact .cons h (ih n)
  exact tk _ (dr _ h)
theorem xn_slice {lo hi : Option Expr} {p2 : Pos} {M : Mp (List α)} {N O : Mp (Option Int)} {r : RT α} (h : XB X Γ e M r) (hl : XO X Γ lo N) (hh : XO X Γ hi O) : XN X Γ (.Subscript e (.Slice lo hi none p2) pos) (fun P => M fun xs => N fun i => O fun j => P (cutL xs i j)) r := by
  obtain ⟨t, p, q⟩ := h
  obtain ⟨t2, pp2, q2⟩ := hl
  obtain ⟨t3, pp3, q3⟩ := hh
  refine ⟨_, pe_slice sl_list p pp2 pp3, fun σ W k s Q P m h => q σ W k s _ _ m fun xs v W1 m1 k1 s1 g1 r1 => ?_⟩
  refine q2 σ W1 k1 g1 _ _ m1 fun i W2 m2 k2 s2 g2 => q3 σ W2 k2 g2 _ _ m2 fun j W3 m3 k3 s3 g3 => ?_
  obtain ⟨a, vs, e, hh, pr⟩ := r1 W3 k3 (s2.trans s3) g3
  refine ⟨a, vs, e, sql_of hh, fun l nl => ?_⟩
  have g := grow_lay (W := W3) (o := .lst (cutV vs i j)) nl
  exact h _ l _ (W3.lay l _) m3 (k3.lay nl) (((s1.trans s2).trans s3).trans g.step) (g3.up (g.up k3)) (fresh_of ((s1.trans s2).trans s3) nl) (k3.none_of nl) (k3.free nl) upd_same (paired_cut pr i j)
theorem xp_sliceT {lo hi : Option Expr} {p2 : Pos} {M : Mp (List α)} {N O : Mp (Option Int)} {r : RT α} (h : XP X Γ e M (rT r)) (hl : XO X Γ lo N) (hh : XO X Γ hi O) : XP X Γ (.Subscript e (.Slice lo hi none p2) pos) (fun P => M fun xs => N fun i => O fun j => P (cutL xs i j)) (rT r) := by
  obtain ⟨t, p, q⟩ := h
  obtain ⟨t2, pp2, q2⟩ := hl
  obtain ⟨t3, pp3, q3⟩ := hh
  refine ⟨_, pe_slice sl_tupA p pp2 pp3, fun σ W k s Q P m h => q σ W k s _ _ m fun xs v W1 m1 k1 s1 g1 r1 => ?_⟩
  refine q2 σ W1 k1 g1 _ _ m1 fun i W2 m2 k2 s2 g2 => q3 σ W2 k2 g2 _ _ m2 fun j W3 m3 k3 s3 g3 => ?_
  obtain ⟨a, vs, e, hh, pr⟩ := (rT r).mono (s2.trans s3).hc r1
  refine ⟨a, vs, e, sqt_of (k3.ex _ _ hh), fun ⟨z1, z2⟩ => ?_, fun _ l nl => ?_⟩
  · have ec : cutL xs i j = xs := by
      unfold cutL
      rw [← pr.length, z1, z2]
      simp [pr.length]
    rw [ec] at m3
    exact h xs _ W3 m3 k3 ((s1.trans s2).trans s3) g3 ⟨a, vs, rfl, hh, pr⟩
  · have g := grow_add (o := .tup (cutV vs i j)) k3 nl
    exact h _ (.ref l) (W3.add l _) m3 (k3.add nl) (((s1.trans s2).trans s3).trans g.step) (g3.up (g.up k3)) ⟨l, _, rfl, upd_same, pmap (paired_cut pr i j) fun _ _ => r.mono g.hc⟩
/-- xs + ys, new -/
theorem xn_cat {M N : Mp (List α)} {r : RT α} (ha : XB X Γ a M r) (hb : XB X Γ b N r) : XN X Γ (.BinOp a .Add b pos) (fun P => M fun xs => N fun ys => xs.length + ys.length ≤ sizeLine ∧ P (xs ++ ys)) r := by
  obtain ⟨t, p, q⟩ := ha
  obtain ⟨u, p2, q2⟩ := hb
  refine ⟨_, pe_op op_cat p p2, fun σ W k s Q P m h => q σ W k s _ _ m fun xs v W1 m1 k1 s1 g1 r1 => ?_⟩
  refine q2 σ W1 k1 g1 _ _ m1 fun ys v2 W2 ⟨mz, m2⟩ k2 s2 g2 r2 => ?_
  obtain ⟨a, vs, e, hh, pr⟩ := r1 W2 k2 s2 g2
  obtain ⟨b, ws, e2, hh2, pr2⟩ := r2 W2 k2 (Step.refl W2) g2
  refine ⟨a, b, vs, ws, e, e2, hh, hh2, by rw [pr.length, pr2.length]; exact mz, fun l nl => ?_⟩
  have g := grow_lay (W := W2) (o := .lst (vs ++ ws)) nl
  exact h _ l _ (W2.lay l _) m2 (k2.lay nl) ((s1.trans s2).trans g.step) (g2.up (g.up k2)) (fresh_of (s1.trans s2) nl) (k2.none_of nl) (k2.free nl) upd_same (paired_app pr pr2)
end
end TM
set_option Elab.async false
set_option linter.all false
set_option maxRecDepth 100000
namespace TM
open PySem PySem.Spec PyProof.Rows L2
section
variable {X : Cx} {Γ Δ : List SP} {α β γ δ τ S S' B R : Type} {e a b c tg iter elt o : Expr} {es : List Expr} {pos : Pos} {st : Stmt} {sts rest body : List Stmt}
/-! ### a new list joins a slot -/
theorem sat_own {σ : St} {W W1 : Wd} {i : Nat} {r : RT α} {xs : List α} {u : Addr} {vs : List V} (k : W.Ok) (k1 : W1.Ok) (s1 : Step W W1) (g1 : Sat Γ σ W1) (n : W.H u = none) (nc : W1.Hc u = none) (no : W1.O u = none) (hh : W1.H u = some (.lst vs)) (pr : Paired (r.ok W1.Hc) vs xs) :
    ∃ W2, W2.H = W1.H ∧ W2.Ok ∧ Step W W2 ∧ Sat (Γ.set i (.own r xs)) (σ.set i (some (.ref u))) W2 := by
  have h0 := base_free k s1 n
  refine ⟨⟨W1.Hc, W1.H, fun b => if b = u then some i else W1.O b, W1.B⟩, rfl, ⟨k1.ex, fun b j q => ?_, k1.basTo (fun _ q => q) (fun _ _ _ _ q => q) fun b e q => by
    have q : (if b = u then some i else W1.O b) = none := q
    by_cases z : b = u
    · rw [if_pos z] at q; cases q
    · rw [if_neg z] at q; exact q⟩, ⟨fun b o a c => s1.keep b o a c, s1.dom, s1.hc, fun b a c => ⟨(s1.old b a c).1, ?_⟩, s1.B⟩, (SatL.set g1 (fun k o' nk e z => ?_) ⟨u, vs, rfl, h0, ?_, hh, pr⟩)⟩
  · have q : (if b = u then some i else W1.O b) = some j := q
    by_cases z : b = u
    · rw [z]; exact ⟨nc, ne_none_of hh⟩
    · rw [if_neg z] at q; exact k1.own b j q
  · show (if b = u then some i else W1.O b) = none
    rw [if_neg (fun z => a (by rw [z]; exact n))]; exact (s1.old b a c).2
  · refine z.up ⟨fun _ _ e => e, fun b j q => ⟨?_, rfl⟩, rfl, fun b e q => by
      show (if b = u then some i else W1.O b) = none
      rw [if_neg fun w => e (by rw [w]; exact h0)]; exact q⟩
    show (if b = u then some i else W1.O b) = some j
    rw [if_neg (fun z => by rw [z, no] at q; cases q)]; exact q
  · show (if u = u then some i else W1.O u) = some (0 + i)
    rw [if_pos rfl, Nat.zero_add]
theorem sat_cl {σ : St} {W W1 : Wd} {i : Nat} {r : RT α} {xs : List α} {u : Addr} {vs : List V} (k1 : W1.Ok) (s1 : Step W W1) (g1 : Sat Γ σ W1) (n : W.H u = none) (nc : W1.Hc u = none) (no : W1.O u = none) (hh : W1.H u = some (.lst vs)) (pr : Paired (r.ok W1.Hc) vs xs) :
    ∃ W2, W2.H = W1.H ∧ W2.Ok ∧ Step W W2 ∧ Sat (Γ.set i (.cl (rL r) xs)) (σ.set i (some (.ref u))) W2 := by
  have up := up_frz (o := .lst vs) nc
  exact ⟨W1.frz u (.lst vs), rfl, k1.frz hh no, s1.frz n nc, Sat.put (Γ := Γ) (g1.up up) ⟨.ref u, rfl, u, vs, rfl, upd_same, pmap pr fun _ _ => r.mono up.hc⟩⟩
/-- y = [..] -/
theorem xt_lcN (i : Nat) {y : Str} {py cpos spos : Pos} {scope : Scope} {own : List (Str × Nat)} {g : TG} {ifs : List Expr} {M : Mp (List β)} {r : RT β} {Γb : B → List SP} {RR : R → V → Wd → Prop} (h : XLC X Γ elt tg iter ifs scope own g M r) (hcalm : X.calm = true) (hnd : X.N.Nodup) (hok : BlkOk X.N X.env.scope scope own)
    (hg : ∀ (s : Shared) (H : Hp) (C : Addr) (cl : List (Str × Addr)) (fp : List Addr), PG (X.blk s H scope (compEnvC scope cl C X.env) fp) tg g) (hN : X.N[i]? = some y := by rfl) (hyl : X.env.scope.names.lookup y = some .local := by rfl) (hsw : swapsWith (.ListComp elt [⟨tg, iter, ifs, 0⟩] scope cpos) (some (.Name y py)) spos.line X.env = pure true := by rfl) (hs : ∀ x, foldedSetIterable iter X.env x = pure x := by intro _; rfl) :
    XSt X Γ (.Assign [.Name y py] (.ListComp elt [⟨tg, iter, ifs, 0⟩] scope cpos) spos) (fun κ : Kn (List β) B R => M κ.nx) (fun x => Γ.set i (.own r x)) Γb RR := by
  obtain ⟨wi, tt, te, p, ht, he, q⟩ := h
  refine ⟨_, ps_setLc hcalm hnd hN hyl hsw p hok hg ht he hs, fun σ W k gg κ D m h1 _ _ _ => ?_⟩
  refine q σ W k gg _ _ m fun xs u vs W1 m1 k1 s1 g1 n nc no hh pr => ?_
  obtain ⟨W2, e2, k2, s2, g2⟩ := sat_own (i := i) k k1 s1 g1 n nc no hh pr
  rw [← e2]
  exact h1 xs _ W2 m1 k2 s2 g2
theorem xt_lcC (i : Nat) {y : Str} {py cpos spos : Pos} {scope : Scope} {own : List (Str × Nat)} {g : TG} {ifs : List Expr} {M : Mp (List β)} {r : RT β} {Γb : B → List SP} {RR : R → V → Wd → Prop} (h : XLC X Γ elt tg iter ifs scope own g M r) (hcalm : X.calm = true) (hnd : X.N.Nodup) (hok : BlkOk X.N X.env.scope scope own)
    (hg : ∀ (s : Shared) (H : Hp) (C : Addr) (cl : List (Str × Addr)) (fp : List Addr), PG (X.blk s H scope (compEnvC scope cl C X.env) fp) tg g) (hN : X.N[i]? = some y := by rfl) (hyl : X.env.scope.names.lookup y = some .local := by rfl) (hsw : swapsWith (.ListComp elt [⟨tg, iter, ifs, 0⟩] scope cpos) (some (.Name y py)) spos.line X.env = pure true := by rfl) (hs : ∀ x, foldedSetIterable iter X.env x = pure x := by intro _; rfl) :
    XSt X Γ (.Assign [.Name y py] (.ListComp elt [⟨tg, iter, ifs, 0⟩] scope cpos) spos) (fun κ : Kn (List β) B R => M κ.nx) (fun x => Γ.set i (.cl (rL r) x)) Γb RR := by
  obtain ⟨wi, tt, te, p, ht, he, q⟩ := h
  refine ⟨_, ps_setLc hcalm hnd hN hyl hsw p hok hg ht he hs, fun σ W k gg κ D m h1 _ _ _ => ?_⟩
  refine q σ W k gg _ _ m fun xs u vs W1 m1 k1 s1 g1 n nc no hh pr => ?_
  obtain ⟨W2, e2, k2, s2, g2⟩ := sat_cl (i := i) k1 s1 g1 n nc no hh pr
  rw [← e2]
  exact h1 xs _ W2 m1 k2 s2 g2
/-! ### expressions that change one's own lists -/
def XQ (X : Cx) (Γ : List SP) (e : Expr) (M : (α → S → Prop) → Prop) (r : RT α) (Γn : S → List SP) : Prop :=
  ∃ t, PE X e t ∧ ∀ (σ : St) (W : Wd), W.Ok → Sat Γ σ W → ∀ (Q : VK) (P : α → S → Prop), M P → (∀ x s v W', P x s → W'.Ok → Step W W' → Sat (Γn s) σ W' → r.ok W'.Hc v x → Q v W'.H) → t σ W.H Q
theorem paired_last {F : V → α → Prop} {vs : List V} {ys : List α} {y : α} (h : Paired F vs (ys ++ [y])) : ∃ us u, vs = us ++ [u] ∧ Paired F us ys ∧ F u y := by
  induction ys generalizing vs with
  | nil => cases h with
    | cons a t => cases t; exact ⟨[], _, rfl, .nil, a⟩
  | cons z zs ih => cases h with
    | cons a t =>
      obtain ⟨us, u, rfl, p, q⟩ := ih t
      exact ⟨_ :: us, u, rfl, .cons a p, q⟩
/-- xs.pop() -/
theorem xq_pop (i : Nat) {x : Str} {p1 p2 : Pos} {r : RT α} {xs : List α} (h : look Γ i = .own r xs) (hN : X.N[i]? = some x := by rfl) (hv : Vis X.env.scope x := by first | exact Or.inl rfl | exact Or.inr (Or.inl rfl) | exact Or.inr (Or.inr rfl)) (hd : (x == ("__debug__" : Str)) = false := by decide) (hcd : (x == ("__classdict__" : Str)) = false := by decide)
    (hbase : attributeBase (.Name x p1) "pop" X.env (eval (.Name x p1) X.env) = eval (.Name x p1) X.env := by rfl) (hline : (p2.endLine == pos.line) = true := by rfl) :
    XQ X Γ (.Call (.Attribute (.Name x p1) "pop" p2) [] [] pos) (fun P => ∃ ys y, xs = ys ++ [y] ∧ P y ys) r (fun ys => Γ.set i (.own r ys)) := by
  refine ⟨_, pe_bm0 PySem.F.plainAttrs_list PySem.F.slot_list_pop PySem.F.type_list_pop mt_pop (pe_var hN hv hd hcd) hbase hline, fun σ W k g Q P ⟨ys, y, ex, m⟩ q => ?_⟩
  subst ex
  obtain ⟨o, eo, u, vs, rfl, n, ho, hh, pr⟩ := g.look h (by simp)
  obtain ⟨us, w, rfl, pr1, pr2⟩ := paired_last pr
  refine ⟨.ref u, eo, .inl ⟨rfl, _, sql_of hh⟩, u, us ++ [w], w, rfl, rfl, hh, by simp, ?_⟩
  rw [List.dropLast_concat]
  exact q y ys w (W.mut u (.lst us)) m (k.mut ho) (step_mut ho) (g.mut ho eo ⟨u, _, rfl, n, ho, upd_same, pr1⟩) pr2
theorem xq_p {M : Mp α} {r : RT α} (h : XP X Γ e M r) : XQ X Γ e (fun P => M fun x => P x ()) r (fun _ : Unit => Γ) := let ⟨t, p, q⟩ := h; ⟨t, p, fun σ W k g Q P m h => q σ W k g Q _ m fun x v W' => h x () v W'⟩
/-- (e,) -/
theorem xq_tup1 {x1} {M : (α → S → Prop) → Prop} {r : RT α} {Γn : S → List SP} (h : XQ X Γ e M r Γn) (hs : starEach [e] X.env = (false, eval e X.env) :: starEach [] X.env := by rfl) : XQ X Γ (.Tuple [e] x1 pos) (fun P => M fun x s => P [x] s) (rT r) Γn := by
  obtain ⟨t, p, q⟩ := h
  refine ⟨_, pe_tup (pa_cons p pa_nil hs), fun σ W k g Q P m hh => ?_⟩
  refine q σ W k g _ _ m fun x s v W1 m1 k1 s1 g1 r1 => ?_
  refine ⟨(by show 1 ≤ sizeLine; decide), fun u nu => ?_⟩
  have gr := grow_lay (o := .tup [v]) nu
  have k2 := k1.lay (o := .tup [v]) nu
  have up := up_frz (W := W1.lay u (.tup [v])) (o := .tup [v]) (k1.none_of nu)
  exact hh [x] s (.ref u) ((W1.lay u (.tup [v])).frz u (.tup [v])) m1 (k2.frz upd_same (k1.free nu)) ((s1.trans gr.step).frz (fresh_of s1 nu) (k1.none_of nu)) ((g1.up (gr.up k1)).up up) ⟨u, [v], rfl, upd_same, .cons (r.mono up.hc r1) .nil⟩
/-- a op b, b changes one's own lists -/
theorem xq_op {op : Operator} {r : R2} {Ma : Mp α} {Mb : (β → S → Prop) → Prop} {ra : RT α} {rb : RT β} {rc : RT γ} {G : α → β → Mp γ} {Γn : S → List SP} (ho : OpR X (binaryOp op) r) (hr : OpS r ra rb rc G) (ha : XP X Γ a Ma ra) (hb : XQ X Γ b Mb rb Γn) : XQ X Γ (.BinOp a op b pos) (fun P => Ma fun x => Mb fun y s => G x y fun z => P z s) rc Γn := by
  obtain ⟨t1, p1, q1⟩ := ha
  obtain ⟨t2, p2, q2⟩ := hb
  refine ⟨_, pe_op ho p1 p2, fun σ W k g Q P m h => ?_⟩
  refine q1 σ W k g _ _ m fun x v W1 m1 k1 s1 g1 r1 => ?_
  refine q2 σ W1 k1 g1 _ _ m1 fun y s u W2 m2 k2 s2 g2 r2 => ?_
  exact hr W2 k2 v x u y (ra.mono s2.hc r1) r2 _ _ m2 fun z w W3 m3 k3 s3 r3 => h z s w W3 m3 k3 ((s1.trans s2).trans s3.step) (g2.up (s3.up k2)) r3
/-- x = e -/
theorem xt_setQ (i : Nat) {x : Str} {p' : Pos} {M : (α → S → Prop) → Prop} {r : RT α} {Γn : S → List SP} {Γb : B → List SP} {RR : R → V → Wd → Prop} (h : XQ X Γ e M r Γn) (hnd : X.N.Nodup) (hN : X.N[i]? = some x := by rfl) (hx : Loc X.env.scope x := by first | exact .inl rfl | exact .inr rfl) (hs : swapsWith e (some (.Name x p')) pos.line X.env = pure false := by rfl) (hf : X.fn x = true ∨ X.env.scope.names.lookup x = some .local := by first | exact .inl rfl | exact .inr rfl) :
    XSt X Γ (.Assign [.Name x p'] e pos) (fun κ : Kn (α × S) B R => M fun y s => κ.nx (y, s)) (fun z => (Γn z.2).set i (.cl r z.1)) Γb RR := by
  obtain ⟨t, p, q⟩ := h
  refine ⟨_, ps_set hnd hN hx p hs hf, fun σ W k g κ D m h1 _ _ _ => ?_⟩
  exact q σ W k g _ _ m fun x s v W1 m1 k1 s1 g1 r1 => h1 (x, s) _ W1 m1 k1 s1 (g1.put ⟨v, rfl, r1⟩)
/-- e, whose value falls -/
theorem xt_exprQ {M : (α → S → Prop) → Prop} {r : RT α} {Γn : S → List SP} {Γb : B → List SP} {RR : R → V → Wd → Prop} (h : XQ X Γ e M r Γn) (hs : swapsWith e none pos.line X.env = pure false := by rfl) : XSt X Γ (.Expr e pos) (fun κ : Kn S B R => M fun _ s => κ.nx s) Γn Γb RR := by
  obtain ⟨t, p, q⟩ := h
  exact ⟨_, ps_expr p hs, fun σ W k g κ D m h1 _ _ _ => q σ W k g _ _ m fun x s v W1 m1 k1 s1 g1 r1 => h1 s σ W1 m1 k1 s1 g1⟩
/-- a, b = e -/
theorem xt_unpQ {M : (α → S → Prop) → Prop} {r : RT α} {Γn : S → List SP} {Γt : α → S → List SP} {Γb : B → List SP} {RR : R → V → Wd → Prop} (h : XQ X Γ e M r Γn) (hg : XG X tg Γn r Γt) (hs : swapsWithSole [tg] e pos.line X.env = pure false := by rfl) (hw : swappedStores [tg] e X.env = pure none := by rfl) (ha : (assignEach [tg] X.env).map (·.2) = [assign tg X.env] := by rfl) :
    XSt X Γ (.Assign [tg] e pos) (fun κ : Kn (α × S) B R => M fun y s => κ.nx (y, s)) (fun z => Γt z.1 z.2) Γb RR := by
  obtain ⟨t, p, q⟩ := h
  obtain ⟨g, p2, q2⟩ := hg
  refine ⟨_, ps_asg p p2 hs hw ha, fun σ W k gg κ D m h1 _ _ _ => ?_⟩
  exact q σ W k gg _ _ m fun x s v W1 m1 k1 s1 g1 r1 => q2 σ W1 v x s k1 g1 r1 _ fun σ' g' => h1 (x, s) σ' W1 m1 k1 s1 g'
end
end TM
set_option Elab.async false
set_option linter.all false
set_option maxRecDepth 100000
namespace TM
open PySem PySem.Spec PyProof.Rows L2
section
variable {X : Cx} {Γ Δ : List SP} {α β γ δ τ S S' B R : Type} {e a b c tg iter elt o : Expr} {es : List Expr} {pos : Pos} {st : Stmt} {sts rest body : List Stmt}
/-! ### built-ins over one list -/
theorem vs_int {H : Hp} {vs : List V} {xs : List Int} (p : Paired (rInt.ok H) vs xs) : vs = xs.map V.int := fInt.vs p
theorem vs_bl {H : Hp} {vs : List V} {xs : List Bool} (p : Paired (rBl.ok H) vs xs) : vs = xs.map V.bl := fBl.vs p
theorem vs_str {H : Hp} {vs : List V} {xs : List Str} (p : Paired (rStr.ok H) vs xs) : vs = xs.map V.str := fStr.vs p
theorem xp_sum {p : Pos} {M : Mp (List Int)} (hc : X.calm = true) (hm : X.mg "sum" = none) (ha : XB X Γ e M rInt) (hg : Gl X "sum" := by rfl) (h1 : starEach [e] X.env = (false, eval e X.env) :: starEach [] X.env := by rfl) : XP X Γ (.Call (.Name "sum" p) [e] [] pos) (fun P => M fun xs => P xs.sum) rInt :=
  xp_bltB (cr_sum hc) (fun W k v xs ⟨a, vs, e, hh, pr⟩ Q P m h => ⟨a, xs, by rw [e], by rw [← vs_int pr]; exact sql_of hh, h _ _ W m k (Grow.refl W) rfl⟩) hm (by with_unfolding_all rfl) ha hg (by decide) (by decide) h1
theorem xp_all {p : Pos} {M : Mp (List Bool)} (hc : X.calm = true) (hm : X.mg "all" = none) (ha : XB X Γ e M rBl) (hg : Gl X "all" := by rfl) (h1 : starEach [e] X.env = (false, eval e X.env) :: starEach [] X.env := by rfl) : XP X Γ (.Call (.Name "all" p) [e] [] pos) (fun P => M fun xs => P (xs.all id)) rBl :=
  xp_bltB (cr_all hc) (fun W k v xs ⟨a, vs, e, hh, pr⟩ Q P m h => ⟨a, xs, by rw [e], by rw [← vs_bl pr]; exact sql_of hh, h _ _ W m k (Grow.refl W) rfl⟩) hm (by with_unfolding_all rfl) ha hg (by decide) (by decide) h1
theorem xp_any {p : Pos} {M : Mp (List Bool)} (hc : X.calm = true) (hm : X.mg "any" = none) (ha : XB X Γ e M rBl) (hg : Gl X "any" := by rfl) (h1 : starEach [e] X.env = (false, eval e X.env) :: starEach [] X.env := by rfl) : XP X Γ (.Call (.Name "any" p) [e] [] pos) (fun P => M fun xs => P (xs.any id)) rBl :=
  xp_bltB (cr_any hc) (fun W k v xs ⟨a, vs, e, hh, pr⟩ Q P m h => ⟨a, xs, by rw [e], by rw [← vs_bl pr]; exact sql_of hh, h _ _ W m k (Grow.refl W) rfl⟩) hm (by with_unfolding_all rfl) ha hg (by decide) (by decide) h1
theorem xp_maxL {p : Pos} {M : Mp (List Int)} (hc : X.calm = true) (hm : X.mg "max" = none) (ha : XB X Γ e M rInt) (hg : Gl X "max" := by rfl) (h1 : starEach [e] X.env = (false, eval e X.env) :: starEach [] X.env := by rfl) : XP X Γ (.Call (.Name "max" p) [e] [] pos) (fun P => M fun xs => 0 < xs.length ∧ ∀ m, m ∈ xs → (∀ y, y ∈ xs → y ≤ m) → P m) rInt :=
  xp_bltB (G := fun xs P => 0 < xs.length ∧ ∀ m, m ∈ xs → (∀ y, y ∈ xs → y ≤ m) → P m) (cr_max hc) (fun W k v xs ⟨a, vs, e, hh, pr⟩ Q P m h => ⟨a, xs, by rw [e], by rw [← vs_int pr]; exact sql_of hh, m.1, fun z h1 h2 => h _ _ W (m.2 z h1 h2) k (Grow.refl W) rfl⟩) hm (by with_unfolding_all rfl) ha hg (by decide) (by decide) h1
theorem xp_minL {p : Pos} {M : Mp (List Int)} (hc : X.calm = true) (hm : X.mg "min" = none) (ha : XB X Γ e M rInt) (hg : Gl X "min" := by rfl) (h1 : starEach [e] X.env = (false, eval e X.env) :: starEach [] X.env := by rfl) : XP X Γ (.Call (.Name "min" p) [e] [] pos) (fun P => M fun xs => 0 < xs.length ∧ ∀ m, m ∈ xs → (∀ y, y ∈ xs → m ≤ y) → P m) rInt :=
  xp_bltB (G := fun xs P => 0 < xs.length ∧ ∀ m, m ∈ xs → (∀ y, y ∈ xs → m ≤ y) → P m) (cr_min hc) (fun W k v xs ⟨a, vs, e, hh, pr⟩ Q P m h => ⟨a, xs, by rw [e], by rw [← vs_int pr]; exact sql_of hh, m.1, fun z h1 h2 => h _ _ W (m.2 z h1 h2) k (Grow.refl W) rfl⟩) hm (by with_unfolding_all rfl) ha hg (by decide) (by decide) h1
/-! join -/
theorem xp_join {p2 : Pos} {M : Mp Str} {N : Mp (List Str)} (ho : XP X Γ o M rStr) (hb : XB X Γ e N rStr) (hs : starEach [e] X.env = [(false, eval e X.env)] := by rfl) (hbase : attributeBase o "join" X.env (eval o X.env) = eval o X.env := by rfl) (hline : (p2.endLine == pos.line) = true := by rfl) :
    XP X Γ (.Call (.Attribute o "join" p2) [e] [] pos) (fun P => M fun s => N fun ys => (ys.map (·.length)).sum + ys.length * s.length ≤ 16777216 ∧ P (Txt.join s ys)) rStr := by
  obtain ⟨t1, p1, q1⟩ := ho
  obtain ⟨t2, p2, q2⟩ := hb
  refine ⟨_, pe_join p1 p2 hs hbase hline, fun σ W k g Q P m h => ?_⟩
  refine q1 σ W k g _ _ m fun s v W1 m1 k1 s1 g1 r1 => ?_
  refine ⟨⟨s, r1⟩, ?_⟩
  refine q2 σ W1 k1 g1 _ _ m1 fun ys u W2 ⟨m2, m3⟩ k2 s2 g2 hB => ?_
  obtain ⟨a, vs, rfl, hh, pr⟩ := hB W2 k2 (Step.refl W2) g2
  exact ⟨s, a, ys, r1, rfl, .inl (by rw [← vs_str pr]; exact sql_of hh), m2, h _ _ W2 m3 k2 (s1.trans s2) g2 rfl⟩
/-! isinstance of a built-in kind -/
def TyN (r : RT α) (n : String) : Prop := ∀ (K : PySem.W.Frag) H v x, r.ok H v x → TyOf K H v (.type n)
theorem tn_int : TyN rInt "int" := fun K H v x e => by
  have e : v = .int x := e
  subst e; exact .int x
theorem tn_bl : TyN rBl "bool" := fun K H v x e => by
  have e : v = .bl x := e
  subst e; exact .bl x
theorem tn_str : TyN rStr "str" := fun K H v x e => by
  have e : v = .str x := e
  subst e; exact .str x
theorem tn_non : TyN rNon "NoneType" := fun K H v x e => by
  have e : v = .non := e
  subst e; exact .non
theorem tn_lst {r : RT α} : TyN (rL r) "list" := fun K H v x ⟨a, vs, e, hh, _⟩ => by subst e; exact .lst hh
theorem tn_tup {r : RT α} : TyN (rT r) "tuple" := fun K H v x ⟨a, vs, e, hh, _⟩ => by subst e; exact .tup hh
theorem xp_isi {T : Str} {n : String} {N : String} {p pn : Pos} {M : Mp α} {r : RT α} {bb : Bool} (hm : X.mg "isinstance" = none) (hmT : X.mg T = none) (hn : TyN r n) (he : XP X Γ e M r) (hk : kitB n N = some bb) (hT : bootBuiltins T = some (.type N)) (hg : Gl X "isinstance" := by rfl) (hgT : Gl X T := by rfl) (hd : (T == ("__debug__" : Str)) = false := by decide) (hnm : T ≠ "__name__" := by decide)
    (h1 : starEach [e, .Name T pn] X.env = (false, eval e X.env) :: starEach [.Name T pn] X.env := by rfl) (h2 : starEach [.Name T pn] X.env = (false, eval (.Name T pn) X.env) :: starEach [] X.env := by rfl) (hpl : (backTo pos (starEach [.Name T pn] X.env)).any (·.1) = false := by rfl) :
    XP X Γ (.Call (.Name "isinstance" p) [e, .Name T pn] [] pos) (fun P => M fun _ => P bb) rBl := by
  obtain ⟨t, p, q⟩ := he
  refine ⟨_, pe_callB call_isi hg hm (by with_unfolding_all rfl) (pa_cons p (pa_cons (pe_bltn (v := .ty N) hgT hmT hT rfl hnm hd) pa_nil h2) h1) (by decide) (by decide) h1 hpl, fun σ W k g Q P m h => ?_⟩
  refine q σ W k g _ _ m fun x v W1 m1 k1 s1 g1 r1 => ?_
  exact ⟨v, _, .type n, .type N, bb, rfl, .ty N, .base (hn X.K W1.H v x (r.mono k1.ex r1)), kit_ty hk, h bb _ W1 m1 k1 s1 g1 rfl⟩
/-! a, b = x, y -/
theorem sat_own2 {σ : St} {W W1 : Wd} {i : Nat} {r : RT α} {xs : List α} {u : Addr} {vs : List V} (k : W.Ok) (k1 : W1.Ok) (s1 : Step W W1) (g1 : Sat Γ σ W1) (n : W.H u = none) (nc : W1.Hc u = none) (no : W1.O u = none) (hh : W1.H u = some (.lst vs)) (pr : Paired (r.ok W1.Hc) vs xs) :
    ∃ W2, W2.H = W1.H ∧ W2.Hc = W1.Hc ∧ (∀ b, b ≠ u → W2.O b = W1.O b) ∧ W2.Ok ∧ Step W W2 ∧ Sat (Γ.set i (.own r xs)) (σ.set i (some (.ref u))) W2 := by
  have h0 := base_free k s1 n
  refine ⟨⟨W1.Hc, W1.H, fun b => if b = u then some i else W1.O b, W1.B⟩, rfl, rfl, fun b z => if_neg z, ⟨k1.ex, fun b j q => ?_, k1.basTo (fun _ q => q) (fun _ _ _ _ q => q) fun b e q => by
    have q : (if b = u then some i else W1.O b) = none := q
    by_cases z : b = u
    · rw [if_pos z] at q; cases q
    · rw [if_neg z] at q; exact q⟩, ⟨fun b o a c => s1.keep b o a c, s1.dom, s1.hc, fun b a c => ⟨(s1.old b a c).1, ?_⟩, s1.B⟩, (SatL.set g1 (fun k o' nk e z => ?_) ⟨u, vs, rfl, h0, ?_, hh, pr⟩)⟩
  · have q : (if b = u then some i else W1.O b) = some j := q
    by_cases z : b = u
    · rw [z]; exact ⟨nc, ne_none_of hh⟩
    · rw [if_neg z] at q; exact k1.own b j q
  · show (if b = u then some i else W1.O b) = none
    rw [if_neg (fun z => a (by rw [z]; exact n))]; exact (s1.old b a c).2
  · refine z.up ⟨fun _ _ e => e, fun b j q => ⟨?_, rfl⟩, rfl, fun b e q => by
      show (if b = u then some i else W1.O b) = none
      rw [if_neg fun w => e (by rw [w]; exact h0)]; exact q⟩
    show (if b = u then some i else W1.O b) = some j
    rw [if_neg (fun z => by rw [z, no] at q; cases q)]; exact q
  · show (if u = u then some i else W1.O u) = some (0 + i)
    rw [if_pos rfl, Nat.zero_add]
section par
variable {Γb : B → List SP} {RR : R → V → Wd → Prop} {i j : Nat} {x y : Str} {px py pt pt2 : Pos} {kt k2 : Nat} {ra : RT α} {rb : RT β}
theorem xt_parPP (i j : Nat) {k2 : Nat} {Ma : Mp α} {Mb : Mp β} (ha : XP X Γ a Ma ra) (hb : XP X Γ b Mb rb) (hc : X.calm = true) (hnd : X.N.Nodup) (hi : X.N[i]? = some x := by rfl) (hj : X.N[j]? = some y := by rfl) (hij : i ≠ j := by decide) (hx : X.env.scope.names.lookup x = some .local := by rfl) (hy : X.env.scope.names.lookup y = some .local := by rfl)
    (hw : swappedStores [.Tuple [.Name x px, .Name y py] kt pt] (.Tuple [a, b] k2 pt2) X.env = pure (some [x, y]) := by rfl) (hs : swapsWithSole [.Tuple [.Name x px, .Name y py] kt pt] (.Tuple [a, b] k2 pt2) pos.line X.env = pure false := by rfl) (h1 : starEach [a, b] X.env = (false, eval a X.env) :: starEach [b] X.env := by rfl) (h2 : starEach [b] X.env = (false, eval b X.env) :: starEach [] X.env := by rfl) :
    XSt X Γ (.Assign [.Tuple [.Name x px, .Name y py] kt pt] (.Tuple [a, b] k2 pt2) pos) (fun κ : Kn (α × β) B R => Ma fun u => Mb fun v => κ.nx (u, v)) (fun z => (Γ.set i (.cl ra z.1)).set j (.cl rb z.2)) Γb RR := by
  obtain ⟨t1, p1, q1⟩ := ha
  obtain ⟨t2, p2, q2⟩ := hb
  refine ⟨_, ps_par hc hnd hi hj hij hx hy (pa_cons p1 (pa_cons p2 pa_nil h2) h1) hw hs, fun σ W k g κ D m hh _ _ _ => ?_⟩
  refine q1 σ W k g _ _ m fun u v W1 m1 k1 s1 g1 r1 => ?_
  refine q2 σ W1 k1 g1 _ _ m1 fun u2 w W2 m2 k2 s2 g2 r2 => ?_
  exact ⟨v, w, rfl, hh (u, u2) _ W2 m2 k2 (s1.trans s2) ((g2.put (spc (ra.mono s2.hc r1))).put (spc r2))⟩
theorem xt_parPN (i j : Nat) {k2 : Nat} {Ma : Mp α} {Mb : Mp (List β)} (ha : XP X Γ a Ma ra) (hb : XN X Γ b Mb rb) (hc : X.calm = true) (hnd : X.N.Nodup) (hi : X.N[i]? = some x := by rfl) (hj : X.N[j]? = some y := by rfl) (hij : i ≠ j := by decide) (hx : X.env.scope.names.lookup x = some .local := by rfl) (hy : X.env.scope.names.lookup y = some .local := by rfl)
    (hw : swappedStores [.Tuple [.Name x px, .Name y py] kt pt] (.Tuple [a, b] k2 pt2) X.env = pure (some [x, y]) := by rfl) (hs : swapsWithSole [.Tuple [.Name x px, .Name y py] kt pt] (.Tuple [a, b] k2 pt2) pos.line X.env = pure false := by rfl) (h1 : starEach [a, b] X.env = (false, eval a X.env) :: starEach [b] X.env := by rfl) (h2 : starEach [b] X.env = (false, eval b X.env) :: starEach [] X.env := by rfl) :
    XSt X Γ (.Assign [.Tuple [.Name x px, .Name y py] kt pt] (.Tuple [a, b] k2 pt2) pos) (fun κ : Kn (α × List β) B R => Ma fun u => Mb fun v => κ.nx (u, v)) (fun z => (Γ.set i (.cl ra z.1)).set j (.own rb z.2)) Γb RR := by

  obtain ⟨t1, p1, q1⟩ := ha
  obtain ⟨t2, p2, q2⟩ := hb
  refine ⟨_, ps_par hc hnd hi hj hij hx hy (pa_cons p1 (pa_cons p2 pa_nil h2) h1) hw hs, fun σ W k g κ D m hh _ _ _ => ?_⟩
  refine q1 σ W k g _ _ m fun u v W1 m1 k1 s1 g1 r1 => ?_
  refine q2 σ W1 k1 g1 _ _ m1 fun u2 w ws W2 m2 k2 s2 g2 n2 nc2 no2 hw2 pr2 => ?_
  have g3 := g2.put (i := i) (spc (ra.mono s2.hc r1))
  obtain ⟨W4, e4, k4, s4, g4⟩ := sat_own (i := j) k k2 (s1.trans s2) g3 (fresh_of s1 n2) nc2 no2 hw2 pr2
  refine ⟨v, .ref w, rfl, ?_⟩
  rw [← e4]
  exact hh (u, u2) _ W4 m2 k4 s4 g4
theorem xt_parNP (i j : Nat) {k2 : Nat} {Ma : Mp (List α)} {Mb : Mp β} (ha : XN X Γ a Ma ra) (hb : XP X Γ b Mb rb) (hc : X.calm = true) (hnd : X.N.Nodup) (hi : X.N[i]? = some x := by rfl) (hj : X.N[j]? = some y := by rfl) (hij : i ≠ j := by decide) (hx : X.env.scope.names.lookup x = some .local := by rfl) (hy : X.env.scope.names.lookup y = some .local := by rfl)
    (hw : swappedStores [.Tuple [.Name x px, .Name y py] kt pt] (.Tuple [a, b] k2 pt2) X.env = pure (some [x, y]) := by rfl) (hs : swapsWithSole [.Tuple [.Name x px, .Name y py] kt pt] (.Tuple [a, b] k2 pt2) pos.line X.env = pure false := by rfl) (h1 : starEach [a, b] X.env = (false, eval a X.env) :: starEach [b] X.env := by rfl) (h2 : starEach [b] X.env = (false, eval b X.env) :: starEach [] X.env := by rfl) :
    XSt X Γ (.Assign [.Tuple [.Name x px, .Name y py] kt pt] (.Tuple [a, b] k2 pt2) pos) (fun κ : Kn (List α × β) B R => Ma fun u => Mb fun v => κ.nx (u, v)) (fun z => (Γ.set i (.own ra z.1)).set j (.cl rb z.2)) Γb RR := by

  obtain ⟨t1, p1, q1⟩ := ha
  obtain ⟨t2, p2, q2⟩ := hb
  refine ⟨_, ps_par hc hnd hi hj hij hx hy (pa_cons p1 (pa_cons p2 pa_nil h2) h1) hw hs, fun σ W k g κ D m hh _ _ _ => ?_⟩
  refine q1 σ W k g _ _ m fun u v vs W1 m1 k1 s1 g1 n1 nc1 no1 hv pr1 => ?_
  refine q2 σ W1 k1 g1 _ _ m1 fun u2 w W2 m2 k2 s2 g2 r2 => ?_
  have hv2 := s2.keep v _ hv no1
  obtain ⟨oc, oo⟩ := s2.old v (ne_none_of hv) no1
  obtain ⟨W3, e3, c3, o3, k3, s3, g3⟩ := sat_own2 (i := i) k k2 (s1.trans s2) g2 n1 (oc.trans nc1) oo hv2 (pmap pr1 fun _ _ => ra.mono s2.hc)
  refine ⟨.ref v, w, rfl, ?_⟩
  rw [← e3]
  exact hh (u, u2) _ W3 m2 k3 s3 (g3.put (spc (by rw [c3]; exact r2)))
theorem xt_parNN (i j : Nat) {k2 : Nat} {Ma : Mp (List α)} {Mb : Mp (List β)} (ha : XN X Γ a Ma ra) (hb : XN X Γ b Mb rb) (hc : X.calm = true) (hnd : X.N.Nodup) (hi : X.N[i]? = some x := by rfl) (hj : X.N[j]? = some y := by rfl) (hij : i ≠ j := by decide) (hx : X.env.scope.names.lookup x = some .local := by rfl) (hy : X.env.scope.names.lookup y = some .local := by rfl)
    (hw : swappedStores [.Tuple [.Name x px, .Name y py] kt pt] (.Tuple [a, b] k2 pt2) X.env = pure (some [x, y]) := by rfl) (hs : swapsWithSole [.Tuple [.Name x px, .Name y py] kt pt] (.Tuple [a, b] k2 pt2) pos.line X.env = pure false := by rfl) (h1 : starEach [a, b] X.env = (false, eval a X.env) :: starEach [b] X.env := by rfl) (h2 : starEach [b] X.env = (false, eval b X.env) :: starEach [] X.env := by rfl) :
    XSt X Γ (.Assign [.Tuple [.Name x px, .Name y py] kt pt] (.Tuple [a, b] k2 pt2) pos) (fun κ : Kn (List α × List β) B R => Ma fun u => Mb fun v => κ.nx (u, v)) (fun z => (Γ.set i (.own ra z.1)).set j (.own rb z.2)) Γb RR := by

  obtain ⟨t1, p1, q1⟩ := ha
  obtain ⟨t2, p2, q2⟩ := hb
  refine ⟨_, ps_par hc hnd hi hj hij hx hy (pa_cons p1 (pa_cons p2 pa_nil h2) h1) hw hs, fun σ W k g κ D m hh _ _ _ => ?_⟩
  refine q1 σ W k g _ _ m fun u v vs W1 m1 k1 s1 g1 n1 nc1 no1 hv pr1 => ?_
  refine q2 σ W1 k1 g1 _ _ m1 fun u2 w ws W2 m2 k2 s2 g2 n2 nc2 no2 hw2 pr2 => ?_
  have hv2 := s2.keep v _ hv no1
  obtain ⟨oc, oo⟩ := s2.old v (ne_none_of hv) no1
  obtain ⟨W3, e3, c3, o3, k3, s3, g3⟩ := sat_own2 (i := i) k k2 (s1.trans s2) g2 n1 (oc.trans nc1) oo hv2 (pmap pr1 fun _ _ => ra.mono s2.hc)
  have nw : w ≠ v := fun z => by rw [z, hv] at n2; cases n2
  obtain ⟨W4, e4, k4, s4, g4⟩ := sat_own (i := j) k k3 s3 g3 (fresh_of s1 n2) (by rw [c3]; exact nc2) ((o3 w nw).trans no2) (by rw [e3]; exact hw2) (by rw [c3]; exact pr2)
  refine ⟨.ref v, .ref w, rfl, ?_⟩
  rw [← e3, ← e4]
  exact hh (u, u2) _ W4 m2 k4 s4 g4
end par

/-! ### one's own lists changed in place -/
section own
variable {Γb : B → List SP} {RR : R → V → Wd → Prop} {x : Str} {p1 p2 pc : Pos} {r : RT α} {xs : List α}
/-- xs.reverse() -/
theorem xt_rev (i : Nat) (h : look Γ i = .own r xs) (hN : X.N[i]? = some x := by rfl) (hv : Vis X.env.scope x := by first | exact Or.inl rfl | exact Or.inr (Or.inl rfl) | exact Or.inr (Or.inr rfl)) (hd : (x == ("__debug__" : Str)) = false := by decide) (hcd : (x == ("__classdict__" : Str)) = false := by decide)
    (hpe : PS X (.Expr (.Call (.Attribute (.Name x p1) "reverse" p2) [] [] pc) pos) (tDrop (tBM0 X.K "list" rReverse (tVar i))) := by exact ps_expr (pe_bm0 PySem.F.plainAttrs_list PySem.F.slot_list_reverse PySem.F.type_list_reverse mt_reverse (pe_var hN hv hd hcd))) :
    XSt X Γ (.Expr (.Call (.Attribute (.Name x p1) "reverse" p2) [] [] pc) pos) (fun κ : Kn (List α) B R => κ.nx xs.reverse) (fun ys => Γ.set i (.own r ys)) Γb RR := by
  refine ⟨_, hpe, fun σ W k g κ D m h1 _ _ _ => ?_⟩
  obtain ⟨o, eo, u, vs, rfl, n, ho, hh, pr⟩ := g.look h (by simp)
  have prr : ∀ {vs : List V} {xs : List α}, Paired (r.ok W.Hc) vs xs → Paired (r.ok W.Hc) vs.reverse xs.reverse := by
    intro vs xs p
    induction p with
    | nil => exact .nil
    | cons h t ih => rw [List.reverse_cons, List.reverse_cons]; exact ih.snoc h
  exact ⟨.ref u, eo, .inl ⟨rfl, vs, sql_of hh⟩, u, vs, rfl, rfl, hh, h1 _ σ (W.mut u (.lst vs.reverse)) m (k.mut ho) (step_mut ho) (g.mut ho eo ⟨u, _, rfl, n, ho, upd_same, prr pr⟩)⟩
/-- xs[e] = v -/
theorem xt_setI (i : Nat) {M : Mp α} {N : Mp Int} (h : look Γ i = .own r xs) (hv : XP X Γ b M r) (he : XP X Γ e N rInt) (hN : X.N[i]? = some x := by rfl) (hvi : Vis X.env.scope x := by first | exact Or.inl rfl | exact Or.inr (Or.inl rfl) | exact Or.inr (Or.inr rfl)) (hd : (x == ("__debug__" : Str)) = false := by decide) (hcd : (x == ("__classdict__" : Str)) = false := by decide)
    (hs : swapsWithSole [.Subscript (.Name x p1) e p2] b pos.line X.env = pure false := by rfl) (hw : swappedStores [.Subscript (.Name x p1) e p2] b X.env = pure none := by rfl) (h1 : (assignEach [.Subscript (.Name x p1) e p2] X.env).map (·.2) = [assign (.Subscript (.Name x p1) e p2) X.env] := by rfl)
    (ha : ∀ v, assign (.Subscript (.Name x p1) e p2) X.env v = (do
      let ov ← holding [v] (eval (.Name x p1) X.env)
      let iv ← holding [v, ov] (eval e X.env)
      standAt p2
      holding [v, ov, iv] (setItem ov iv v)
      release [v, ov, iv] []) := by intro _; rfl) :
    XSt X Γ (.Assign [.Subscript (.Name x p1) e p2] b pos) (fun κ : Kn (List α) B R => M fun y => N fun k => ∃ j, ixN xs.length k = some j ∧ κ.nx (xs.set j y)) (fun ys => Γ.set i (.own r ys)) Γb RR := by
  obtain ⟨t1, q1, w1⟩ := hv
  obtain ⟨t2, q2, w2⟩ := he
  refine ⟨_, ps_asg q1 (pg_sub (pe_var hN hvi hd hcd) q2 set_list ha) hs hw h1, fun σ W k g κ D m hn _ _ _ => ?_⟩
  refine w1 σ W k g _ _ m fun y v W1 m1 k1 s1 g1 r1 => ?_
  obtain ⟨o, eo, u, vs, rfl, n, ho, hh, pr⟩ := g1.look h (by simp)
  refine ⟨.ref u, eo, w2 σ W1 k1 g1 _ _ m1 fun z w W2 ⟨j, hj, m2⟩ k2 s2 g2 r2 => ?_⟩
  obtain ⟨o', eo', u', vs', rfl, n', ho', hh', pr'⟩ := g2.look h (by simp)
  rw [eo] at eo'
  cases eo'
  refine ⟨u, vs', z, j, rfl, r2, hh', by rw [pr'.length]; exact hj, ?_⟩
  have prs : ∀ {vs : List V} {xs : List α} {j : Nat}, Paired (r.ok W2.Hc) vs xs → Paired (r.ok W2.Hc) (vs.set j v) (xs.set j y) := by
    intro vs xs j p
    induction p generalizing j with
    | nil => exact .nil
    | cons h t ih => cases j with
      | zero => exact .cons (r.mono s2.hc r1) t
      | succ j => exact .cons h ih
  exact hn _ σ (W2.mut u (.lst (vs'.set j v))) m2 (k2.mut ho') ((s1.trans s2).trans (step_mut ho')) (g2.mut ho' eo ⟨u, _, rfl, n', ho', upd_same, prs pr'⟩)
/-- xs.extend(e) -/
theorem xt_ext (i : Nat) {M : Mp (List α)} (h : look Γ i = .own r xs) (he : XB X Γ e M r) (hne : ∀ (σ : St) (W : Wd), W.Ok → Sat Γ σ W → True) (hN : X.N[i]? = some x := by rfl) (hv : Vis X.env.scope x := by first | exact Or.inl rfl | exact Or.inr (Or.inl rfl) | exact Or.inr (Or.inr rfl)) (hd : (x == ("__debug__" : Str)) = false := by decide) (hcd : (x == ("__classdict__" : Str)) = false := by decide)
    (hpe : ∀ te, PE X e te → PS X (.Expr (.Call (.Attribute (.Name x p1) "extend" p2) [e] [] pc) pos) (tDrop (tBM X.K "list" rExtend (tVar i) (tCons te tNil))) := by exact fun te h => ps_expr (pe_bm PySem.F.plainAttrs_list PySem.F.slot_list_extend PySem.F.type_list_extend mt_extend (pe_var hN hv hd hcd) (pa_cons h pa_nil))) :
    XSt X Γ (.Expr (.Call (.Attribute (.Name x p1) "extend" p2) [e] [] pc) pos) (fun κ : Kn (List α) B R => M fun ys => xs.length + ys.length ≤ sizeLine ∧ κ.nx (xs ++ ys)) (fun ys => Γ.set i (.own r ys)) Γb RR := by
  obtain ⟨t, p, q⟩ := he
  refine ⟨_, hpe t p, fun σ W k g κ D m h1 _ _ _ => ?_⟩
  obtain ⟨o, eo, u, vs, rfl, n, ho, hh, pr⟩ := g.look h (by simp)
  refine ⟨.ref u, eo, .inl ⟨rfl, vs, sql_of hh⟩, ?_⟩
  refine q σ W k g _ _ m fun ys v W1 ⟨m1, m2⟩ k1 s1 g1 hB => ?_
  obtain ⟨o', eo', u', vs', rfl, n', ho', hh', pr'⟩ := g1.look h (by simp)
  rw [eo] at eo'
  cases eo'
  obtain ⟨b2, ws, rfl, hb, prb⟩ := hB W1 k1 (Step.refl W1) g1
  refine ⟨u, b2, vs', ws, rfl, rfl, hh', hb, by rw [pr'.length, prb.length]; exact m1, ?_⟩
  exact h1 (xs ++ ys) σ (W1.mut u (.lst (vs' ++ ws))) m2 (k1.mut ho') (s1.trans (step_mut ho')) (g1.mut ho' eo ⟨u, _, rfl, n', ho', upd_same, paired_app pr' prb⟩)
end own
/-! ### what is done to a new list that nobody keeps -/
section drop
variable {Γb : B → List SP} {RR : R → V → Wd → Prop} {p2 pc : Pos} {r : RT α} {q : RT β}
theorem xt_appN {M : Mp (List α)} {N : Mp β} (ho : XN X Γ o M r) (he : XP X Γ e N q)
    (hpe : ∀ t te, PE X o t → PE X e te → PS X (.Expr (.Call (.Attribute o "append" p2) [e] [] pc) pos) (tDrop (tBM X.K "list" rAppend t (tCons te tNil))) := by exact fun t te h g => ps_expr (pe_bm PySem.F.plainAttrs_list PySem.F.slot_list_append PySem.F.type_list_append mt_append h (pa_cons g pa_nil))) :
    XSt X Γ (.Expr (.Call (.Attribute o "append" p2) [e] [] pc) pos) (fun κ : Kn Unit B R => M fun xs => N fun _ => xs.length < sizeLine ∧ κ.nx ()) (fun _ => Γ) Γb RR := by
  obtain ⟨t1, q1, w1⟩ := ho
  obtain ⟨t2, q2, w2⟩ := he
  refine ⟨_, hpe t1 t2 q1 q2, fun σ W k g κ D m hn _ _ _ => ?_⟩
  refine w1 σ W k g _ _ m fun xs u vs W1 m1 k1 s1 g1 n nc no hh pr => ?_
  refine ⟨.inl ⟨rfl, vs, sql_of hh⟩, w2 σ W1 k1 g1 _ _ m1 fun y v W2 ⟨m2, m3⟩ k2 s2 g2 r2 => ?_⟩
  have h2 := s2.keep u _ hh no
  obtain ⟨oc, oo⟩ := s2.old u (ne_none_of hh) no
  exact ⟨u, vs, v, rfl, rfl, h2, by rw [pr.length]; exact m2, hn () σ (W2.mut u (.lst (vs ++ [v]))) m3 (k2.mutB (oc.trans nc) fun q => absurd (base_free k (s1.trans s2) n) q) (step_mutF (s1.trans s2) n) (g2.up (up_mutF oo))⟩
theorem xt_clrN {M : Mp (List α)} (ho : XN X Γ o M r)
    (hpe : ∀ t, PE X o t → PS X (.Expr (.Call (.Attribute o "clear" p2) [] [] pc) pos) (tDrop (tBM0 X.K "list" rClear t)) := by exact fun t h => ps_expr (pe_bm0 PySem.F.plainAttrs_list PySem.F.slot_list_clear PySem.F.type_list_clear mt_clear h)) :
    XSt X Γ (.Expr (.Call (.Attribute o "clear" p2) [] [] pc) pos) (fun κ : Kn Unit B R => M fun _ => κ.nx ()) (fun _ => Γ) Γb RR := by
  obtain ⟨t1, q1, w1⟩ := ho
  refine ⟨_, hpe t1 q1, fun σ W k g κ D m hn _ _ _ => ?_⟩
  refine w1 σ W k g _ _ m fun xs u vs W1 m1 k1 s1 g1 n nc no hh pr => ?_
  exact ⟨.inl ⟨rfl, vs, sql_of hh⟩, u, vs, rfl, rfl, hh, hn () σ (W1.mut u (.lst [])) m1 (k1.mutB nc fun q => absurd (base_free k s1 n) q) (step_mutF s1 n) (g1.up (up_mutF no))⟩
end drop
end
end TM
set_option Elab.async false
set_option linter.all false
set_option maxRecDepth 100000
namespace TM
open PySem PySem.Spec PyProof.Rows L2
section
variable {X : Cx} {Γ Δ : List SP} {α β γ δ τ S S' B R : Type} {e a b c tg iter elt o : Expr} {es : List Expr} {pos : Pos} {st : Stmt} {sts rest body : List Stmt}
/-! ### comprehensions whose part changes one's own lists -/
def lcS : List α → (α → S → (β → S → Prop) → Prop) → S → List β → (List β → S → Prop) → Prop
  | [], _, s, acc, k => k acc s
  | x :: xs, f, s, acc, k => f x s fun y s' => lcS xs f s' (acc ++ [y]) k
def XLS (X : Cx) (Γ : List SP) (elt tg iter : Expr) (scope : Scope) (own : List (Str × Nat)) (g : TG) (M : (List β → S → Prop) → Prop) (r : RT β) (Γn : S → List SP) : Prop :=
  ∃ wi te, PI X tg iter wi ∧ (∀ (s : Shared) (H : Hp) (C : Addr) (cl : List (Str × Addr)) (fp : List Addr), PE (X.blk s H scope (compEnvC scope cl C X.env) fp) elt te) ∧
    ∀ (σ : St) (W : Wd), W.Ok → Sat Γ σ W → ∀ (Q : VK) (P : List β → S → Prop), M P →
      (∀ xs s p vs W', P xs s → W'.Ok → Step W W' → Sat (Γn s) σ W' → W.H p = none → W'.Hc p = none → W'.O p = none → W'.H p = some (.lst vs) → Paired (r.ok W'.Hc) vs xs → Q (.ref p) W'.H) → tLc wi g (fun _ H Q => Q true H) te (own.map (·.2)) σ W.H Q
/-- [elt for x in iter], x at slot i -/
theorem xls_1 (i : Nat) {x : Str} {scope : Scope} {Ms : Mp (List α)} {ra : RT α} {r : RT β} {Γs : S → List SP} {Me : α → S → (β → S → Prop) → Prop} (s0 : S) (hi : XI X Γ tg iter Ms ra) (h0 : leL Γ (Γs s0))
    (hu : ∀ s, look (Γs s) i = .unk)
    (he : ∀ y (s1 : S) (s : Shared) (H : Hp) (C : Addr) (cl : List (Str × Addr)) (fp : List Addr), XQ (X.blk s H scope (compEnvC scope cl C X.env) fp) ((Γs s1).set i (.cl ra y)) elt (Me y s1) r (fun s2 => (Γs s2).set i (.cl ra y))) :
    XLS X Γ elt tg iter scope [(x, i)] (gName i) (fun P => Ms fun xs => xs.length ≤ sizeLine ∧ lcS xs Me s0 [] P) r Γs := by
  obtain ⟨wi, p, q⟩ := hi
  refine ⟨wi, fun σ H Q => ∃ x s1, ∀ (s : Shared) (H' : Hp) (C : Addr) (cl : List (Str × Addr)) (fp : List Addr), Classical.choose (he x s1 s H' C cl fp) σ H Q, p, fun s H C cl fp => ⟨fun pins s' σ H' Q I ⟨x, s1, h⟩ => (Classical.choose_spec (he x s1 s H C cl fp)).1.run pins s' σ H' Q I (h s H C cl fp)⟩, ?_⟩
  intro σ W k gg Q P m h
  refine q σ W k gg _ _ m fun xs J W1 ⟨mz, m1⟩ k1 s1 g1 wk => ?_
  intro D nD
  have n0 : W.H D = none := fresh_of s1 nD
  have setu : ∀ (Γ : List SP) (i : Nat), look Γ i = .unk → Γ.set i .unk = Γ := by
    intro Γ
    induction Γ with
    | nil => intro i h; rfl
    | cons p ps ih => intro i h; cases i with
      | zero => have h : p = .unk := h; rw [h]; rfl
      | succ i => show p :: ps.set i .unk = _; rw [ih i h]
  have wip : ∀ {W : Wd} {s : S} {σ : St}, Sat (Γs s) σ W → Sat (Γs s) (σ.set i none) W := fun {W s σ} g => by
    have := g.put (i := i) (p := .unk) (o := none) trivial
    rw [setu _ _ (hu s)] at this
    exact this
  have unw : ∀ {W : Wd} {s : S}, Sat (Γs s) (σ.set i none) W → Sat (Γs s) σ W := fun {W s} g => by
    have hlen : (σ.set i none).length = (Γs s).length := SatL.len g
    rw [List.length_set] at hlen
    refine sat_of hlen fun k o e => ?_
    by_cases z : k = i
    · subst z; rw [hu s]; trivial
    · exact sat_at g (by rw [List.getElem?_set_ne (fun w => z w.symm)]; exact e)
  refine ⟨fun i' m H' => m = xs.length - i' ∧ i' ≤ xs.length ∧ ∃ acc ws sc W', W'.H = H' ∧ W'.Ok ∧ Step W1 W' ∧ Sat (Γs sc) (σ.set i none) W' ∧ W'.H D = some (.lst ws) ∧ W'.Hc D = none ∧ W'.O D = none ∧ Paired (r.ok W'.Hc) ws acc ∧ acc.length ≤ i' ∧
      lcS (xs.drop i') Me sc acc P,
    ⟨xs.length, by simp, Nat.zero_le _, [], [], s0, W1.lay D (.lst []), rfl, k1.lay nD, (grow_lay nD).step, wip ((g1.le h0).up ((grow_lay nD).up k1)), upd_same, k1.none_of nD, k1.free nD, .nil, Nat.le_refl _, m1⟩, ?_⟩
  rintro i' n H' ⟨rfl, hi, acc, ws, sc, W', rfl, k', s', g', hD, hc, hO, pr, hl, f'⟩
  obtain ⟨wgo, wy, wst⟩ := wk W' k' s'
  by_cases hlt : i' < xs.length
  · refine .inr ⟨wgo i' hlt, fun H2 => i' + 1 ≤ xs.length ∧ ∃ acc ws sc W', W'.H = H2 ∧ W'.Ok ∧ Step W1 W' ∧ Sat (Γs sc) (σ.set i none) W' ∧ W'.H D = some (.lst ws) ∧ W'.Hc D = none ∧ W'.O D = none ∧ Paired (r.ok W'.Hc) ws acc ∧ acc.length ≤ i' + 1 ∧
        lcS (xs.drop (i' + 1)) Me sc acc P, fun H2 h => ⟨xs.length - (i' + 1), by omega, rfl, h.1, h.2⟩, fun v H2 y => ?_⟩
    obtain ⟨W2, x, ex, rfl, k2, gr2, rr⟩ := wy i' v H2 hlt y
    have hd : xs.drop i' = x :: xs.drop (i' + 1) := by
      rw [List.drop_eq_getElem_cons hlt]
      rw [List.getElem?_eq_getElem hlt] at ex
      cases ex; rfl
    rw [hd] at f'
    have s2 := s'.trans gr2.step
    have dne : W'.H D ≠ none := ne_none_of hD
    have hD2 := gr2.keep _ _ hD
    have hc2 : W2.Hc D = none := (gr2.old D dne).trans hc
    have hO2 : W2.O D = none := by rw [gr2.O]; exact hO
    refine ⟨(by show List.set (List.set (List.set σ i none) i (some v)) i none = List.set σ i none; rw [List.set_set, List.set_set]), ?_⟩
    refine ⟨x, sc, fun sA HA C cl fp => ?_⟩
    have g3 : Sat ((Γs sc).set i (.cl ra x)) (((σ.set i none)).set i (some v)) W2 := Sat.put (Γ := Γs sc) (g'.up (gr2.up k')) (spc rr)
    refine (Classical.choose_spec (he x sc sA HA C cl fp)).2 _ W2 k2 g3 _ _ f' fun y s3 w W4 m4 k4 s4 g4 r4 => ?_
    have hD4 := s4.keep _ _ hD2 hO2
    obtain ⟨hc4, hO4⟩ := s4.old D (ne_none_of hD2) hO2
    have hc4 := hc4.trans hc2
    have e4 : Ex W'.Hc W4.Hc := fun b o e => s4.hc b o (gr2.hc b o e)
    have g5 : Sat (Γs s3) (σ.set i none) W4 := by
      have := g4.put (i := i) (p := .unk) (o := none) trivial
      rw [List.set_set, List.set_set, List.set_set, setu _ _ (hu s3)] at this
      exact this
    refine ⟨ws, hD4, by rw [pr.length]; omega, hlt, acc ++ [y], ws ++ [w], s3, W4.mut D (.lst (ws ++ [w])), rfl, k4.mutB hc4 (fun q => absurd (base_free k (s1.trans (s2.trans s4)) n0) q), step_mutF (s2.trans s4) nD, g5.up (up_mutF hO4), upd_same, hc4, hO4, (pmap pr fun _ _ => r.mono e4).snoc r4, by rw [List.length_append, List.length_singleton]; omega, m4⟩
  · have e : i' = xs.length := by omega
    subst e
    rw [List.drop_length] at f'
    exact .inl ⟨wst, h acc sc D ws W' f' k' (s1.trans s') (unw g') n0 hc hO hD pr⟩
/-- y = [..], the part changing one's own lists -/
theorem xt_lsC (i : Nat) {y : Str} {py cpos spos : Pos} {scope : Scope} {own : List (Str × Nat)} {g : TG} {M : (List β → S → Prop) → Prop} {r : RT β} {Γn : S → List SP} {Γb : B → List SP} {RR : R → V → Wd → Prop} (h : XLS X Γ elt tg iter scope own g M r Γn) (hcalm : X.calm = true) (hnd : X.N.Nodup) (hok : BlkOk X.N X.env.scope scope own)
    (hg : ∀ (s : Shared) (H : Hp) (C : Addr) (cl : List (Str × Addr)) (fp : List Addr), PG (X.blk s H scope (compEnvC scope cl C X.env) fp) tg g) (hN : X.N[i]? = some y := by rfl) (hyl : X.env.scope.names.lookup y = some .local := by rfl) (hsw : swapsWith (.ListComp elt [⟨tg, iter, [], 0⟩] scope cpos) (some (.Name y py)) spos.line X.env = pure true := by rfl) (hs : ∀ x, foldedSetIterable iter X.env x = pure x := by intro _; rfl) :
    XSt X Γ (.Assign [.Name y py] (.ListComp elt [⟨tg, iter, [], 0⟩] scope cpos) spos) (fun κ : Kn (List β × S) B R => M fun y s => κ.nx (y, s)) (fun z => (Γn z.2).set i (.cl (rL r) z.1)) Γb RR := by
  obtain ⟨wi, te, p, he, q⟩ := h
  refine ⟨_, ps_setLc hcalm hnd hN hyl hsw p hok hg (fun s H C cl fp => pts_nil) he hs, fun σ W k gg κ D m h1 _ _ _ => ?_⟩
  refine q σ W k gg _ _ m fun xs s u vs W1 m1 k1 s1 g1 n nc no hh pr => ?_
  obtain ⟨W2, e2, k2, s2, g2⟩ := sat_cl (i := i) k1 s1 g1 n nc no hh pr
  rw [← e2]
  exact h1 (xs, s) _ W2 m1 k2 s2 g2
end
end TM
set_option Elab.async false
set_option linter.all false
set_option maxRecDepth 100000
namespace TM
open PySem PySem.Spec PyProof.Rows L2
theorem lk_here {k : Str} {v : V} {r : List (Str × V)} : List.lookup k ((k, v) :: r) = some v := by
  have e : (k == k) = true := beq_self_eq_true k
  simp only [List.lookup, e]
theorem lk_past {k g : Str} {v : V} {r : List (Str × V)} (h : (k == g) = false) : List.lookup k ((g, v) :: r) = List.lookup k r := by
  simp only [List.lookup, h]
theorem no_none_int : ∀ H x, ¬ rInt.ok H .non x := fun H x h => by cases (show V.non = .int x from h)
theorem no_none_str : ∀ H x, ¬ rStr.ok H .non x := fun H x h => by cases (show V.non = .str x from h)
theorem no_none_bool : ∀ H x, ¬ rBl.ok H .non x := fun H x h => by cases (show V.non = .bl x from h)
section
variable {X : Cx} {Γ Δ : List SP} {α β γ δ τ S S' B R : Type} {e a b c tg iter elt o : Expr} {es : List Expr} {pos : Pos} {st : Stmt} {sts rest body : List Stmt}
/-- C(..), whose promise is told of the new instance; what is lent is told at a heap Hb of its own -/
def spJ (C : Addr) (RJ : Hp → Hp → List V → τ → Prop) (F : τ → Mp β) (r : RT β) : Sp := fun vs H Q _ => ∃ (p dx : Addr) (ws : List V) (x : τ) (W : Wd) (Hb : Hp) (P : β → Prop), vs = .ref p :: ws ∧ W.H = H ∧ (W.B p = none ∧ W.B dx = none) ∧ W.Ok ∧ (∀ b, W.O b = if b = p then some 0 else if b = dx then some 1000 else none) ∧ dx ≠ p ∧ W.H p = some (.ins C dx []) ∧ W.H dx = some (.own p) ∧
  Ex W.Hc Hb ∧ Ex Hb H ∧ Hb p = none ∧ Hb dx = none ∧ RJ W.Hc Hb ws x ∧ F x P ∧
  ∀ b W', P b → W'.Ok → Step W W' → r.ok W'.Hc (.ref p) b → Q .non W'.H
def MakeJ (P : Program) (w : World) (K : PySem.W.Frag) (mg : Str → Option Value) (base : Heap) (x : Str) (C : Addr) (k : Nat) (ps : List Str) (sp : Sp) : Prop :=
  mg x = some (.ref C) ∧ ∃ f fd, Mk K C f ∧ L2.Binds K fd ps [] ∧ FnOk P w K mg base CX0 k f fd ps sp
theorem makeJ_core {C : Addr} {F : τ → Mp β} {r : RT β} {RJ : Hp → Hp → List V → τ → Prop} {W1 : Wd} {v : List V} {y : τ} {P : β → Prop} {Q : VK} {E : XK} {Hb : Hp} (k1 : W1.Ok) (hb1 : Ex W1.Hc Hb) (hb2 : Ex Hb W1.H) (r1 : RJ W1.Hc Hb v y) (m1 : F y P)
    (h : ∀ b z W', P b → W'.Ok → Grow W1 W' → r.ok W'.Hc (.ref z) b → Q (.ref z) W'.H) (z dx : Addr) (nz : W1.H z = none) (ndx : W1.H dx = none) (ne : dx ≠ z) : spJ C RJ F r (.ref z :: v) (upd (upd W1.H dx (.own z)) z (.ins C dx [])) (fun u H' => u = .non ∧ Q (.ref z) H') E := by
  have hz : upd (upd W1.H dx (.own z)) z (.ins C dx []) z = some (.ins C dx []) := upd_same
  have hdx : upd (upd W1.H dx (.own z)) z (.ins C dx []) dx = some (.own z) := by rw [upd_ne ne, upd_same]
  have oth : ∀ b, b ≠ z → b ≠ dx → upd (upd W1.H dx (.own z)) z (.ins C dx []) b = W1.H b := fun b n1 n2 => by rw [upd_ne n1, upd_ne n2]
  have exx : Ex W1.H (upd (upd W1.H dx (.own z)) z (.ins C dx [])) := fun b o e => by rw [oth b (ne_of_none e nz) (ne_of_none e ndx)]; exact e
  have nb : ∀ a, W1.H a = none → Hb a = none := fun a e => by
    cases q : Hb a with
    | none => rfl
    | some o => rw [hb2 a o q] at e; cases e
  refine ⟨z, dx, v, y, ⟨W1.Hc, _, fun b => if b = z then some 0 else if b = dx then some 1000 else none, W1.H⟩, Hb, P, rfl, rfl, ⟨nz, ndx⟩, ⟨fun b o e => exx b o (k1.ex b o e), fun b j q => ?_, fun b e => ⟨fun q => by
    have q : upd (upd W1.H dx (.own z)) z (.ins C dx []) b = none := q
    rw [oth b (fun w => e (by rw [w]; exact nz)) (fun w => e (by rw [w]; exact ndx))] at q; exact e q, fun _ => oth b (fun w => e (by rw [w]; exact nz)) (fun w => e (by rw [w]; exact ndx))⟩⟩, fun _ => rfl, ne, hz, hdx, hb1, fun b o e => exx b o (hb2 b o e), nb z nz, nb dx ndx, r1, m1, fun b W2 pb k2 s2 r2 => ⟨rfl, ?_⟩⟩
  · have q : (if b = z then some 0 else if b = dx then some 1000 else none) = some j := q
    show W1.Hc b = none ∧ upd (upd W1.H dx (.own z)) z (.ins C dx []) b ≠ none
    by_cases n1 : b = z
    · rw [n1]; exact ⟨k1.none_of nz, by rw [hz]; simp⟩
    · by_cases n2 : b = dx
      · rw [n2]; exact ⟨k1.none_of ndx, by rw [hdx]; simp⟩
      · rw [if_neg n1, if_neg n2] at q; cases q
  · have nO : ∀ b, W1.H b ≠ none → (if b = z then some 0 else if b = dx then some 1000 else (none : Option Nat)) = none := fun b q => by
      rw [if_neg (fun w => q (by rw [w]; exact nz)), if_neg (fun w => q (by rw [w]; exact ndx))]
    have kp : Ex W1.H W2.H := fun b o e => s2.keep b o (exx b o e) (nO b (ne_none_of e))
    have od : ∀ b, W1.H b ≠ none → W2.Hc b = W1.Hc b := fun b q => by
      obtain ⟨o, e⟩ := of_ne_none q
      exact (s2.old b (ne_none_of (exx b o e)) (nO b q)).1
    have dm : ∀ b, W1.H b ≠ none → W2.H b ≠ none := fun b q => by
      obtain ⟨o, e⟩ := of_ne_none q
      exact ne_none_of (kp b o e)
    have k3 : Wd.Ok ⟨W2.Hc, W2.H, W1.O, W1.B⟩ := ⟨k2.ex, fun b j q => by
      obtain ⟨n1, n2⟩ := k1.own b j q
      exact ⟨(od b n2).trans n1, dm b n2⟩, k1.basTo dm (fun b o _ _ q => kp b o q) fun _ _ n => n⟩
    exact h b z ⟨W2.Hc, W2.H, W1.O, W1.B⟩ pb k3 ⟨kp, s2.hc, rfl, od, rfl⟩ r2
/-- C(..) with clean arguments -/
theorem xg_make {C : Addr} {k j : Nat} {ps : List Str} {x : Str} {p : Pos} {R : RA τ} {RJ : Hp → Hp → List V → τ → Prop} {F : τ → Mp β} {r : RT β} {M : Mp τ} (G : MakeJ X.prog X.w X.K X.mg X.base x C k ps (spJ C RJ F r)) (hR : ∀ H vs x, R.ok H vs x → RJ H H vs x) (hr : Room j X.A) (hj : k + 1 ≤ j)
    (ha : XA X Γ (e :: es) M R) (hg : Gl X x := by rfl) (hdb : (x == ("__debug__" : Str)) = false := by decide) (he : starEach (e :: es) X.env = (false, eval e X.env) :: starEach es X.env := by rfl) (hpl : (backTo pos (starEach es X.env)).any (·.1) = false := by rfl) :
    XP X Γ (.Call (.Name x p) (e :: es) [] pos) (fun P => M fun y => F y P) r := by
  obtain ⟨hm, f, fd, Mc, hb, G⟩ := G
  obtain ⟨t, pp, q⟩ := ha
  refine ⟨_, pe_make Mc G (hr.mono hj) hg hm hb .nil pass0 pp hdb he hpl, fun σ W k s Q P m h => ?_⟩
  refine q σ W k s _ _ m fun y v W1 m1 k1 s1 g1 r1 => ?_
  intro z dx nz ndx ne
  rw [List.append_nil]
  exact makeJ_core (Hb := W1.Hc) k1 (fun _ _ h => h) k1.ex (hR _ _ _ r1) m1 (fun b u W2 pb k2 g2 r2 => h b (.ref u) W2 pb k2 (s1.trans g2.step) (g1.up (g2.up k1)) r2) z dx nz ndx ne
end
end TM
set_option Elab.async false
set_option linter.all false
set_option maxRecDepth 100000
namespace TM
open PySem PySem.Spec PyProof.Rows L2
section
variable {X : Cx} {Γ Δ : List SP} {α β γ δ τ S S' B R : Type} {e a b c tg iter elt o : Expr} {es : List Expr} {pos : Pos} {st : Stmt} {sts rest body : List Stmt}
/-! ### a, b = x, y where a name is read in a comprehension: the pair is laid -/
section par
variable {Γb : B → List SP} {RR : R → V → Wd → Prop} {i j : Nat} {x y : Str} {px py pt pt2 : Pos} {kt k2 : Nat} {ra : RT α} {rb : RT β}
theorem xt_parPNc (i j : Nat) {k2 : Nat} {Ma : Mp α} {Mb : Mp (List β)} (ha : XP X Γ a Ma ra) (hb : XN X Γ b Mb rb) (hc : X.calm = true) (hnd : X.N.Nodup)
    (hg : PG X (.Tuple [.Name x px, .Name y py] kt pt) (gTup X.K 2 (gCons (gName i) (gCons (gName j) gNil))))
    (hw : swappedStores [.Tuple [.Name x px, .Name y py] kt pt] (.Tuple [a, b] k2 pt2) X.env = pure none := by rfl) (hs : swapsWithSole [.Tuple [.Name x px, .Name y py] kt pt] (.Tuple [a, b] k2 pt2) pos.line X.env = pure false := by rfl) (h3 : (assignEach [.Tuple [.Name x px, .Name y py] kt pt] X.env).map (·.2) = [assign (.Tuple [.Name x px, .Name y py] kt pt) X.env] := by rfl) (h1 : starEach [a, b] X.env = (false, eval a X.env) :: starEach [b] X.env := by rfl) (h2 : starEach [b] X.env = (false, eval b X.env) :: starEach [] X.env := by rfl) :
    XSt X Γ (.Assign [.Tuple [.Name x px, .Name y py] kt pt] (.Tuple [a, b] k2 pt2) pos) (fun κ : Kn (α × List β) B R => Ma fun u => Mb fun v => κ.nx (u, v)) (fun z => (Γ.set i (.cl ra z.1)).set j (.own rb z.2)) Γb RR := by
  obtain ⟨t1, p1, q1⟩ := ha
  obtain ⟨t2, p2, q2⟩ := hb
  refine ⟨_, ps_asg (pe_tup (pa_cons p1 (pa_cons p2 pa_nil h2) h1)) hg hs hw h3, fun σ W k g κ D m hh _ _ _ => ?_⟩
  refine q1 σ W k g _ _ m fun u v W1 m1 k1 s1 g1 r1 => ?_
  refine q2 σ W1 k1 g1 _ _ m1 fun u2 w ws W2 m2 k2 s2 g2 n2 nc2 no2 hw2 pr2 => ?_
  refine ⟨(by show 2 ≤ sizeLine; decide), fun pt0 npt => ?_⟩
  have grT := grow_lay (W := W2) (o := .tup [v, (.ref w)]) npt
  have kT := k2.lay (o := .tup [v, (.ref w)]) npt
  have sqT : SqT X.K (W2.lay pt0 (.tup [v, (.ref w)])).H pt0 [v, (.ref w)] := sqt_of upd_same
  refine ⟨pt0, [v, (.ref w)], rfl, sqT, rfl, v, [(.ref w)], rfl, (.ref w), [], rfl, rfl, ?_⟩
  have hw4 := grT.keep w _ hw2
  have nc4 : (W2.lay pt0 (.tup [v, V.ref w])).Hc w = none := (grT.old w (ne_none_of hw2)).trans nc2
  have no4 : (W2.lay pt0 (.tup [v, V.ref w])).O w = none := by rw [grT.O]; exact no2
  have g3 := Sat.put (Γ := Γ) (i := i) (g2.up (grT.up k2)) (spc (ra.mono (s2.trans grT.step).hc r1))
  obtain ⟨W4, e4, k4, s4, g4⟩ := sat_own (i := j) k kT ((s1.trans s2).trans grT.step) g3 (fresh_of s1 n2) nc4 no4 hw4 (pmap pr2 fun _ _ => rb.mono grT.hc)
  have hfin := hh (u, u2) _ W4 m2 k4 s4 g4
  rw [e4] at hfin; exact hfin
theorem xt_parNPc (i j : Nat) {k2 : Nat} {Ma : Mp (List α)} {Mb : Mp β} (ha : XN X Γ a Ma ra) (hb : XP X Γ b Mb rb) (hc : X.calm = true) (hnd : X.N.Nodup)
    (hg : PG X (.Tuple [.Name x px, .Name y py] kt pt) (gTup X.K 2 (gCons (gName i) (gCons (gName j) gNil))))
    (hw : swappedStores [.Tuple [.Name x px, .Name y py] kt pt] (.Tuple [a, b] k2 pt2) X.env = pure none := by rfl) (hs : swapsWithSole [.Tuple [.Name x px, .Name y py] kt pt] (.Tuple [a, b] k2 pt2) pos.line X.env = pure false := by rfl) (h3 : (assignEach [.Tuple [.Name x px, .Name y py] kt pt] X.env).map (·.2) = [assign (.Tuple [.Name x px, .Name y py] kt pt) X.env] := by rfl) (h1 : starEach [a, b] X.env = (false, eval a X.env) :: starEach [b] X.env := by rfl) (h2 : starEach [b] X.env = (false, eval b X.env) :: starEach [] X.env := by rfl) :
    XSt X Γ (.Assign [.Tuple [.Name x px, .Name y py] kt pt] (.Tuple [a, b] k2 pt2) pos) (fun κ : Kn (List α × β) B R => Ma fun u => Mb fun v => κ.nx (u, v)) (fun z => (Γ.set i (.own ra z.1)).set j (.cl rb z.2)) Γb RR := by
  obtain ⟨t1, p1, q1⟩ := ha
  obtain ⟨t2, p2, q2⟩ := hb
  refine ⟨_, ps_asg (pe_tup (pa_cons p1 (pa_cons p2 pa_nil h2) h1)) hg hs hw h3, fun σ W k g κ D m hh _ _ _ => ?_⟩
  refine q1 σ W k g _ _ m fun u v vs W1 m1 k1 s1 g1 n1 nc1 no1 hv pr1 => ?_
  refine q2 σ W1 k1 g1 _ _ m1 fun u2 w W2 m2 k2 s2 g2 r2 => ?_
  refine ⟨(by show 2 ≤ sizeLine; decide), fun pt0 npt => ?_⟩
  have grT := grow_lay (W := W2) (o := .tup [(.ref v), w]) npt
  have kT := k2.lay (o := .tup [(.ref v), w]) npt
  have sqT : SqT X.K (W2.lay pt0 (.tup [(.ref v), w])).H pt0 [(.ref v), w] := sqt_of upd_same
  refine ⟨pt0, [(.ref v), w], rfl, sqT, rfl, (.ref v), [w], rfl, w, [], rfl, rfl, ?_⟩
  have hv2 := grT.keep v _ (s2.keep v _ hv no1)
  obtain ⟨oc, oo⟩ := (s2.trans grT.step).old v (ne_none_of hv) no1
  obtain ⟨W3, e3, c3, o3, k3, s3, g3⟩ := sat_own2 (i := i) k kT ((s1.trans s2).trans grT.step) (g2.up (grT.up k2)) n1 (oc.trans nc1) oo hv2 (pmap pr1 fun _ _ => ra.mono (s2.trans grT.step).hc)
  have hfin := hh (u, u2) _ W3 m2 k3 s3 (g3.put (i := j) (spc (by rw [c3]; exact rb.mono grT.hc r2)))
  rw [e3] at hfin; exact hfin
theorem xt_parNNc (i j : Nat) {k2 : Nat} {Ma : Mp (List α)} {Mb : Mp (List β)} (ha : XN X Γ a Ma ra) (hb : XN X Γ b Mb rb) (hc : X.calm = true) (hnd : X.N.Nodup)
    (hg : PG X (.Tuple [.Name x px, .Name y py] kt pt) (gTup X.K 2 (gCons (gName i) (gCons (gName j) gNil))))
    (hw : swappedStores [.Tuple [.Name x px, .Name y py] kt pt] (.Tuple [a, b] k2 pt2) X.env = pure none := by rfl) (hs : swapsWithSole [.Tuple [.Name x px, .Name y py] kt pt] (.Tuple [a, b] k2 pt2) pos.line X.env = pure false := by rfl) (h3 : (assignEach [.Tuple [.Name x px, .Name y py] kt pt] X.env).map (·.2) = [assign (.Tuple [.Name x px, .Name y py] kt pt) X.env] := by rfl) (h1 : starEach [a, b] X.env = (false, eval a X.env) :: starEach [b] X.env := by rfl) (h2 : starEach [b] X.env = (false, eval b X.env) :: starEach [] X.env := by rfl) :
    XSt X Γ (.Assign [.Tuple [.Name x px, .Name y py] kt pt] (.Tuple [a, b] k2 pt2) pos) (fun κ : Kn (List α × List β) B R => Ma fun u => Mb fun v => κ.nx (u, v)) (fun z => (Γ.set i (.own ra z.1)).set j (.own rb z.2)) Γb RR := by
  obtain ⟨t1, p1, q1⟩ := ha
  obtain ⟨t2, p2, q2⟩ := hb
  refine ⟨_, ps_asg (pe_tup (pa_cons p1 (pa_cons p2 pa_nil h2) h1)) hg hs hw h3, fun σ W k g κ D m hh _ _ _ => ?_⟩
  refine q1 σ W k g _ _ m fun u v vs W1 m1 k1 s1 g1 n1 nc1 no1 hv pr1 => ?_
  refine q2 σ W1 k1 g1 _ _ m1 fun u2 w ws W2 m2 k2 s2 g2 n2 nc2 no2 hw2 pr2 => ?_
  refine ⟨(by show 2 ≤ sizeLine; decide), fun pt0 npt => ?_⟩
  have grT := grow_lay (W := W2) (o := .tup [(.ref v), (.ref w)]) npt
  have kT := k2.lay (o := .tup [(.ref v), (.ref w)]) npt
  have sqT : SqT X.K (W2.lay pt0 (.tup [(.ref v), (.ref w)])).H pt0 [(.ref v), (.ref w)] := sqt_of upd_same
  refine ⟨pt0, [(.ref v), (.ref w)], rfl, sqT, rfl, (.ref v), [(.ref w)], rfl, (.ref w), [], rfl, rfl, ?_⟩
  have hv2 := grT.keep v _ (s2.keep v _ hv no1)
  obtain ⟨oc, oo⟩ := (s2.trans grT.step).old v (ne_none_of hv) no1
  obtain ⟨W3, e3, c3, o3, k3, s3, g3⟩ := sat_own2 (i := i) k kT ((s1.trans s2).trans grT.step) (g2.up (grT.up k2)) n1 (oc.trans nc1) oo hv2 (pmap pr1 fun _ _ => ra.mono (s2.trans grT.step).hc)
  have nw : w ≠ v := fun z => by rw [z, hv] at n2; cases n2
  have hw4 := grT.keep w _ hw2
  have nc4 : (W2.lay pt0 (.tup [V.ref v, V.ref w])).Hc w = none := (grT.old w (ne_none_of hw2)).trans nc2
  have no4 : (W2.lay pt0 (.tup [V.ref v, V.ref w])).O w = none := by rw [grT.O]; exact no2
  obtain ⟨W4, e4, k4, s4, g4⟩ := sat_own (i := j) k k3 s3 g3 (fresh_of s1 n2) (by rw [c3]; exact nc4) ((o3 w nw).trans no4) (by rw [e3]; exact hw4) (by rw [c3]; exact pmap pr2 fun _ _ => rb.mono grT.hc)
  have hfin := hh (u, u2) _ W4 m2 k4 s4 g4
  rw [e4, e3] at hfin; exact hfin
end par
end
end TM
set_option Elab.async false
set_option linter.all false
set_option maxRecDepth 100000
namespace TM
open PySem PySem.Spec PyProof.Rows L2
/-! ### the bodies of constructors: an instance is filled; what is lent is read, never kept -/
def nwH (H0 Hc0 H : Hp) : Hp := fun b => match H0 b with
  | none => H b
  | some _ => Hc0 b
theorem nw_new {H0 Hc0 H : Hp} {b : Addr} (h : H0 b = none) : nwH H0 Hc0 H b = H b := by unfold nwH; rw [h]
theorem nw_old {H0 Hc0 H : Hp} {b : Addr} (h : H0 b ≠ none) : nwH H0 Hc0 H b = Hc0 b := by
  unfold nwH
  obtain ⟨o, e⟩ := of_ne_none h
  rw [e]
structure KI (C p : Addr) (H0 Hc0 Hb : Hp) (fs : List (Str × V)) (H : Hp) : Prop where
  c0 : Ex Hc0 Hb
  b0 : Ex Hb H0
  bp : Hb p = none
  old : ∀ b o, b ≠ p → H0 b = some o → H b = some o
  me : ∃ dx, H p = some (.ins C dx fs)
  p0 : H0 p ≠ none
namespace KI
variable {C p : Addr} {H0 Hc0 Hb H H' : Hp} {fs : List (Str × V)}
theorem nb (k : KI C p H0 Hc0 Hb fs H) {b : Addr} {o : HO} (h : Hb b = some o) : H b = some o := k.old b o (fun z => by rw [z, k.bp] at h; cases h) (k.b0 b o h)
theorem dom (k : KI C p H0 Hc0 Hb fs H) {b : Addr} (h : H0 b ≠ none) : H b ≠ none := by
  by_cases z : b = p
  · obtain ⟨dx, e⟩ := k.me
    rw [z, e]; simp
  · obtain ⟨o, e⟩ := of_ne_none h
    rw [k.old b o z e]; simp
theorem nwx (k : KI C p H0 Hc0 Hb fs H) : Ex (nwH H0 Hc0 H) H := fun b o e => by
  cases z : H0 b with
  | none => rw [nw_new z] at e; exact e
  | some u => rw [nw_old (by rw [z]; simp)] at e; exact k.nb (k.c0 b o e)
theorem nwp (k : KI C p H0 Hc0 Hb fs H) : nwH H0 Hc0 H p = none := by
  rw [nw_old k.p0]
  cases e : Hc0 p with
  | none => rfl
  | some o => have := k.c0 p o e; rw [k.bp] at this; cases this
theorem wok (k : KI C p H0 Hc0 Hb fs H) : Wd.Ok ⟨nwH H0 Hc0 H, H, fun _ => none, H⟩ := ⟨k.nwx, (by intro a i e; cases e), bas_self⟩
theorem grow (k : KI C p H0 Hc0 Hb fs H) (e : Ex H H') : KI C p H0 Hc0 Hb fs H' := ⟨k.c0, k.b0, k.bp, fun b o n h => e _ _ (k.old b o n h), let ⟨dx, h⟩ := k.me; ⟨dx, e _ _ h⟩, k.p0⟩
theorem nwm (e : Ex H H') : Ex (nwH H0 Hc0 H) (nwH H0 Hc0 H') := fun b o h => by
  cases z : H0 b with
  | none => rw [nw_new z] at h ⊢; exact e b o h
  | some u =>
    have q : H0 b ≠ none := by rw [z]; simp
    rw [nw_old q] at h ⊢; exact h
theorem put (k : KI C p H0 Hc0 Hb fs H) {dx : Addr} (gs : List (Str × V)) : KI C p H0 Hc0 Hb gs (upd H p (.ins C dx gs)) := ⟨k.c0, k.b0, k.bp, fun b o n h => by rw [upd_ne n]; exact k.old b o n h, ⟨dx, upd_same⟩, k.p0⟩
theorem nwput (k : KI C p H0 Hc0 Hb fs H) {o : HO} : nwH H0 Hc0 (upd H p o) = nwH H0 Hc0 H := by
  funext b
  cases z : H0 b with
  | none => rw [nw_new z, nw_new z, upd_ne (fun w => by rw [w] at z; exact k.p0 z)]
  | some u =>
    have q : H0 b ≠ none := by rw [z]; simp
    rw [nw_old q, nw_old q]
theorem keepAll {W W' : Wd} (s : Step W W') (n : ∀ b, W.O b = none) : Ex W.H W'.H := fun b o e => s.keep b o e (n b)
theorem after (k : KI C p H0 Hc0 Hb fs H) {B : Hp} {W' : Wd} (k' : W'.Ok) (s : Step ⟨nwH H0 Hc0 H, H, fun _ => none, B⟩ W') : Ex W'.Hc (nwH H0 Hc0 W'.H) := fun b o e => by
  cases z : H0 b with
  | none => rw [nw_new z]; exact k'.ex b o e
  | some u =>
    have q : H0 b ≠ none := by rw [z]; simp
    rw [nw_old q]
    have := (s.old b (k.dom q) rfl).1
    rw [e] at this
    have h2 : nwH H0 Hc0 H b = some o := this.symm
    rw [nw_old q] at h2
    exact h2
end KI
/-- everything that stood at H0 is clean -/
def rAll (H0 : Hp) : RT Unit := ⟨fun Hc _ _ => Ex H0 Hc, fun e h b o q => e b o (h b o q)⟩
/-- a list that stood not at H0 -/
def rNew {α : Type} (H0 : Hp) (r : RT α) : RT (List α) := ⟨fun Hc v xs => ∃ a vs, v = .ref a ∧ H0 a = none ∧ Hc a = some (.lst vs) ∧ Paired (r.ok Hc) vs xs, fun e ⟨a, vs, h, n, q, pr⟩ => ⟨a, vs, h, n, e _ _ q, pmap pr fun _ _ => r.mono e⟩⟩
/-- what is new at H0 is as well where only new things are clean -/
structure Cv {α : Type} (rr : Hp → RT α) (r : RT α) : Prop where
  cv : ∀ (H0 Hc0 H H' : Hp) v x, (∀ b, H0 b ≠ none → H b ≠ none) → (rr H).ok H' v x → r.ok (nwH H0 Hc0 H') v x
theorem cv_int : Cv (fun _ => rInt) rInt := ⟨fun _ _ _ _ _ _ _ h => h⟩
theorem cv_bl : Cv (fun _ => rBl) rBl := ⟨fun _ _ _ _ _ _ _ h => h⟩
theorem cv_str : Cv (fun _ => rStr) rStr := ⟨fun _ _ _ _ _ _ _ h => h⟩
theorem cv_new {α : Type} {rr : Hp → RT α} {r : RT α} (c : Cv rr r) : Cv (fun H => rNew H (rr H)) (rL r) := ⟨fun H0 Hc0 H H' v x d ⟨a, vs, e, n, hh, pr⟩ => ⟨a, vs, e, by
  rw [nw_new (by cases q : H0 a with
    | none => rfl
    | some o => exact absurd n (d a (by rw [q]; simp)))]
  exact hh, pmap pr fun _ _ => c.cv H0 Hc0 H H' _ _ d⟩⟩
section
variable {X : Cx} {Γ Λ : List SP} {α β γ δ τ S S' : Type} {e c : Expr} {pos : Pos} {st : Stmt} {sts rest : List Stmt} {H0 : Hp}
theorem xn_new {M : Mp (List α)} {r : RT α} (i : Nat) (h : look Γ i = .cl (rAll H0) ()) (g : XN X Γ e M r) : XP X Γ e M (rNew H0 r) := by
  obtain ⟨t, p, q⟩ := g
  refine ⟨t, p, fun σ W k s Q P m hh => q σ W k s Q P m fun xs p vs W' m' k' s' g' n nc no hp r' => ?_⟩
  have u := up_frz (o := .lst vs) nc
  obtain ⟨o, eo, v, e2, ex⟩ := s.look h (by simp)
  refine hh xs (.ref p) (W'.frz p (.lst vs)) m' (k'.frz hp no) (s'.frz n nc) (g'.up u) ⟨p, vs, rfl, ?_, upd_same, pmap r' fun _ _ => r.mono u.hc⟩
  cases z : H0 p with
  | none => rfl
  | some o => have := k.ex _ _ (ex p o z); rw [n] at this; cases this
/-! the statements of a constructor -/
def XCt (X : Cx) (C : Addr) (J : Addr → Hp → Prop) (Γ Λ : List SP) (FF : Hp → List (Str × V) → Prop) (sts : List Stmt) (M : (S → Prop) → Prop) (FF' : S → Hp → List (Str × V) → Prop) : Prop :=
  ∃ t, PSs X sts t ∧ ∀ (σ : St) (p : Addr) (H0 Hc0 Hb : Hp) (fs : List (Str × V)) (H : Hp), J p H0 → KI C p H0 Hc0 Hb fs H → σ[0]? = some (some (.ref p)) → Sat Γ σ ⟨nwH H0 Hc0 H, H, fun _ => none, H⟩ → Sat Λ σ ⟨Hb, Hb, fun _ => none, Hb⟩ → FF (nwH H0 Hc0 H) fs →
    ∀ (P : S → Prop) (D : Ends), M P → (∀ s fs' H', P s → KI C p H0 Hc0 Hb fs' H' → FF' s (nwH H0 Hc0 H') fs' → (∀ b o, b ≠ p → H b = some o → H' b = some o) → D.nx σ H') → t D σ H
variable {C : Addr} {J : Addr → Hp → Prop} {FF : Hp → List (Str × V) → Prop} {FF' : S → Hp → List (Str × V) → Prop}
def clus : List SP → Prop
  | [] => True
  | p :: ps => (match p with | .unk => True | .cl _ _ => True | _ => False) ∧ clus ps
theorem clu_up : ∀ {Γ : List SP} {i : Nat} {σ : St} {W W' : Wd}, clus Γ → Ex W.Hc W'.Hc → SatL i Γ σ W → SatL i Γ σ W'
  | [], _, [], _, _, _, _, _ => trivial
  | p :: ps, i, o :: σ, W, W', c, e, h => ⟨by
    obtain ⟨c1, _⟩ := c
    obtain ⟨h1, _⟩ := h
    cases p with
    | unk => trivial
    | cl r x => obtain ⟨v, q, w⟩ := h1; exact ⟨v, q, r.mono e w⟩
    | bot => exact c1.elim
    | own r xs => exact c1.elim
    | ownA a r xs => exact c1.elim
    | bx a => exact c1.elim
    | dp r x => exact c1.elim
    | gen g => exact c1.elim, clu_up c.2 e h.2⟩
theorem xk_nil (s : S) (h : ∀ Hc fs, FF Hc fs → FF' s Hc fs) : XCt X C J Γ Λ FF [] (fun P => P s) FF' :=
  ⟨_, pss_nil, fun σ p H0 Hc0 Hb fs H jj k hs g l f P D m hh => hh s fs H m k (h _ _ f) fun _ _ _ q => q⟩
def ffAdd (FF : Hp → List (Str × V) → Prop) (f : Str) (r : RT α) (x : α) : Hp → List (Str × V) → Prop := fun Hc fs => ∃ fs0 v, fs = fs0 ++ [(f, v)] ∧ FF Hc fs0 ∧ r.ok Hc v x
structure FFok (FF : Hp → List (Str × V) → Prop) (f : Str) : Prop where
  mono : ∀ {Hc Hc' fs}, Ex Hc Hc' → FF Hc fs → FF Hc' fs
  put : ∀ {Hc fs} v, FF Hc fs → putF f v fs = fs ++ [(f, v)] ∧ fs.length < 1000
variable {f sf : Str} {p1 p2 : Pos}
/-- self.f = e, e over what is kept -/
theorem xk_set {M : Mp α} {r : RT α} {N : α → (S → Prop) → Prop} (c : Cls X.K C) (nf : NoAttr X.K C f) (ff : FFok FF f) (cg : clus Γ) (h : XP X Γ e M r) (hr : ∀ x, XCt X C J Γ Λ (ffAdd FF f r x) rest (N x) FF')
    (hN : X.N[0]? = some sf := by rfl) (hv : Vis X.env.scope sf := by first | exact Or.inl rfl | exact Or.inr (Or.inl rfl) | exact Or.inr (Or.inr rfl)) (hd : (sf == ("__debug__" : Str)) = false := by decide) (hcd : (sf == ("__classdict__" : Str)) = false := by decide) (hs : swapsWith e (some (.Attribute (.Name sf p1) f p2)) pos.line X.env = pure false := by rfl) :
    XCt X C J Γ Λ FF (.Assign [.Attribute (.Name sf p1) f p2] e pos :: rest) (fun P => M fun x => N x P) FF' := by
  obtain ⟨t, p, q⟩ := h
  refine ⟨_, pss_cons (ps_fld (pe_var hN hv hd hcd) p hs) (pss_ex fun x => (Classical.choose_spec (hr x)).1), fun σ p H0 Hc0 Hb fs H jj k hs' g l hf P D m hh => ?_⟩
  refine q σ _ k.wok g _ _ m fun x v W' m' k' s' g' r' => ?_
  have e1 : Ex H W'.H := KI.keepAll s' fun _ => rfl
  have k1 := k.grow e1
  have e2 := k.after k' s'
  obtain ⟨dx, hp⟩ := k1.me
  obtain ⟨hput, hlen⟩ := ff.put v hf
  refine ⟨_, hs', p, C, dx, fs, rfl, hp, c, nf, hlen, x, ?_⟩
  have k2 := k1.put (dx := dx) (putF f v fs)
  have en : nwH H0 Hc0 (upd W'.H p (.ins C dx (putF f v fs))) = nwH H0 Hc0 W'.H := k1.nwput
  refine (Classical.choose_spec (hr x)).2 σ p H0 Hc0 Hb _ _ jj k2 hs' (by rw [en]; exact clu_up cg (KI.nwm e1) g) l ?_ P D m' fun s fs' H' ps k3 f3 oo => hh s fs' H' ps k3 f3 fun b o n h => oo b o n (by rw [upd_ne n]; exact e1 b o h)
  rw [en, hput]
  exact ⟨fs, v, rfl, ff.mono (KI.nwm e1) hf, r.mono e2 r'⟩
theorem lent_big {σ : St} {Hb H : Hp} {p : Addr} (cl : clus Λ) (h0 : look Λ 0 = .unk) (hs : σ[0]? = some (some (.ref p))) (e : Ex Hb H) (l : Sat Λ σ ⟨Hb, Hb, fun _ => none, Hb⟩) : Sat (Λ.set 0 (.cl (rAll H) ())) σ ⟨H, H, fun _ => none, H⟩ := by
  have g : Sat Λ σ ⟨H, H, fun _ => none, H⟩ := clu_up cl e l
  have := g.put (i := 0) (p := .cl (rAll H) ()) (o := some (.ref p)) ⟨_, rfl, fun _ _ h => h⟩
  have es : σ.set 0 (some (V.ref p)) = σ := by
    cases σ with
    | nil => rfl
    | cons a s =>
      have hs : some a = some (some (V.ref p)) := hs
      cases hs; rfl
  rwa [es] at this
/-- self.f = e, e over all that stands, what is lent too -/
theorem xk_setB {M : Mp α} {rr : Hp → RT α} {r : RT α} {N : α → (S → Prop) → Prop} (c : Cls X.K C) (nf : NoAttr X.K C f) (ff : FFok FF f) (cg : clus Γ) (cl : clus Λ) (l0 : look Λ 0 = .unk) (cv : Cv rr r) (h : ∀ H1, XP X (Λ.set 0 (.cl (rAll H1) ())) e M (rr H1)) (hr : ∀ x, XCt X C J Γ Λ (ffAdd FF f r x) rest (N x) FF')
    (hN : X.N[0]? = some sf := by rfl) (hv : Vis X.env.scope sf := by first | exact Or.inl rfl | exact Or.inr (Or.inl rfl) | exact Or.inr (Or.inr rfl)) (hd : (sf == ("__debug__" : Str)) = false := by decide) (hcd : (sf == ("__classdict__" : Str)) = false := by decide) (hs : swapsWith e (some (.Attribute (.Name sf p1) f p2)) pos.line X.env = pure false := by rfl) :
    XCt X C J Γ Λ FF (.Assign [.Attribute (.Name sf p1) f p2] e pos :: rest) (fun P => M fun x => N x P) FF' := by
  have pe : PE X e (fun σ H Q => ∃ H1, Classical.choose (h H1) σ H Q) := ⟨fun pins s σ H Q I ⟨H1, w⟩ => (Classical.choose_spec (h H1)).1.run pins s σ H Q I w⟩
  refine ⟨_, pss_cons (ps_fld (pe_var hN hv hd hcd) pe hs) (pss_ex fun x => (Classical.choose_spec (hr x)).1), fun σ p H0 Hc0 Hb fs H jj k hs' g l hf P D m hh => ?_⟩
  refine ⟨H, ?_⟩
  refine (Classical.choose_spec (h H)).2 σ ⟨H, H, fun _ => none, H⟩ ⟨fun _ _ h => h, (by intro a i e; cases e), bas_self⟩ (lent_big cl l0 hs' (fun b o e => k.nb e) l) _ _ m fun x v W' m' k' s' g' r' => ?_
  have e1 : Ex H W'.H := KI.keepAll s' fun _ => rfl
  have k1 := k.grow e1
  obtain ⟨dx, hp⟩ := k1.me
  obtain ⟨hput, hlen⟩ := ff.put v hf
  refine ⟨_, hs', p, C, dx, fs, rfl, hp, c, nf, hlen, x, ?_⟩
  have k2 := k1.put (dx := dx) (putF f v fs)
  have en : nwH H0 Hc0 (upd W'.H p (.ins C dx (putF f v fs))) = nwH H0 Hc0 W'.H := k1.nwput
  refine (Classical.choose_spec (hr x)).2 σ p H0 Hc0 Hb _ _ jj k2 hs' (by rw [en]; exact clu_up cg (KI.nwm e1) g) l ?_ P D m' fun s fs' H' ps k3 f3 oo => hh s fs' H' ps k3 f3 fun b o n h => oo b o n (by rw [upd_ne n]; exact e1 b o h)
  rw [en, hput]
  exact ⟨fs, v, rfl, ff.mono (KI.nwm e1) hf, cv.cv H0 Hc0 H W'.H _ _ (fun b n => k.dom n) ((rr H).mono k'.ex r')⟩
/-- a call for its answer's sake alone -/
theorem xk_expB {M : Mp α} {r : RT α} {N : (S → Prop) → Prop} (ff : FFok FF f) (cg : clus Γ) (cl : clus Λ) (h : XP X Λ e M r) (hr : XCt X C J Γ Λ FF rest N FF') (hs : swapsWith e none pos.line X.env = pure false := by rfl) :
    XCt X C J Γ Λ FF (.Expr e pos :: rest) (fun P => M fun _ => N P) FF' := by
  obtain ⟨t, p, q⟩ := h
  obtain ⟨t2, p2, q2⟩ := hr
  refine ⟨_, pss_cons (ps_expr p hs) p2, fun σ p H0 Hc0 Hb fs H jj k hs' g l hf P D m hh => ?_⟩
  refine q σ ⟨H, H, fun _ => none, H⟩ ⟨fun _ _ h => h, (by intro a i e; cases e), bas_self⟩ (clu_up cl (fun b o e => k.nb e) l) _ _ m fun x v W' m' k' s' g' r' => ?_
  have e1 : Ex H W'.H := KI.keepAll s' fun _ => rfl
  exact q2 σ p H0 Hc0 Hb _ _ jj (k.grow e1) hs' (clu_up cg (KI.nwm e1) g) l (ff.mono (KI.nwm e1) hf) P D m' fun s fs' H' ps k3 f3 oo => hh s fs' H' ps k3 f3 fun b o n h => oo b o n (e1 b o h)
/-- if c: raise -/
theorem xk_ifB {A : List Stmt} {M : Mp Bool} {N : (S → Prop) → Prop} (ff : FFok FF f) (cg : clus Γ) (cl : clus Λ) (h : XT X Λ c M) (hr : XCt X C J Γ Λ FF rest N FF') :
    XCt X C J Γ Λ FF (.If c A [] pos :: rest) (fun P => M fun b => if b = true then False else N P) FF' := by
  obtain ⟨t, p, q⟩ := h
  obtain ⟨t2, p2, q2⟩ := hr
  refine ⟨_, pss_cons (ps_if p pss_never pss_nil) p2, fun σ p H0 Hc0 Hb fs H jj k hs' g l hf P D m hh => ?_⟩
  refine q σ ⟨H, H, fun _ => none, H⟩ ⟨fun _ _ h => h, (by intro a i e; cases e), bas_self⟩ (clu_up cl (fun b o e => k.nb e) l) _ _ m fun x W' m' k' s' g' => ?_
  have e1 : Ex H W'.H := KI.keepAll s' fun _ => rfl
  cases x with
  | true => exact (by simpa using m' : False).elim
  | false => exact q2 σ p H0 Hc0 Hb _ _ jj (k.grow e1) hs' (clu_up cg (KI.nwm e1) g) l (ff.mono (KI.nwm e1) hf) P D (by simpa using m') fun s fs' H' ps k3 f3 oo => hh s fs' H' ps k3 f3 fun b o n h => oo b o n (e1 b o h)
/-- a method of the instance that is being filled -/
def spK {β : Type} (C : Addr) (RK : Hp → Hp → List V → τ → Prop) (FF : τ → Hp → List (Str × V) → Prop) (F : τ → Mp β) (FF' : τ → β → Hp → List (Str × V) → Prop) : Sp := fun vs H Q _ => ∃ (p : Addr) (H0 Hc0 Hb : Hp) (fs : List (Str × V)) (ws : List V) (x : τ) (P : β → Prop), vs = .ref p :: ws ∧ KI C p H0 Hc0 Hb fs H ∧ RK (nwH H0 Hc0 H) Hb ws x ∧ FF x (nwH H0 Hc0 H) fs ∧ F x P ∧
  ∀ b fs' H', P b → KI C p H0 Hc0 Hb fs' H' → FF' x b (nwH H0 Hc0 H') fs' → (∀ b o, b ≠ p → H b = some o → H' b = some o) → Q .non H'
/-- names as arguments -/
def XV (X : Cx) (es : List Expr) (is : List Nat) : Prop := ∃ t, PA X es t ∧ ∀ (σ : St) (H : Hp) (Q : List V → Hp → Prop) (ws : List V), is.map (fun i => σ[i]?) = ws.map (fun v => some (some v)) → Q ws H → t σ H Q
theorem xv_nil : XV X [] [] := ⟨_, pa_nil, fun σ H Q ws h q => by
  cases ws with
  | nil => exact q
  | cons a s => cases h⟩
theorem xv_cons (i : Nat) {x : Str} {is : List Nat} {es : List Expr} {pp : Pos} (hr : XV X es is) (hN : X.N[i]? = some x := by rfl) (hv : Vis X.env.scope x := by first | exact Or.inl rfl | exact Or.inr (Or.inl rfl) | exact Or.inr (Or.inr rfl)) (hd : (x == ("__debug__" : Str)) = false := by decide) (hcd : (x == ("__classdict__" : Str)) = false := by decide) (hs : starEach (.Name x pp :: es) X.env = (false, eval (.Name x pp) X.env) :: starEach es X.env := by rfl) : XV X (.Name x pp :: es) (i :: is) := by
  obtain ⟨t, p, q⟩ := hr
  refine ⟨_, pa_cons (pe_var hN hv hd hcd) p hs, fun σ H Q ws h k => ?_⟩
  cases ws with
  | nil => cases h
  | cons a s =>
    rw [List.map_cons, List.map_cons, List.cons.injEq] at h
    exact ⟨a, h.1, q σ H _ s h.2 k⟩
/-- self.m(names) -/
theorem xk_callK {m : Str} {k j : Nat} {ps : List Str} {β : Type} {is : List Nat} {es : List Expr} {a1 : Expr} {RK : Hp → Hp → List V → τ → Prop} {FFz : τ → Hp → List (Str × V) → Prop} {F : τ → Mp β} {FFw : τ → β → Hp → List (Str × V) → Prop} {N : β → (S → Prop) → Prop} {pl : Sem Bool} {apos : Pos} (z : τ) (G : MethG X.prog X.w X.K X.mg X.base C m k ps (spK C RK FFz F FFw)) (hr : Room j X.A) (hj : k ≤ j) (c : Cls X.K C) (cg : clus Γ) (ff : ∀ Hc fs, FF Hc fs → FFz z Hc fs ∧ fs.lookup m = none)
    (ha : XV X (a1 :: es) is) (hRK : ∀ σ Hc Hb B, Sat Γ σ ⟨Hc, B, fun _ => none, B⟩ → Sat Λ σ ⟨Hb, Hb, fun _ => none, Hb⟩ → ∃ ws, is.map (fun i => σ[i]?) = ws.map (fun v => some (some v)) ∧ RK Hc Hb ws z) (hrest : ∀ b, XCt X C J Γ Λ (FFw z b) rest (N b) FF')
    (hN : X.N[0]? = some sf := by rfl) (hv : Vis X.env.scope sf := by first | exact Or.inl rfl | exact Or.inr (Or.inl rfl) | exact Or.inr (Or.inr rfl)) (hd : (sf == ("__debug__" : Str)) = false := by decide) (hcd : (sf == ("__classdict__" : Str)) = false := by decide)
    (hst : starEach (a1 :: es) X.env = (false, eval a1 X.env) :: starEach es X.env := by rfl) (hpl : (backTo p2 (starEach es X.env)).any (·.1) = false := by rfl)
    (ht : eval (.Call (.Attribute (.Name sf p1) m apos) (a1 :: es) [] p2) X.env = (do
      let ov ← eval (.Name sf p1) X.env
      standAt apos.atName
      let (f, first) ← holding [ov] (getMethod ov m pl)
      callWith p2 f first (backTo p2 (starEach (a1 :: es) X.env)) (backToKw p2 (keywordEach [] X.env))) := by rfl) (hs : swapsWith (.Call (.Attribute (.Name sf p1) m apos) (a1 :: es) [] p2) none pos.line X.env = pure false := by rfl) :
    XCt X C J Γ Λ FF (.Expr (.Call (.Attribute (.Name sf p1) m apos) (a1 :: es) [] p2) pos :: rest) (fun P => F z fun b => N b P) FF' := by
  obtain ⟨f, fd, g1, g3, g4⟩ := G
  obtain ⟨t, pa, qa⟩ := ha
  refine ⟨_, pss_cons (ps_expr (pe_meth (pe_var hN hv hd hcd) c g1 g4 (hr.mono hj) g3 .nil pass0 pa hst hpl ht) hs) (pss_ex fun x => (Classical.choose_spec (hrest x)).1), fun σ p H0 Hc0 Hb fs H jj kI hs' g l hf P D mm hh => ?_⟩
  obtain ⟨dx, hp⟩ := kI.me
  obtain ⟨f1, f2⟩ := ff _ _ hf
  refine ⟨_, hs', p, dx, fs, rfl, hp, f2, ?_⟩
  obtain ⟨ws, e1, e2⟩ := hRK σ _ _ _ g l
  refine qa σ H _ ws e1 ?_
  rw [List.append_nil]
  refine ⟨p, H0, Hc0, Hb, fs, ws, z, _, rfl, kI, e2, f1, mm, fun b fs' H' nb k' f' oo => ⟨b, ?_⟩⟩
  have enw : Ex (nwH H0 Hc0 H) (nwH H0 Hc0 H') := fun b o h => by
    cases zz : H0 b with
    | none =>
      rw [nw_new zz] at h ⊢
      exact oo b o (fun w => by rw [w] at zz; exact kI.p0 zz) h
    | some u =>
      have q : H0 b ≠ none := by rw [zz]; simp
      rw [nw_old q] at h ⊢; exact h
  exact (Classical.choose_spec (hrest b)).2 σ p H0 Hc0 Hb fs' H' jj k' hs' (clu_up cg enw g) l f' P D nb fun s fs2 H2 ps k2 f2 o2 => hh s fs2 H2 ps k2 f2 fun b o n h => o2 b o n (oo b o n h)
theorem xk_end {FF0 : S → Hp → List (Str × V) → Prop} : XCt X C J Γ Λ FF [] (fun P : Unit → Prop => P ()) (fun _ => FF) := xk_nil () fun _ _ h => h
end
section
variable {P : Program} {w : World} {K : PySem.W.Frag} {mg : Str → Option Value} {base : Heap} {x qual : Str} {st : Stmt} {f : Addr} {fd : FuncData} {N ps : List Str} {k n : Nat} {τ β : Type}
/-- __init__ from its body -/
theorem fn_K {C : Addr} {RJ : Hp → Hp → List V → τ → Prop} {F : τ → Mp β} {r : RT β} {S : τ → Type} {M : (z : τ) → (S z → Prop) → Prop} {Γ Λ : τ → List SP} {FF' : (z : τ) → S z → Hp → List (Str × V) → Prop} (g : (z : τ) → S z → β) (Fn : Fun K x qual st f fd) (Sc : FnScope N ps (defScope st)) (hlen : ∀ Hc Hb ws z, RJ Hc Hb ws z → ws.length + 1 = ps.length) (hn : N.length = ps.length + n)
    (hΓ : ∀ Hc Hb ws z, RJ Hc Hb ws z → Ex Hc Hb → ∀ p B, SatL 0 (Γ z) (some (.ref p) :: ws.map some) ⟨Hc, B, fun _ => none, B⟩ ∧ SatL 0 (Λ z) (some (.ref p) :: ws.map some) ⟨Hb, Hb, fun _ => none, Hb⟩)
    (hbody : ∀ (cdv : Value) (A : Around) (outer : List Env) (s : Shared) (H : Hp) (E : XK), Room k (A.deeper (envOfC qual (defScope st) s.heap.objs.size f cdv)) → ∀ z, XCt (cxOf CX0 P w K mg base N qual (defScope st) f cdv A outer s H E).nox C (fun _ _ => True) (Γ z ++ List.replicate n .unk) (Λ z ++ List.replicate n .unk) (fun _ fs => fs = []) (defBody st) (M z) (FF' z))
    (hM : ∀ z P, F z P → M z fun s => P (g z s)) (cG : ∀ z, clus (Γ z))
    (hFF : ∀ z s Hc fs p dx, FF' z s Hc fs → Hc p = some (.ins C dx fs) → r.ok Hc (.ref p) (g z s)) (hmono : ∀ z s Hc Hc' fs, Ex Hc Hc' → FF' z s Hc fs → FF' z s Hc' fs) : FnOk P w K mg base CX0 (k + 1) f fd ps (spJ C RJ F r) := by
  refine Fn.ok Sc (fun vs H Q E h => ?_) fun cdv A outer s H vs Q E hr hh => ?_
  · obtain ⟨p, dx, ws, z, W, Hb, P', rfl, _, _, _, _, _, _, _, _, _, _, _, hj, _⟩ := h
    rw [List.length_cons]; exact hlen _ _ _ _ hj
  · obtain ⟨p, dx, ws, z, W, Hb, P', rfl, rfl, hB, kW, hO, ndx, hp, hdx, cb, bH, bp, bdx, hj, m, q⟩ := hh
    obtain ⟨t, pt, qq⟩ := hbody cdv A outer s W.H E hr z
    obtain ⟨h1, h2⟩ := hΓ _ _ _ _ hj cb p W.H
    have kI : KI C p W.H W.Hc Hb [] W.H := ⟨cb, bH, bp, fun _ _ _ h => h, ⟨dx, hp⟩, by rw [hp]; simp⟩
    have eN : nwH W.H W.Hc W.H = W.Hc := by
      funext b
      cases z : W.H b with
      | none => rw [nw_new z, z, kW.none_of z]
      | some u => rw [nw_old (by rw [z]; simp)]
    have hl := hlen _ _ _ _ hj
    have lG : (Γ z).length = ps.length := by rw [← SatL.len h1, List.length_cons, List.length_map]; exact hl
    have lL : (Λ z).length = ps.length := by rw [← SatL.len h2, List.length_cons, List.length_map]; exact hl
    refine ⟨t, pt, qq (L2.start N (.ref p :: ws)) p W.H W.Hc Hb [] W.H trivial kI ?_ (by rw [eN]; exact start_sat (vs := .ref p :: ws) (Γ := Γ z) h1 (by rw [lG]; exact hn)) (start_sat (vs := .ref p :: ws) (Γ := Λ z) h2 (by rw [lL]; exact hn)) rfl _ _ (hM z P' m) fun sx fs' H' ps' k' f' oo => ?_⟩
    · unfold L2.start; rfl
    · obtain ⟨dx', hp'⟩ := k'.me
      have hcp : W.Hc p = none := (kW.own p 0 (by rw [hO, if_pos rfl])).1
      refine q (g z sx) ⟨upd (nwH W.H W.Hc H') p (.ins C dx' fs'), H', fun _ => none, W.B⟩ ps' ⟨fun b o e => ?_, (by intro a i e; cases e), kW.basTo (fun _ q => k'.dom q) (fun b o _ n q => oo b o (fun z => by rw [z, hO, if_pos rfl] at n; cases n) q) fun b e _ => by
        rw [hO, if_neg fun z => e (by rw [z]; exact hB.1), if_neg fun z => e (by rw [z]; exact hB.2)]⟩ ⟨fun b o e n => ?_, fun b e => k'.dom e, fun b o e => ?_, fun b e n => ⟨?_, rfl⟩, rfl⟩ (hFF z sx _ fs' p dx' (hmono _ _ _ _ _ ?_ f') upd_same)
      · have e : upd (nwH W.H W.Hc H') p (.ins C dx' fs') b = some o := e
        show H' b = some o
        by_cases z : b = p
        · subst z; rw [upd_same] at e; rw [hp']; exact e
        · rw [upd_ne z] at e; exact k'.nwx b o e
      · exact oo b o (fun z => by rw [z, hO, if_pos rfl] at n; cases n) e
      · show upd (nwH W.H W.Hc H') p _ b = some o
        rw [upd_ne (fun z => by rw [z, hcp] at e; cases e), nw_old (ne_none_of (kW.ex b o e))]; exact e
      · show upd (nwH W.H W.Hc H') p _ b = W.Hc b
        rw [upd_ne (fun z => by rw [z, hO, if_pos rfl] at n; cases n), nw_old e]
      · intro b o e
        show upd (nwH W.H W.Hc H') p (.ins C dx' fs') b = some o
        rw [upd_ne (fun z => by rw [z, k'.nwp] at e; cases e)]; exact e
/-- a method that fills on -/
theorem fn_KB {C : Addr} {RK : Hp → Hp → List V → τ → Prop} {FF : τ → Hp → List (Str × V) → Prop} {F : τ → Mp β} {FF' : τ → β → Hp → List (Str × V) → Prop} {M : (z : τ) → (β → Prop) → Prop} {Γ Λ : τ → List SP} (Fn : Fun K x qual st f fd) (Sc : FnScope N ps (defScope st)) (hlen : ∀ Hc Hb ws z, RK Hc Hb ws z → ws.length + 1 = ps.length) (hn : N.length = ps.length + n)
    (hΓ : ∀ Hc Hb ws z, RK Hc Hb ws z → ∀ p B, SatL 0 (Γ z) (some (.ref p) :: ws.map some) ⟨Hc, B, fun _ => none, B⟩ ∧ SatL 0 (Λ z) (some (.ref p) :: ws.map some) ⟨Hb, Hb, fun _ => none, Hb⟩)
    (hbody : ∀ (cdv : Value) (A : Around) (outer : List Env) (s : Shared) (H : Hp) (E : XK), Room k (A.deeper (envOfC qual (defScope st) s.heap.objs.size f cdv)) → ∀ z, XCt (cxOf CX0 P w K mg base N qual (defScope st) f cdv A outer s H E).nox C (fun _ _ => True) (Γ z ++ List.replicate n .unk) (Λ z ++ List.replicate n .unk) (FF z) (defBody st) (M z) (FF' z))
    (hM : ∀ z P, F z P → M z P) : FnOk P w K mg base CX0 (k + 1) f fd ps (spK C RK FF F FF') := by
  refine Fn.ok Sc (fun vs H Q E h => ?_) fun cdv A outer s H vs Q E hr hh => ?_
  · obtain ⟨p, H0, Hc0, Hb, fs, ws, z, P', rfl, _, hj, _⟩ := h
    rw [List.length_cons]; exact hlen _ _ _ _ hj
  · obtain ⟨p, H0, Hc0, Hb, fs, ws, z, P', rfl, kI, hj, hf, m, q⟩ := hh
    obtain ⟨t, pt, qq⟩ := hbody cdv A outer s H E hr z
    obtain ⟨h1, h2⟩ := hΓ _ _ _ _ hj p H
    have hl := hlen _ _ _ _ hj
    have lG : (Γ z).length = ps.length := by rw [← SatL.len h1, List.length_cons, List.length_map]; exact hl
    have lL : (Λ z).length = ps.length := by rw [← SatL.len h2, List.length_cons, List.length_map]; exact hl
    exact ⟨t, pt, qq (L2.start N (.ref p :: ws)) p H0 Hc0 Hb fs H trivial kI (by unfold L2.start; rfl) (start_sat (vs := .ref p :: ws) (Γ := Γ z) h1 (by rw [lG]; exact hn)) (start_sat (vs := .ref p :: ws) (Γ := Λ z) h2 (by rw [lL]; exact hn)) hf _ _ (hM z P' m) fun sx fs' H' ps' k' f' oo => q sx fs' H' ps' k' f' oo⟩
end
/-! ### comprehensions without chance -/
theorem lcW_map {α β : Type} {g : α → β} : ∀ {xs : List α} {acc : List β} {k : List β → Prop}, lcW xs (fun x nx => nx (some (g x))) acc k ↔ k (acc ++ xs.map g)
  | [], acc, k => by simp [lcW]
  | x :: xs, acc, k => by
    show lcW xs _ (acc ++ [g x]) k ↔ _
    rw [lcW_map]; simp
theorem lcW_mono {α β : Type} {f : α → (Option β → Prop) → Prop} (hf : ∀ x P Q, (∀ o, P o → Q o) → f x P → f x Q) : ∀ {xs : List α} {acc : List β} {k k' : List β → Prop}, (∀ l, k l → k' l) → lcW xs f acc k → lcW xs f acc k'
  | [], acc, k, k', h, q => h _ q
  | x :: xs, acc, k, k', h, q => hf x _ _ (fun o => by
    cases o with
    | none => exact lcW_mono hf h
    | some y => exact lcW_mono hf h) q
theorem lcW_filter {α β : Type} {c : α → Bool} {g : α → β} : ∀ {xs : List α} {acc : List β} {k : List β → Prop}, lcW xs (fun x nx => if c x = true then nx (some (g x)) else nx none) acc k ↔ k (acc ++ (xs.filter c).map g)
  | [], acc, k => by simp [lcW]
  | x :: xs, acc, k => by
    show (if c x = true then _ else _) ↔ _
    by_cases h : c x = true
    · rw [if_pos h, List.filter_cons_of_pos h]
      show lcW xs _ (acc ++ [g x]) k ↔ _
      rw [lcW_filter]; simp
    · rw [if_neg h, List.filter_cons_of_neg h]
      show lcW xs _ acc k ↔ _
      rw [lcW_filter]
end TM
set_option Elab.async false
set_option linter.all false
set_option maxRecDepth 100000
namespace TM
open PySem PySem.Spec PyProof.Rows L2
section
variable {X : Cx} {Γ Δ : List SP} {α β γ δ τ S S' B R : Type} {e a b c tg iter elt o : Expr} {es : List Expr} {pos : Pos} {st : Stmt} {sts rest body : List Stmt}
variable {Γn : S → List SP} {Γb : B → List SP} {RR : R → V → Wd → Prop}
/-! ### the box, opened -/
theorem xs_retG {M : Mp R} {r : RT R} (h : XP X Γ e M r) (hR : ∀ x v (σ : St) (W : Wd), W.Ok → Sat Γ σ W → r.ok W.Hc v x → RR x v W) : XS X Γ [.Return (some e) pos] (fun κ : Kn S B R => M κ.rt) Γn Γb RR := by
  obtain ⟨t, p, q⟩ := h
  exact ⟨_, pss_one (ps_ret p), fun σ W k g κ D m _ _ _ h1 => q σ W k g _ _ m fun x v W' m' k' s' g' r' => h1 x v W' m' k' s' (hR x v σ W' k' g' r')⟩
/-- the box's two numbers are named -/
theorem xs_open (i : Nat) {ad : Addr} {M : Int → Int → Kn S B R → Prop} (h : look Γ i = .bx ad) (hr : ∀ x y : Int, XS X (Γ.set i (.ownA ad rInt [x, y])) sts (M x y) Γn Γb RR) : XS X Γ sts (fun κ => ∀ x y : Int, x.natAbs < 2 ^ boxBits → 0 ≤ y → y < 2147483647 → M x y κ) Γn Γb RR := by
  refine ⟨_, pss_ex fun x => pss_ex fun y => (Classical.choose_spec (hr x y)).1, fun σ W k g κ D m h1 h2 h3 h4 => ?_⟩
  obtain ⟨o, eo, e1, e2, x, y, e3, b1, b2, b3⟩ := g.look h (by simp)
  refine ⟨x, y, (Classical.choose_spec (hr x y)).2 σ W k ?_ κ D (m x y b1 b2 b3) h1 h2 h3 h4⟩
  have := SatL.set (i := i) (p := .ownA ad rInt [x, y]) (o := o) (W' := W) g (fun k o' n _ z => z) (by rw [Nat.zero_add]; exact ⟨_, e1, e2, e3, .cons rfl (.cons rfl .nil)⟩)
  have es : σ.set i o = σ := by
    apply List.ext_getElem?
    intro n
    by_cases z : i = n
    · subst z
      rw [List.getElem?_set_self' , eo]; rfl
    · rw [List.getElem?_set_ne z]
  rw [es] at this
  exact this
/-- xs[e] = v, xs at a known place; v may change what is one's own -/
theorem xt_setIA (i : Nat) {x : Str} {p1 p2 : Pos} {ad : Addr} {r : RT α} {M : (α → S → Prop) → Prop} {N : Mp Int} {Γv : S → List SP} {xs : S → List α} (hv : XQ X Γ b M r Γv) (h : ∀ s, look (Γv s) i = .ownA ad r (xs s)) (he : ∀ s, XP X (Γv s) e N rInt) (hN : X.N[i]? = some x := by rfl) (hvi : Vis X.env.scope x := by first | exact Or.inl rfl | exact Or.inr (Or.inl rfl) | exact Or.inr (Or.inr rfl)) (hd : (x == ("__debug__" : Str)) = false := by decide) (hcd : (x == ("__classdict__" : Str)) = false := by decide)
    (hs : swapsWithSole [.Subscript (.Name x p1) e p2] b pos.line X.env = pure false := by rfl) (hw : swappedStores [.Subscript (.Name x p1) e p2] b X.env = pure none := by rfl) (h1 : (assignEach [.Subscript (.Name x p1) e p2] X.env).map (·.2) = [assign (.Subscript (.Name x p1) e p2) X.env] := by rfl)
    (ha : ∀ v, assign (.Subscript (.Name x p1) e p2) X.env v = (do
      let ov ← holding [v] (eval (.Name x p1) X.env)
      let iv ← holding [v, ov] (eval e X.env)
      standAt p2
      holding [v, ov, iv] (setItem ov iv v)
      release [v, ov, iv] []) := by intro _; rfl) :
    XSt X Γ (.Assign [.Subscript (.Name x p1) e p2] b pos) (fun κ : Kn (S × List α) B R => M fun y s => N fun k => ∃ j, ixN (xs s).length k = some j ∧ κ.nx (s, (xs s).set j y)) (fun z => (Γv z.1).set i (.ownA ad r z.2)) Γb RR := by
  obtain ⟨t1, q1, w1⟩ := hv
  have pe2 : PE X e (fun σ H Q => ∃ s, Classical.choose (he s) σ H Q) := ⟨fun pins s σ H Q I ⟨s1, w⟩ => (Classical.choose_spec (he s1)).1.run pins s σ H Q I w⟩
  refine ⟨_, ps_asg q1 (pg_sub (pe_var hN hvi hd hcd) pe2 set_list ha) hs hw h1, fun σ W k g κ D m hn _ _ _ => ?_⟩
  refine w1 σ W k g _ _ m fun y s v W1 m1 k1 s1 g1 r1 => ?_
  obtain ⟨o, eo, vs, rfl, ho, hh, pr⟩ := g1.look (h s) (by simp)
  refine ⟨.ref ad, eo, s, (Classical.choose_spec (he s)).2 σ W1 k1 g1 _ _ m1 fun z w W2 ⟨j, hj, m2⟩ k2 s2 g2 r2 => ?_⟩
  obtain ⟨o', eo', vs', rfl, ho', hh', pr'⟩ := g2.look (h s) (by simp)
  refine ⟨ad, vs', z, j, rfl, r2, hh', by rw [pr'.length]; exact hj, ?_⟩
  have prs : ∀ {vs : List V} {xs : List α} {j : Nat}, Paired (r.ok W2.Hc) vs xs → Paired (r.ok W2.Hc) (vs.set j v) (xs.set j y) := by
    intro vs xs j p
    induction p generalizing j with
    | nil => exact .nil
    | cons h t ih => cases j with
      | zero => exact .cons (r.mono s2.hc r1) t
      | succ j => exact .cons h ih
  exact hn (s, _) σ (W2.mut ad (.lst (vs'.set j v))) m2 (k2.mut ho') ((s1.trans s2).trans (step_mut ho')) (g2.mut ho' eo ⟨_, rfl, ho', upd_same, prs pr'⟩)
theorem xp_ixA (i : Nat) {x : Str} {p1 : Pos} {ad : Addr} {r : RT α} {xs : List α} {N : Mp Int} (h : look Γ i = .ownA ad r xs) (hb : XP X Γ b N rInt) (hN : X.N[i]? = some x := by rfl) (hv : Vis X.env.scope x := by first | exact Or.inl rfl | exact Or.inr (Or.inl rfl) | exact Or.inr (Or.inr rfl)) (hd : (x == ("__debug__" : Str)) = false := by decide) (hcd : (x == ("__classdict__" : Str)) = false := by decide) (hs : PlainIx b := by exact fun _ _ => rfl) : XP X Γ (.Subscript (.Name x p1) b pos) (fun P => N fun k => ∃ y, atI xs k = some y ∧ P y) r := xp_ixL (xb_ownA i h hN hv hd hcd) hb hs
end
/-- the promise of the law's next number: a box's second number moves on -/
def spMore : Sp := fun vs H Q _ => ∃ (a : Addr) (x y : Int) (W : Wd), vs = [.ref a] ∧ W.H = H ∧ W.B = H ∧ W.Ok ∧ (∀ b, W.O b = if b = a then some 0 else none) ∧ W.H a = some (.lst [.int x, .int y]) ∧ 0 ≤ y ∧ y < 2147483647 ∧
  ∀ (n y' : Int) W', 0 ≤ n → n < 65521 ^ 12 → 0 ≤ y' → y' < 2147483647 → W'.Ok → Step W W' → W'.O a = some 0 → W'.H a = some (.lst [.int x, .int y']) → Q (.int n) W'.H
section
variable {X : Cx} {Γ : List SP} {es : List Expr} {pos : Pos}
/-- more(box) -/
theorem xq_more (i : Nat) {ad : Addr} {nm : Str} {k j : Nat} {ps : List Str} {x : Str} {p pn : Pos} {xx yy : Int} (hi : look Γ i = .ownA ad rInt [xx, yy]) (G : Glob X.prog X.w X.K X.mg X.base x k ps spMore) (hr : Room j X.A) (hj : k ≤ j)
    (hN : X.N[i]? = some nm := by rfl) (hv : Vis X.env.scope nm := by first | exact Or.inl rfl | exact Or.inr (Or.inl rfl) | exact Or.inr (Or.inr rfl)) (hd : (nm == ("__debug__" : Str)) = false := by decide) (hcd : (nm == ("__classdict__" : Str)) = false := by decide)
    (hg : Gl X x := by rfl) (hdb : (x == ("__debug__" : Str)) = false := by decide) (he : starEach [.Name nm pn] X.env = (false, eval (.Name nm pn) X.env) :: starEach [] X.env := by rfl) (hpl : (backTo pos (starEach [] X.env)).any (·.1) = false := by rfl) :
    XQ X Γ (.Call (.Name x p) [.Name nm pn] [] pos) (fun P => (0 ≤ yy ∧ yy < 2147483647) ∧ ∀ n y' : Int, 0 ≤ n → n < 65521 ^ 12 → 0 ≤ y' → y' < 2147483647 → P n y') rInt (fun y' : Int => Γ.set i (.ownA ad rInt [xx, y'])) := by
  obtain ⟨f, fd, g1, g2, g3, g4⟩ := G
  refine ⟨_, pe_call g4 (hr.mono hj) hg g1 g2 g3 .nil pass0 (pa_cons (pe_var hN hv hd hcd) pa_nil he) hdb he hpl, fun σ W k g Q P ⟨⟨h0, h1⟩, m⟩ h => ?_⟩
  obtain ⟨o, eo, vs, rfl, ho, hh, pr⟩ := g.look hi (by simp)
  have evs : vs = [.int xx, .int yy] := by
    have := fInt.vs pr
    exact this
  subst evs
  refine ⟨.ref ad, eo, ?_⟩
  show spMore ([V.ref ad] ++ []) W.H Q E0
  refine ⟨ad, xx, yy, ⟨W.Hc, W.H, fun b => if b = ad then some 0 else none, W.H⟩, rfl, rfl, rfl, ⟨k.ex, fun b j q => ?_, bas_self⟩, fun _ => rfl, hh, h0, h1, fun n y' W' n0 n1 y0 y1 k' s' o' hh' => ?_⟩
  · have q : (if b = ad then some 0 else none) = some j := q
    by_cases z : b = ad
    · rw [z]; exact k.own ad i ho
    · rw [if_neg z] at q; cases q
  · have kp : ∀ b o, W.H b = some o → b ≠ ad → W'.H b = some o := fun b o q z => s'.keep b o q (if_neg z)
    have od : ∀ b, W.H b ≠ none → b ≠ ad → W'.Hc b = W.Hc b := fun b q z => (s'.old b q (if_neg z)).1
    have na : W'.Hc ad = none := (k'.own ad 0 o').1
    have k2 : Wd.Ok ⟨W'.Hc, W'.H, W.O, W.B⟩ := ⟨k'.ex, fun b j q => by
      obtain ⟨m1, m2⟩ := k.own b j q
      by_cases z : b = ad
      · rw [z]; exact ⟨na, s'.dom ad (k.own ad i ho).2⟩
      · exact ⟨(od b m2 z).trans m1, s'.dom b m2⟩, k.basTo s'.dom (fun b o _ n q => kp b o q fun z => by rw [z, ho] at n; cases n) fun _ _ n => n⟩
    have st : Step W ⟨W'.Hc, W'.H, W.O, W.B⟩ := ⟨fun b o q w => kp b o q (fun z => by rw [z, ho] at w; cases w), s'.dom, s'.hc, fun b q w => ⟨od b q (fun z => by rw [z, ho] at w; cases w), w⟩, rfl⟩
    refine h n y' (.int n) ⟨W'.Hc, W'.H, W.O, W.B⟩ (m n y' n0 n1 y0 y1) k2 st ?_ rfl
    have := SatL.set (i := i) (p := .ownA ad rInt [xx, y']) (o := some (.ref ad)) (W' := ⟨W'.Hc, W'.H, W.O, W.B⟩) g (fun kk o' nn ee z => by
      rw [Nat.zero_add] at z ⊢
      have ne : ∀ b, W.O b = some kk → b ≠ ad := fun b q w => by
        rw [w, ho] at q
        exact nn (Option.some.inj q).symm
      exact z.kp ⟨s'.hc, fun b q => ⟨q, by
        obtain ⟨u, w⟩ := of_ne_none (k.own b kk q).2
        rw [w]; exact kp b u w (ne b q)⟩, rfl, fun _ _ q => q⟩) (by rw [Nat.zero_add]; exact ⟨_, rfl, ho, hh', .cons rfl (.cons rfl .nil)⟩)
    have es : σ.set i (some (V.ref ad)) = σ := by
      apply List.ext_getElem?
      intro n
      by_cases z : i = n
      · subst z
        rw [List.getElem?_set_self', eo]; rfl
      · rw [List.getElem?_set_ne z]
    rw [es] at this
    exact this
end

theorem divs_ok {i j : Int} (h0 : 0 < j) (h1 : j < 2 ^ 120) : CDivP i j := by
  refine ⟨h0, ?_⟩
  show (decide ((if j == 0 then 0 else j.natAbs.log2 / 30 + 1) > 300) && _) = false
  have : j.natAbs.log2 < 120 := (Nat.log2_lt (by omega)).mpr (by omega)
  have k : ¬ ((if (j == 0) = true then 0 else j.natAbs.log2 / 30 + 1) > 300) := by
    split
    · omega
    · omega
  rw [decide_eq_false k, Bool.false_and]
theorem CDiv7 (i : Int) : CDiv i 7 := ⟨by decide, by decide⟩
section
variable {X : Cx} {Γ : List SP} {S B R δ : Type} {e : Expr} {pos : Pos} {Γn : S → List SP} {Γb : B → List SP} {RR : R → V → Wd → Prop}
theorem xs_retL (i : Nat) {ad : Addr} {L : List Int} {M : Mp R} {r : RT R} (G : List Int → Prop) (hl : look Γ i = .ownA ad rInt L) (h : XP X Γ e M r) (hR : ∀ x v W, r.ok W.Hc v x → W.O ad = some i → W.H ad = some (.lst (L.map V.int)) → G L → RR x v W) : XS X Γ [.Return (some e) pos] (fun κ : Kn S B R => G L ∧ M κ.rt) Γn Γb RR := by
  obtain ⟨t, p, q⟩ := h
  refine ⟨_, pss_one (ps_ret p), fun σ W k g κ D ⟨m0, m⟩ _ _ _ h1 => q σ W k g _ _ m fun x v W' m' k' s' g' r' => ?_⟩
  obtain ⟨o, eo, vs, rfl, ho, hh, pr⟩ := g'.look hl (by simp)
  exact h1 x v W' m' k' s' (hR x v W' r' ho (by rw [hh, fInt.vs pr]; rfl) m0)
end
/-! ### plain words on loops -/
theorem forW_inv {α S : Type} {f : α → S → (S → Prop) → Prop} (I : Nat → S → Prop) : ∀ {xs : List α} {j : Nat} {s : S} {k : S → Prop}, I j s → (∀ i x s nx, xs[i]? = some x → I (j + i) s → (∀ s', I (j + i + 1) s' → nx s') → f x s nx) → (∀ s, I (j + xs.length) s → k s) → forW xs s f k
  | [], j, s, k, h, _, q => q s h
  | x :: xs, j, s, k, h, hf, q => by
    refine hf 0 x s _ rfl h fun s' h' => ?_
    refine forW_inv I (j := j + 1) h' (fun i y s nx e hi hn => ?_) fun s hs => q s ?_
    · refine hf (i + 1) y s nx (by simpa using e) (by rw [show j + (i + 1) = j + 1 + i by omega]; exact hi) fun s' h2 => hn s' ?_
      rw [show j + 1 + i + 1 = j + (i + 1) + 1 by omega]; exact h2
    · rw [List.length_cons, show j + (xs.length + 1) = j + 1 + xs.length by omega]; exact hs
theorem lcW_inv {α β : Type} {f : α → (Option β → Prop) → Prop} (I : List β → Prop) : ∀ {xs : List α} {acc : List β} {k : List β → Prop}, I acc → (∀ x acc nx, x ∈ xs → I acc → (nx none ∨ True → ∀ o, (∀ y, o = some y → I (acc ++ [y])) → nx o) → f x nx) → (∀ l, I l → k l) → lcW xs f acc k
  | [], acc, k, h, _, q => q _ h
  | x :: xs, acc, k, h, hf, q => by
    refine hf x acc _ List.mem_cons_self h fun _ o ho => ?_
    cases o with
    | none => exact lcW_inv I h (fun y a nx m => hf y a nx (List.mem_cons_of_mem _ m)) q
    | some y => exact lcW_inv I (ho y rfl) (fun y a nx m => hf y a nx (List.mem_cons_of_mem _ m)) q
/-- the law's next number -/
theorem more_plain {x y : Int} {k : Int × List Int → Prop} (y0 : 0 ≤ y) (y1 : y < 2147483647) (h : ∀ n y' : Int, 0 ≤ n → n < 65521 ^ 12 → 0 ≤ y' → y' < 2147483647 → k (n, [x, y'])) :
    forW (rangeL 0 (12 : Int).toNat) ((0 : Int), [x, y]) (fun _ s nx => ∃ y1, atI s.2 1 = some y1 ∧ CMulX y1 48271 ∧ (0 : Int) < 2147483647 ∧ ∃ j, ixN s.2.length 1 = some j ∧
      (CMulX s.1 65521 ∧ ∃ y2, atI (s.2.set j ((y1 * 48271 + 30269) % 2147483647)) 1 = some y2 ∧ CDiv y2 7 ∧ (0 : Int) < 65521 ∧ nx (s.1 * 65521 + y2 / 7 % 65521, s.2.set j ((y1 * 48271 + 30269) % 2147483647)))) k := by
  refine forW_inv (I := fun j s => 0 ≤ s.1 ∧ s.1 < 65521 ^ j ∧ j ≤ 12 ∧ ∃ y', s.2 = [x, y'] ∧ 0 ≤ y' ∧ y' < 2147483647) (j := 0) ⟨Int.le_refl 0, (by show (0 : Int) < 65521 ^ 0; decide), by decide, y, rfl, y0, y1⟩ ?_ ?_
  · rintro i v ⟨n, l⟩ nx hi ⟨n0, n1, hj, y', rfl, a0, a1⟩ hn
    have hi12 : i < 12 := by
      have := (List.getElem?_eq_some_iff.mp hi).1
      rw [rangeL_len] at this; exact this
    refine ⟨y', rfl, mulx_ok (a := 31) (b := 17) (by omega) (by decide) (by decide), by decide, 1, rfl, ?_⟩
    have nb : n.natAbs < 2 ^ 193 := by
      have h12 : (65521 : Int) ^ (0 + i) ≤ 65521 ^ 12 := (by decide +kernel : ∀ i : Fin 12, (65521 : Int) ^ (0 + i.val) ≤ 65521 ^ 12) ⟨i, hi12⟩
      have h13 : (65521 : Int) ^ 12 < 2 ^ 193 := by decide
      have : n < 2 ^ 193 := Int.lt_trans (Int.lt_of_lt_of_le n1 h12) h13
      omega
    refine ⟨mulx_ok (a := 193) (b := 17) nb (by decide) (by decide), (y' * 48271 + 30269) % 2147483647, rfl, CDiv7 _, by decide, hn _ ⟨?_, ?_, by omega, (y' * 48271 + 30269) % 2147483647, rfl, Int.emod_nonneg _ (by decide), Int.emod_lt_of_pos _ (by decide)⟩⟩
    · have := Int.emod_nonneg ((y' * 48271 + 30269) % 2147483647 / 7) (show (65521 : Int) ≠ 0 by decide)
      show 0 ≤ n * 65521 + _
      omega
    · have := Int.emod_lt_of_pos ((y' * 48271 + 30269) % 2147483647 / 7) (show (0 : Int) < 65521 by decide)
      show n * 65521 + _ < 65521 ^ (0 + i + 1)
      rw [Int.pow_succ]
      have n1 : n < 65521 ^ (0 + i) := n1
      generalize (65521 : Int) ^ (0 + i) = z at *
      omega
  · rintro ⟨n, l⟩ ⟨n0, n1, _, y', rfl, a0, a1⟩
    rw [rangeL_len] at n1
    exact h n y' n0 n1 a0 a1
end TM
namespace TM
open PySem PySem.Spec PyProof.Rows L2
/-- what take does, as the walk tells it -/
def takeM (n x y : Int) (k : Int → Prop) : Prop :=
  (fun P : Bool → Prop => ∃ b0, atI [x, y] 0 = some b0 ∧ if decide ((0 : Int) ≤ b0) = true then P (decide (b0 < n)) else P false) fun b => if b = true
    then (∃ b0, atI [x, y] 0 = some b0 ∧ ((0 ≤ y ∧ y < 2147483647) ∧ ∀ m y' : Int, 0 ≤ m → m < 65521 ^ 12 → 0 ≤ y' → y' < 2147483647 → CMulX n m ∧ ∃ j, ixN [x, y'].length 0 = some j ∧ takeN n ([x, y'].set j (b0 + n * m)) k)) else takeN n [x, y] k
where takeN (n : Int) (s : List Int) (k : Int → Prop) : Prop := ∃ b0, atI s 0 = some b0 ∧ CDivP b0 n ∧ ∃ j, ixN s.length 0 = some j ∧ (∃ x' y', s.set j (b0 / n) = [x', y'] ∧ x'.natAbs < 2 ^ boxBits ∧ 0 ≤ y' ∧ y' < 2147483647) ∧ k (b0 % n)
end TM
namespace TM
open PySem PySem.Spec PyProof.Rows L2
theorem div_small {x n : Int} (hn : 0 < n) : (x / n).natAbs ≤ x.natAbs := by
  by_cases h : 0 ≤ x
  · have a := Int.ediv_nonneg h (Int.le_of_lt hn)
    have b := Int.ediv_le_self n h
    omega
  · have a : x ≤ x / n := (Int.le_ediv_iff_mul_le hn).mpr (by
      have : x * n ≤ x * 1 := Int.mul_le_mul_of_nonpos_left (by omega) (by omega)
      omega)
    have b : x / n < 0 := Int.ediv_neg_of_neg_of_pos (by omega) hn
    omega
theorem takeN_plain {n x y : Int} {P : Int → Prop} (hx : x.natAbs < 2 ^ boxBits) (y0 : 0 ≤ y) (y1 : y < 2147483647) (n0 : 0 < n) (n1 : n ≤ 2 ^ 100) (h : ∀ d : Int, 0 ≤ d → d < n → P d) : takeM.takeN n [x, y] P :=
  ⟨x, rfl, divs_ok n0 (by omega), 0, rfl, ⟨x / n, y, rfl, Nat.lt_of_le_of_lt (div_small n0) hx, y0, y1⟩, h _ (Int.emod_nonneg _ (by omega)) (Int.emod_lt_of_pos _ n0)⟩
theorem take_plain {n x y : Int} {P : Int → Prop} (hx : x.natAbs < 2 ^ boxBits) (y0 : 0 ≤ y) (y1 : y < 2147483647) (n0 : 0 < n) (n1 : n ≤ 2 ^ 100) (h : ∀ d : Int, 0 ≤ d → d < n → P d) : takeM n x y P := by
  have big : ∀ m y' : Int, 0 ≤ x → x < n → 0 ≤ m → m < 65521 ^ 12 → 0 ≤ y' → y' < 2147483647 → CMulX n m ∧ ∃ j, ixN [x, y'].length 0 = some j ∧ takeM.takeN n ([x, y'].set j (x + n * m)) P := fun m y' x0 x1 m0 m1 a0 a1 => by
    have e : (65521 : Int) ^ 12 < 2 ^ 193 := by decide
    have m2 : m < 2 ^ 193 := Int.lt_trans m1 e
    refine ⟨mulx_ok (a := 101) (b := 193) (by omega) (by omega) (by decide), 0, rfl, takeN_plain ?_ a0 a1 n0 n1 h⟩
    have p1 : n * m ≤ 2 ^ 100 * m := Int.mul_le_mul_of_nonneg_right n1 m0
    have p0 : 0 ≤ n * m := Int.mul_nonneg (by omega) m0
    have p2 : (x + n * m).natAbs < 2 ^ 300 := by
      have : (2 : Int) ^ 193 * 2 ^ 100 + 2 ^ 100 < 2 ^ 300 := by decide
      generalize n * m = z at *
      have q1 : x + z < 2 ^ 300 := by omega
      omega
    exact Nat.lt_of_lt_of_le p2 (Nat.pow_le_pow_right (by decide) (by decide))
  unfold takeM
  refine ⟨x, rfl, ?_⟩
  by_cases h0 : 0 ≤ x
  · rw [if_pos (decide_eq_true h0)]
    by_cases h1 : x < n
    · show if decide (x < n) = true then _ else _
      rw [if_pos (decide_eq_true h1)]
      exact ⟨x, rfl, ⟨y0, y1⟩, fun m y' m0 m1 a0 a1 => big m y' h0 h1 m0 m1 a0 a1⟩
    · show if decide (x < n) = true then _ else _
      rw [if_neg (by simpa using h1)]
      exact takeN_plain hx y0 y1 n0 n1 h
  · rw [if_neg (by simpa using h0)]
    exact takeN_plain hx y0 y1 n0 n1 h
end TM
namespace TM
open PySem PySem.Spec PyProof.Rows L2
theorem fn_M {P : Program} {w : World} {K : PySem.W.Frag} {mg : Str → Option Value} {base : Heap} {x qual : Str} {st : Stmt} {f : Addr} {fd : FuncData} {N : List Str} {k n : Nat} {p0 : Str} {M : Addr → Int → Int → Kn Unit Unit Int → Prop} (Fn : Fun K x qual st f fd) (S : FnScope N [p0] (defScope st)) (hn : N.length = 1 + n)
    (hbody : ∀ (cdv : Value) (A : Around) (outer : List Env) (s : Shared) (H : Hp) (E : XK), Room k (A.deeper (envOfC qual (defScope st) s.heap.objs.size f cdv)) → ∀ a x y, XS (cxOf CX0 P w K mg base N qual (defScope st) f cdv A outer s H E).nox (.ownA a rInt [x, y] :: List.replicate n .unk) (defBody st) (M a x y) (fun _ : Unit => [.bot]) (fun _ : Unit => [.bot]) (fun n v W' => v = .int n ∧ W'.O a = some 0 ∧ ∃ y', W'.H a = some (.lst [.int x, .int y']) ∧ 0 ≤ y' ∧ y' < 2147483647))
    (hM : ∀ a (x y : Int), 0 ≤ y → y < 2147483647 → M a x y ⟨fun _ => False, fun _ => False, fun _ => False, fun n => 0 ≤ n ∧ n < 65521 ^ 12⟩) : FnOk P w K mg base CX0 (k + 1) f fd [p0] spMore := by
  refine Fn.ok S (fun vs H Q E h => ?_) fun cdv A outer s H vs Q E hr hh => ?_
  · obtain ⟨a, x, y, W, rfl, _⟩ := h
    rfl
  · obtain ⟨a, x, y, W, rfl, rfl, hB, kW, hO, hW, y0, y1, q⟩ := hh
    obtain ⟨t, pt, qq⟩ := hbody cdv A outer s W.H E hr a x y
    refine ⟨t, pt, qq (L2.start N [.ref a]) W kW (start_sat (vs := [.ref a]) (Γ := [.ownA a rInt [x, y]]) ⟨⟨_, rfl, by rw [hO]; exact if_pos rfl, hW, .cons rfl (.cons rfl .nil)⟩, trivial⟩ hn) _ _ (hM a x y y0 y1) (fun _ _ _ h => h.elim) (fun _ _ _ h => h.elim) (fun _ _ _ h => h.elim) fun n v W' hn k' s' hr' => ?_⟩
    obtain ⟨rfl, o, y', hh, a0, a1⟩ := hr'
    exact q n y' W' hn.1 hn.2 a0 a1 k' s' o hh
end TM
set_option Elab.async false
set_option linter.all false
set_option maxRecDepth 100000
namespace TM
open PySem PySem.Spec PyProof.Rows L2
/-! ### the names of the fields so far -/
def ffNil : Hp → List (Str × V) → Prop := fun _ fs => fs = []
structure FFn (FF : Hp → List (Str × V) → Prop) (f : Str) (n : Nat) : Prop where
  mono : ∀ {Hc Hc' fs}, Ex Hc Hc' → FF Hc fs → FF Hc' fs
  ne : ∀ {Hc fs}, FF Hc fs → ∀ e ∈ fs, e.1 ≠ f
  len : ∀ {Hc fs}, FF Hc fs → fs.length = n
theorem putF_new {f : Str} {v : V} : ∀ {fs : List (Str × V)}, (∀ e ∈ fs, e.1 ≠ f) → putF f v fs = fs ++ [(f, v)]
  | [], _ => rfl
  | (g, x) :: r, h => by
    show (if g = f then (g, v) :: r else (g, x) :: putF f v r) = _
    rw [if_neg (h (g, x) List.mem_cons_self), putF_new fun e m => h e (List.mem_cons_of_mem _ m)]; rfl
theorem FFn.ok {FF : Hp → List (Str × V) → Prop} {f : Str} {n : Nat} (h : FFn FF f n) (hn : n < 1000 := by decide) : FFok FF f := ⟨h.mono, fun v q => ⟨putF_new (h.ne q), by rw [h.len q]; exact hn⟩⟩
theorem ffn_nil {f : Str} : FFn ffNil f 0 where
  mono := fun _ h => h
  ne := fun {Hc fs} h e m => by
    have h : fs = [] := h
    subst h; cases m
  len := fun {Hc fs} h => by
    have h : fs = [] := h
    subst h; rfl
theorem ffn_add {α : Type} {FF : Hp → List (Str × V) → Prop} {f g : Str} {n : Nat} {r : RT α} {x : α} (h : FFn FF f n) (hg : g ≠ f) : FFn (ffAdd FF g r x) f (n + 1) where
  mono := fun e ⟨fs0, v, q1, q2, q3⟩ => ⟨fs0, v, q1, h.mono e q2, r.mono e q3⟩
  ne := fun ⟨fs0, v, q1, q2, q3⟩ e m => by
    subst q1
    rcases List.mem_append.mp m with m | m
    · exact h.ne q2 e m
    · rw [List.mem_singleton.mp m]; exact hg
  len := fun ⟨fs0, v, q1, q2, q3⟩ => by
    subst q1
    rw [List.length_append, h.len q2]; rfl
theorem ff_lookup {f : Str} {fs : List (Str × V)} (h : ∀ e ∈ fs, e.1 ≠ f) : fs.lookup f = none := by
  induction fs with
  | nil => rfl
  | cons a r ih =>
    obtain ⟨g, v⟩ := a
    rw [lk_past (by
      have := h (g, v) List.mem_cons_self
      simpa using fun z => this z.symm)]
    exact ih fun e m => h e (List.mem_cons_of_mem _ m)
end TM
set_option Elab.async false
set_option linter.all false
set_option maxRecDepth 100000
namespace TM
open PySem PySem.Spec PyProof.Rows L2
/-! ### all that stands, read as if it were clean -/
def bigS : SP → SP
  | .cl r x => .cl r x
  | .own r xs => .cl (rL r) xs
  | .ownA _ r xs => .cl (rL r) xs
  | .dp r x => .cl r x
  | _ => .unk
def bigL (Γ : List SP) : List SP := Γ.map bigS
def bigW (H : Hp) : Wd := ⟨H, H, fun _ => none, H⟩
theorem bigW_ok (H : Hp) : (bigW H).Ok := ⟨fun _ _ h => h, (by intro a i e; cases e), bas_self⟩
theorem sat_big {W : Wd} (k : W.Ok) : ∀ {Γ : List SP} {i : Nat} {σ : St}, SatL i Γ σ W → SatL i (bigL Γ) σ (bigW W.H)
  | [], _, [], _ => trivial
  | p :: ps, i, o :: σ, h => ⟨by
    obtain ⟨h1, _⟩ := h
    cases p with
    | unk => trivial
    | bot => exact h1.elim
    | cl r x => obtain ⟨v, q, w⟩ := h1; exact ⟨v, q, r.mono k.ex w⟩
    | own r xs => obtain ⟨a, vs, e, _, _, hh, pr⟩ := h1; exact ⟨_, e, a, vs, rfl, hh, pmap pr fun _ _ => r.mono k.ex⟩
    | ownA a r xs => obtain ⟨vs, e, _, hh, pr⟩ := h1; exact ⟨_, e, a, vs, rfl, hh, pmap pr fun _ _ => r.mono k.ex⟩
    | bx a => trivial
    | dp r x => obtain ⟨v, Hr, e, q, kk⟩ := h1; exact ⟨v, e, r.mono (fun b u z => (q b u z).2) kk⟩
    | gen g => trivial, sat_big k h.2⟩
theorem back_big {W : Wd} (k : W.Ok) {H' : Hp} (e : Ex W.H H') : Wd.Ok ⟨W.Hc, H', W.O, W.B⟩ ∧ Grow W ⟨W.Hc, H', W.O, W.B⟩ := by
  have dm : ∀ b, W.H b ≠ none → H' b ≠ none := fun b n => by
    obtain ⟨o, q⟩ := of_ne_none n
    exact ne_none_of (e b o q)
  exact ⟨⟨fun b o q => e b o (k.ex b o q), fun b i q => ⟨(k.own b i q).1, dm b (k.own b i q).2⟩, k.basTo dm (fun b o _ _ q => e b o q) fun _ _ n => n⟩, ⟨e, fun _ _ h => h, rfl, fun _ _ => rfl, rfl⟩⟩
section
variable {X : Cx} {Γ Δ : List SP} {α β γ δ τ S S' B R : Type} {e a b c tg iter elt o : Expr} {es : List Expr} {pos : Pos} {st : Stmt} {sts rest body : List Stmt}
variable {Γb : B → List SP} {RR : R → V → Wd → Prop}
theorem xt_big {M : Mp Bool} (h : XT X (bigL Γ) c M) : XT X Γ c M := by
  obtain ⟨t, p, q⟩ := h
  refine ⟨t, p, fun σ W k g Q P m hh => q σ _ (bigW_ok W.H) (sat_big k g) _ _ m fun x W' m' k' s' g' => ?_⟩
  obtain ⟨k2, gr⟩ := back_big k (KI.keepAll (W := bigW W.H) s' fun _ => rfl)
  exact hh x ⟨W.Hc, W'.H, W.O, W.B⟩ m' k2 gr.step (g.up (gr.up k))
theorem xp_big {M : Mp α} {r : RT α} (hf : ∀ H H' v x, r.ok H v x → r.ok H' v x) (h : XP X (bigL Γ) e M r) : XP X Γ e M r := by
  obtain ⟨t, p, q⟩ := h
  refine ⟨t, p, fun σ W k g Q P m hh => q σ _ (bigW_ok W.H) (sat_big k g) _ _ m fun x v W' m' k' s' g' r' => ?_⟩
  obtain ⟨k2, gr⟩ := back_big k (KI.keepAll (W := bigW W.H) s' fun _ => rfl)
  exact hh x v ⟨W.Hc, W'.H, W.O, W.B⟩ m' k2 gr.step (g.up (gr.up k)) (hf _ _ _ _ r')
theorem xt_exprB {M : Mp α} {r : RT α} (h : XP X (bigL Γ) e M r) (hs : swapsWith e none pos.line X.env = pure false := by rfl) : XSt X Γ (.Expr e pos) (fun κ : Kn Unit B R => M fun _ => κ.nx ()) (fun _ => Γ) Γb RR := by
  obtain ⟨t, p, q⟩ := h
  refine ⟨_, ps_expr p hs, fun σ W k g κ D m h1 _ _ _ => q σ _ (bigW_ok W.H) (sat_big k g) _ _ m fun x v W' m' k' s' g' r' => ?_⟩
  obtain ⟨k2, gr⟩ := back_big k (KI.keepAll (W := bigW W.H) s' fun _ => rfl)
  exact h1 () σ ⟨W.Hc, W'.H, W.O, W.B⟩ m' k2 gr.step (g.up (gr.up k))
/-! ### arguments: kept ones are clean, lent ones stand somewhere -/
def XM (X : Cx) (Γ : List SP) (es : List Expr) (M : Mp τ) (RJ : Hp → Hp → List V → τ → Prop) : Prop :=
  ∃ t, PA X es t ∧ ∀ (σ : St) (W : Wd), W.Ok → Sat Γ σ W → ∀ (Q : List V → Hp → Prop) (P : τ → Prop), M P → (∀ x vs H', P x → Ex W.H H' → RJ W.Hc H' vs x → Q vs H') → t σ W.H Q
def jNil : Hp → Hp → List V → Unit → Prop := fun _ _ vs _ => vs = []
def jKeep (r : RT α) (R : Hp → Hp → List V → τ → Prop) : Hp → Hp → List V → α × τ → Prop := fun Hc Hb vs x => ∃ v ws, vs = v :: ws ∧ r.ok Hc v x.1 ∧ R Hc Hb ws x.2
def jLend (r : RT α) (R : Hp → Hp → List V → τ → Prop) : Hp → Hp → List V → α × τ → Prop := fun Hc Hb vs x => ∃ v ws, vs = v :: ws ∧ r.ok Hb v x.1 ∧ R Hc Hb ws x.2
theorem xm_nil : XM X Γ [] (fun P => P ()) jNil := ⟨_, pa_nil, fun σ W k s Q P m h => h () [] W.H m (fun _ _ h => h) rfl⟩
theorem xm_keep (i : Nat) {x : Str} {pp : Pos} {r : RT α} {y : α} {N : Mp τ} {R : Hp → Hp → List V → τ → Prop} (hl : look Γ i = .cl r y) (hr : XM X Γ es N R) (hN : X.N[i]? = some x := by rfl) (hv : Vis X.env.scope x := by first | exact Or.inl rfl | exact Or.inr (Or.inl rfl) | exact Or.inr (Or.inr rfl)) (hd : (x == ("__debug__" : Str)) = false := by decide) (hcd : (x == ("__classdict__" : Str)) = false := by decide) (hs : starEach (.Name x pp :: es) X.env = (false, eval (.Name x pp) X.env) :: starEach es X.env := by rfl) :
    XM X Γ (.Name x pp :: es) (fun P => N fun z => P (y, z)) (jKeep r R) := by
  obtain ⟨t, p, q⟩ := hr
  refine ⟨_, pa_cons (pe_var hN hv hd hcd) p hs, fun σ W k g Q P m h => ?_⟩
  obtain ⟨o, eo, v, rfl, rv⟩ := g.look hl (by simp)
  exact ⟨v, eo, q σ W k g _ _ m fun z vs H' pz e rj => h (y, z) (v :: vs) H' pz e ⟨v, vs, rfl, rv, rj⟩⟩
theorem xm_lend {M : Mp α} {r : RT α} {N : Mp τ} {R : Hp → Hp → List V → τ → Prop} (ha : XP X (bigL Γ) e M r) (hr : XM X Γ es N R) (hs : starEach (e :: es) X.env = (false, eval e X.env) :: starEach es X.env := by rfl) :
    XM X Γ (e :: es) (fun P => M fun y => N fun z => P (y, z)) (jLend r R) := by
  obtain ⟨t1, p1, q1⟩ := ha
  obtain ⟨t, p, q⟩ := hr
  refine ⟨_, pa_cons p1 p hs, fun σ W k g Q P m h => ?_⟩
  refine q1 σ _ (bigW_ok W.H) (sat_big k g) _ _ m fun y v W' m' k' s' g' r' => ?_
  have e1 : Ex W.H W'.H := KI.keepAll (W := bigW W.H) s' fun _ => rfl
  obtain ⟨k2, gr⟩ := back_big k e1
  exact q σ ⟨W.Hc, W'.H, W.O, W.B⟩ k2 (g.up (gr.up k)) _ _ m' fun z vs H' pz e2 rj => h (y, z) (v :: vs) H' pz (fun b o q => e2 b o (e1 b o q)) ⟨v, vs, rfl, r.mono (fun b o q => e2 b o (k'.ex b o q)) r', rj⟩
/-- C(..) with lent arguments -/
theorem xg_makeL {C : Addr} {k j : Nat} {ps : List Str} {x : Str} {p : Pos} {R RJ : Hp → Hp → List V → τ → Prop} {F : τ → Mp β} {r : RT β} {M : Mp τ} (G : MakeJ X.prog X.w X.K X.mg X.base x C k ps (spJ C RJ F r)) (hR : ∀ Hc Hb vs x, R Hc Hb vs x → RJ Hc Hb vs x) (hr : Room j X.A) (hj : k + 1 ≤ j)
    (ha : XM X Γ (e :: es) M R) (hg : Gl X x := by rfl) (hdb : (x == ("__debug__" : Str)) = false := by decide) (he : starEach (e :: es) X.env = (false, eval e X.env) :: starEach es X.env := by rfl) (hpl : (backTo pos (starEach es X.env)).any (·.1) = false := by rfl) :
    XP X Γ (.Call (.Name x p) (e :: es) [] pos) (fun P => M fun y => F y P) r := by
  obtain ⟨hm, f, fd, Mc, hb, G⟩ := G
  obtain ⟨t, pp, q⟩ := ha
  refine ⟨_, pe_make Mc G (hr.mono hj) hg hm hb .nil pass0 pp hdb he hpl, fun σ W k s Q P m h => ?_⟩
  refine q σ W k s _ _ m fun y v H' m1 e1 r1 => ?_
  intro z dx nz ndx ne
  rw [List.append_nil]
  obtain ⟨k2, gr⟩ := back_big k e1
  exact makeJ_core (W1 := ⟨W.Hc, H', W.O, W.B⟩) (Hb := H') k2 k2.ex (fun _ _ h => h) (hR _ _ _ _ r1) m1 (fun b u W2 pb kk g2 r2 => h b (.ref u) W2 pb kk ((gr.step).trans g2.step) ((s.up (gr.up k)).up (g2.up k2)) r2) z dx nz ndx ne
def clnS : SP → SP
  | .cl r x => .cl r x
  | _ => .unk
def clnL (Γ : List SP) : List SP := Γ.map clnS
theorem sat_cln {W W' : Wd} (e : Ex W.Hc W'.Hc) : ∀ {Γ : List SP} {i : Nat} {σ : St}, SatL i Γ σ W → SatL i (clnL Γ) σ W'
  | [], _, [], _ => trivial
  | p :: ps, i, o :: σ, h => ⟨by
    obtain ⟨h1, _⟩ := h
    cases p with
    | cl r x => obtain ⟨v, q, w⟩ := h1; exact ⟨v, q, r.mono e w⟩
    | bot => exact h1.elim
    | _ => trivial, sat_cln e h.2⟩
/-! ### a new nest of lists becomes one's own -/
def nwB (H H' : Hp) : Hp := nwH H (fun _ => none) H'
theorem satD {σ : St} {W : Wd} {i : Nat} {H' : Hp} {v : V} {x : α} {r : RT α} (k : W.Ok) (g : Sat Γ σ W) (e : Ex W.H H') (hr : r.ok (nwB W.H H') v x) :
    ∃ W2, W2.H = H' ∧ W2.Hc = W.Hc ∧ W2.B = W.B ∧ (∀ b, W.H b ≠ none → W2.O b = W.O b) ∧ (∀ b, H' b = none → W2.O b = none) ∧ W2.Ok ∧ Step W W2 ∧ Sat (Γ.set i (.dp r x)) (σ.set i (some v)) W2 := by
  have nh : ∀ b u, nwB W.H H' b = some u → W.H b = none ∧ H' b = some u := fun b u q => by
    cases z : W.H b with
    | none =>
      have q : nwH W.H (fun _ => none) H' b = some u := q
      rw [nw_new z] at q; exact ⟨rfl, q⟩
    | some w =>
      have q : nwH W.H (fun _ => none) H' b = some u := q
      rw [nw_old (by rw [z]; simp)] at q; cases q
  have dm : ∀ b, W.H b ≠ none → H' b ≠ none := fun b n => by
    obtain ⟨o, q⟩ := of_ne_none n
    exact ne_none_of (e b o q)
  classical
  let O' : Addr → Option Nat := fun b => if W.H b = none ∧ H' b ≠ none then some i else W.O b
  have oo : ∀ b, W.H b ≠ none → O' b = W.O b := fun b n => if_neg fun z => n z.1
  have on : ∀ b, W.H b = none → H' b ≠ none → O' b = some i := fun b n m => if_pos ⟨n, m⟩
  have of' : ∀ b, H' b = none → O' b = none := fun b n => by
    have z : W.H b = none := by
      cases q : W.H b with
      | none => rfl
      | some u => rw [e b u q] at n; cases n
    exact (if_neg fun y => y.2 n).trans (k.free z)
  refine ⟨⟨W.Hc, H', O', W.B⟩, rfl, rfl, rfl, oo, of', ⟨fun b o q => e b o (k.ex b o q), fun b j q => ?_, k.basTo dm (fun b o _ _ q => e b o q) fun b n q => (oo b (k.bas b n).1).symm.trans q⟩, ⟨fun b o q _ => e b o q, dm, fun _ _ h => h, fun b n m => ⟨rfl, (oo b n).trans m⟩, rfl⟩, ?_⟩
  · by_cases z : W.H b = none
    · refine ⟨k.none_of z, fun w => ?_⟩
      have : O' b = W.O b := if_neg fun y => y.2 w
      have q : O' b = some j := q
      rw [this, k.free z] at q; cases q
    · have q : O' b = some j := q
      rw [oo b z] at q
      exact ⟨(k.own b j q).1, dm b z⟩
  · refine SatL.set g (fun kk o' nk ee z => z.up ⟨fun _ _ h => h, fun b j q => ?_, rfl, fun b e q => (oo b (k.bas b e).1).trans q⟩) ?_
    · have n := (k.own b j q).2
      obtain ⟨u, hu⟩ := of_ne_none n
      exact ⟨(oo b n).trans q, (e b u hu).trans hu.symm⟩
    · rw [Nat.zero_add]
      refine ⟨v, nwB W.H H', rfl, fun b u q => ?_, hr⟩
      obtain ⟨n1, n2⟩ := nh b u q
      exact ⟨on b n1 (ne_none_of n2), n2⟩
/-- slot j, with everything clean ahead of this, knows what stood -/
theorem big_all {Γ : List SP} {σ : St} {H : Hp} {j : Nat} {v : V} (hj : σ[j]? = some (some v)) (g : Sat Γ σ (bigW H)) : Sat (Γ.set j (.cl (rAll H) ())) σ (bigW H) := by
  have := g.put (i := j) (p := .cl (rAll H) ()) (o := some v) ⟨_, rfl, fun _ _ h => h⟩
  have es : σ.set j (some v) = σ := by
    apply List.ext_getElem?
    intro n
    by_cases z : j = n
    · subst z
      rw [List.getElem?_set_self', hj]; rfl
    · rw [List.getElem?_set_ne z]
  rwa [es] at this
variable {i j : Nat} {x y : Str} {px py pt pt2 : Pos} {kt k2 : Nat}
/-- a, b = x, y: a a nest of new lists, b a new list; s is a slot that holds something -/
theorem xt_parDN (s i j : Nat) {k2 : Nat} {Ma : Mp α} {Mb : Mp (List β)} {rr : Hp → RT α} {ra : RT α} {rb : RT β} {rs : RT γ} {ys : γ} (cv : Cv rr ra) (hs0 : look Γ s = .cl rs ys) (ha : ∀ H1, XP X ((bigL Γ).set s (.cl (rAll H1) ())) a Ma (rr H1)) (hb : XN X (clnL Γ) b Mb rb) (hc : X.calm = true) (hnd : X.N.Nodup) (hi : X.N[i]? = some x := by rfl) (hj : X.N[j]? = some y := by rfl) (hij : i ≠ j := by decide) (hx : X.env.scope.names.lookup x = some .local := by rfl) (hy : X.env.scope.names.lookup y = some .local := by rfl)
    (hw : swappedStores [.Tuple [.Name x px, .Name y py] kt pt] (.Tuple [a, b] k2 pt2) X.env = pure (some [x, y]) := by rfl) (hs : swapsWithSole [.Tuple [.Name x px, .Name y py] kt pt] (.Tuple [a, b] k2 pt2) pos.line X.env = pure false := by rfl) (h1 : starEach [a, b] X.env = (false, eval a X.env) :: starEach [b] X.env := by rfl) (h2 : starEach [b] X.env = (false, eval b X.env) :: starEach [] X.env := by rfl) :
    XSt X Γ (.Assign [.Tuple [.Name x px, .Name y py] kt pt] (.Tuple [a, b] k2 pt2) pos) (fun κ : Kn (α × List β) B R => Ma fun u => Mb fun v => κ.nx (u, v)) (fun z => (Γ.set i (.dp ra z.1)).set j (.own rb z.2)) Γb RR := by
  obtain ⟨t2, p2, q2⟩ := hb
  have pe : PE X a (fun σ H Q => ∃ H1, Classical.choose (ha H1) σ H Q) := ⟨fun pins s σ H Q I ⟨H1, w⟩ => (Classical.choose_spec (ha H1)).1.run pins s σ H Q I w⟩
  refine ⟨_, ps_par hc hnd hi hj hij hx hy (pa_cons pe (pa_cons p2 pa_nil h2) h1) hw hs, fun σ W k g κ D m hh _ _ _ => ?_⟩
  obtain ⟨o, eo, vs, rfl, _⟩ := g.look hs0 (by simp)
  refine ⟨W.H, ?_⟩
  refine (Classical.choose_spec (ha W.H)).2 σ _ (bigW_ok W.H) (big_all eo (sat_big k g)) _ _ m fun u v W1 m1 k1 s1 g1 r1 => ?_
  have e1 : Ex W.H W1.H := KI.keepAll (W := bigW W.H) s1 fun _ => rfl
  have r2 : ra.ok (nwB W.H W1.H) v u := cv.cv W.H (fun _ => none) W.H W1.H v u (fun _ h => h) ((rr W.H).mono k1.ex r1)
  obtain ⟨W2, eH, eC, eB, eO, eF, kk2, st2, g2⟩ := satD (i := i) k g e1 r2
  have dm : ∀ b, W.H b ≠ none → W1.H b ≠ none := fun b n => by
    obtain ⟨o, q⟩ := of_ne_none n
    exact ne_none_of (e1 b o q)
  have kz : Wd.Ok ⟨W.Hc, W1.H, fun _ => none, W1.H⟩ := ⟨fun b o q => e1 b o (k.ex b o q), (by intro a i e; cases e), bas_self⟩
  refine q2 σ ⟨W.Hc, W1.H, fun _ => none, W1.H⟩ kz (sat_cln (W := W) (W' := ⟨W.Hc, W1.H, fun _ => none, W1.H⟩) (fun _ _ h => h) g) _ _ m1 fun u2 w ws W3 m3 k3 s3 g4 n2 nc2 no2 hw2 pr2 => ?_
  have e3 : Ex W1.H W3.H := KI.keepAll (W := ⟨W.Hc, W1.H, fun _ => none, W1.H⟩) s3 fun _ => rfl
  have dm3 : ∀ b, W1.H b ≠ none → W3.H b ≠ none := fun b n => by
    obtain ⟨o, q⟩ := of_ne_none n
    exact ne_none_of (e3 b o q)
  have gr : Grow W2 ⟨W3.Hc, W3.H, W2.O, W2.B⟩ := ⟨by rw [eH]; exact e3, by rw [eC]; exact s3.hc, rfl, fun b n => by
    rw [eH] at n; rw [eC]; exact (s3.old b n rfl).1, rfl⟩
  have k4 : Wd.Ok ⟨W3.Hc, W3.H, W2.O, W2.B⟩ := ⟨k3.ex, fun b j q => by
    obtain ⟨n1, n3⟩ := kk2.own b j q
    rw [eH] at n3; rw [eC] at n1
    exact ⟨(s3.old b n3 rfl).1.trans n1, dm3 b n3⟩, kk2.basTo (fun b q => dm3 b (by rw [← eH]; exact q)) (fun b o _ _ q => e3 b o (by rw [← eH]; exact q)) fun _ _ n => n⟩
  have nw : W.H w = none := by
    cases q : W.H w with
    | none => rfl
    | some u =>
      have n2' : W1.H w = none := n2
      have := e1 w u q
      rw [n2'] at this; cases this
  obtain ⟨W5, e5, k5, s5, g5⟩ := sat_own (i := j) (W1 := ⟨W3.Hc, W3.H, W2.O, W2.B⟩) k k4 (st2.trans gr.step) (g2.up (gr.up kk2)) nw nc2 (eF w n2) hw2 pr2
  refine ⟨v, .ref w, rfl, ?_⟩
  have := hh (u, u2) _ W5 m3 k5 s5 g5
  rw [e5] at this
  exact this
end
end TM
set_option Elab.async false
set_option linter.all false
set_option maxRecDepth 100000
namespace TM
open PySem PySem.Spec PyProof.Rows L2
/-- some list -/
def rJ1 : RT Unit := ⟨fun H v _ => ∃ a vs, v = .ref a ∧ H a = some (.lst vs), fun e ⟨a, vs, h, q⟩ => ⟨a, vs, h, e _ _ q⟩⟩
section
variable {X : Cx} {Γ Δ : List SP} {α β γ δ τ S S' B R : Type} {e a b c tg iter elt o : Expr} {es : List Expr} {pos : Pos} {st : Stmt} {sts rest body : List Stmt}
variable {Γb : B → List SP} {RR : R → V → Wd → Prop} {x t : Str} {px p1 p2 p3 p4 p5 p6 p7 p8 : Pos}
theorem set_self {σ : St} {i : Nat} {o : Option V} (h : σ[i]? = some o) : σ.set i o = σ := by
  apply List.ext_getElem?
  intro n
  by_cases z : i = n
  · subst z
    rw [List.getElem?_set_self', h]; rfl
  · rw [List.getElem?_set_ne z]
theorem sat_unk {σ : St} {W : Wd} (g : Sat Γ σ W) (i : Nat) : Sat (Γ.set i .unk) σ W := by
  have q := g.put (i := i) (p := .unk) (o := σ[i]?.getD none) trivial
  cases h : σ[i]? with
  | none =>
    rw [h] at q
    have : σ.set i none = σ := by
      apply List.ext_getElem?
      intro n
      by_cases z : i = n
      · subst z
        rw [List.getElem?_set_self', h]; rfl
      · rw [List.getElem?_set_ne z]
    exact this ▸ q
  | some o => rw [h] at q; rw [show (some o).getD none = o from rfl, set_self h] at q; exact q
/-- for t in xs: t.append(c); t.reverse() -/
theorem xt_forJ (i j : Nat) {q1 q2 : Pos} {cI : Int} {k1 : Nat} {xss : List (List Int)} (n0 : Nat) (h : look Γ i = .dp (rL (rL rInt)) xss) (hj : isClu (look Γ j) = true) (hij : i ≠ j) (hl : j < Γ.length) (hcalm : X.calm = true) (hnd : X.N.Nodup) (hN : X.N[i]? = some x := by rfl) (hNt : X.N[j]? = some t := by rfl) (hv : Vis X.env.scope x := by first | exact Or.inl rfl | exact Or.inr (Or.inl rfl) | exact Or.inr (Or.inr rfl)) (hvt : Vis X.env.scope t := by first | exact Or.inl rfl | exact Or.inr (Or.inl rfl) | exact Or.inr (Or.inr rfl)) (hxt : Loc X.env.scope t := by first | exact .inl rfl | exact .inr rfl) (hft : X.fn t = true ∨ X.env.scope.names.lookup t = some .local := by first | exact .inl rfl | exact .inr rfl)
    (hd : (x == ("__debug__" : Str)) = false := by decide) (hcd : (x == ("__classdict__" : Str)) = false := by decide) (hdt : (t == ("__debug__" : Str)) = false := by decide) (hcdt : (t == ("__classdict__" : Str)) = false := by decide)
    (hp : PassesOwn (model X.prog X.w) X.A X.env X.xe)
    (hb1 : PS X (.Expr (.Call (.Attribute (.Name t p3) "append" p4) [.Constant (.int cI) k1 p5] [] p6) p7) (tDrop (tBM X.K "list" rAppend (tVar j) (tCons (tC (.int cI)) tNil))))
    (hb2 : PS X (.Expr (.Call (.Attribute (.Name t p1) "reverse" p2) [] [] p8) pos) (tDrop (tBM0 X.K "list" rReverse (tVar j))))
    (hs : ∀ y, foldedSetIterable (.Name x px) X.env y = pure y := by intro _; rfl) :
    XSt X Γ (.For (.Name t q1) (.Name x px) [.Expr (.Call (.Attribute (.Name t p3) "append" p4) [.Constant (.int cI) k1 p5] [] p6) p7, .Expr (.Call (.Attribute (.Name t p1) "reverse" p2) [] [] p8) pos] [] q2)
      (fun κ : Kn Unit B R => ((∀ xs ∈ xss, xs.length ≤ n0) ∧ n0 + xss.length < sizeLine) ∧ κ.nx ()) (fun _ => (Γ.set j .unk).set i (.dp rJ1 ())) Γb RR := by
  refine ⟨_, ps_for hp hcalm (pi_list (pe_var hN hv hd hcd)) (pg_name hnd hNt hxt hft) (pss_cons hb1 (pss_one hb2)) hs, fun σ W k gg κ D ⟨⟨mb, mz⟩, m⟩ h1 _ _ _ => ?_⟩
  obtain ⟨o, eo, v, Hr, rfl, own, a, vs, rfl, hra, pr⟩ := gg.look h (by simp)
  have ha := own a _ hra
  refine ⟨.ref a, eo, a, rfl, ⟨vs, sql_of ha.2⟩, ?_⟩
  have g0 : Sat ((Γ.set j .unk).set i .unk) σ W := sat_unk (sat_unk gg j) i
  have inner : ∀ v ∈ vs, ∃ (b : Addr) (zs : List Int), v = V.ref b ∧ W.O b = some i ∧ W.H b = some (.lst (zs.map V.int)) ∧ zs.length ≤ n0 := by
    have gen : ∀ {vs : List V} {xss : List (List Int)}, Paired ((rL rInt).ok Hr) vs xss → (∀ xs ∈ xss, xs.length ≤ n0) → ∀ v ∈ vs, ∃ (b : Addr) (zs : List Int), v = V.ref b ∧ W.O b = some i ∧ W.H b = some (.lst (zs.map V.int)) ∧ zs.length ≤ n0 := by
      intro vs xss p
      induction p with
      | nil => intro _ v m; cases m
      | cons hh tt ih =>
        intro mb v m
        rcases List.mem_cons.mp m with rfl | m
        · obtain ⟨b, ws, e, q, p2⟩ := hh
          exact ⟨b, _, e, (own b _ q).1, by rw [← vs_int p2]; exact (own b _ q).2, mb _ List.mem_cons_self⟩
        · exact ih (fun xs m => mb xs (List.mem_cons_of_mem _ m)) v m
    exact gen pr mb
  have hlen : vs.length = xss.length := pr.length
  show ∃ Iv : Nat → Nat → St → Hp → Prop, _
  refine ⟨fun n m σ' H' => m = vs.length - n ∧ n ≤ vs.length ∧ ∃ W', W'.H = H' ∧ W'.Ok ∧ Step W W' ∧ Sat ((Γ.set j .unk).set i .unk) σ' W' ∧ σ'[i]? = some (some (.ref a)) ∧ σ'.length = σ.length ∧ W'.O a = some i ∧ W'.H a = some (.lst vs) ∧ (∀ v ∈ vs, ∃ (b : Addr) (zs : List Int), v = V.ref b ∧ W'.O b = some i ∧ W'.H b = some (.lst (zs.map V.int)) ∧ zs.length ≤ n0 + n), ⟨vs.length, by simp, Nat.zero_le _, W, rfl, k, Step.refl W, g0, eo, rfl, ha.1, ha.2, fun v m => by
    obtain ⟨b, zs, q1, q2, q3, q4⟩ := inner v m
    exact ⟨b, zs, q1, q2, q3, q4⟩⟩, ?_⟩
  rintro n n' σ' H' ⟨rfl, hn, W', rfl, k', s', g', eo', el', o', hh', inn⟩
  by_cases hlt : n < vs.length
  · refine .inr ⟨⟨vs, vs[n], sql_of hh', List.getElem?_eq_getElem hlt⟩, fun σ2 H2 => n + 1 ≤ vs.length ∧ ∃ W', W'.H = H2 ∧ W'.Ok ∧ Step W W' ∧ Sat ((Γ.set j .unk).set i .unk) σ2 W' ∧ σ2[i]? = some (some (.ref a)) ∧ σ2.length = σ.length ∧ W'.O a = some i ∧ W'.H a = some (.lst vs) ∧ (∀ v ∈ vs, ∃ (b : Addr) (zs : List Int), v = V.ref b ∧ W'.O b = some i ∧ W'.H b = some (.lst (zs.map V.int)) ∧ zs.length ≤ n0 + (n + 1)), fun σ2 H2 q => ⟨vs.length - (n + 1), by omega, rfl, q.1, q.2⟩, fun v H2 y => ?_⟩
    obtain ⟨rfl, y⟩ := y
    have ev : vs[n]? = some v := y vs (sql_of hh')
    have mem : v ∈ vs := List.mem_of_getElem? ev
    obtain ⟨b, zs, rfl, ob, hb, lb⟩ := inn v mem
    have hjl : j < σ'.length := by rw [el', SatL.len gg]; exact hl
    have hσ : (σ'.set j (some (V.ref b)))[j]? = some (some (V.ref b)) := by rw [List.getElem?_set_self hjl]
    have nab : a ≠ b := fun z => by
      subst z
      rw [hh'] at hb
      cases hb
      obtain ⟨q, _, hq⟩ := List.mem_map.mp mem
      cases hq
    have k2 : (W'.mut b (.lst (zs.map V.int ++ [V.int cI]))).Ok := k'.mut ob
    have k3 : ((W'.mut b (.lst (zs.map V.int ++ [V.int cI]))).mut b (.lst (zs.map V.int ++ [V.int cI]).reverse)).Ok := k2.mut (i := i) ob
    have s2 : Step W' ((W'.mut b (.lst (zs.map V.int ++ [V.int cI]))).mut b (.lst (zs.map V.int ++ [V.int cI]).reverse)) := (step_mut ob).trans (step_mut (W := W'.mut b (.lst (zs.map V.int ++ [V.int cI]))) ob)
    have g2 : Sat ((Γ.set j .unk).set i .unk) σ' ((W'.mut b (.lst (zs.map V.int ++ [V.int cI]))).mut b (.lst (zs.map V.int ++ [V.int cI]).reverse)) := by
      have q := Sat.mut (p := .unk) (u := .lst (zs.map V.int ++ [V.int cI])) g' ob eo' trivial
      rw [List.set_set] at q
      have q2 := Sat.mut (p := .unk) (u := .lst (zs.map V.int ++ [V.int cI]).reverse) q (show (W'.mut b (.lst (zs.map V.int ++ [V.int cI]))).O b = some i from ob) eo' trivial
      rwa [List.set_set] at q2
    have g3 : Sat ((Γ.set j .unk).set i .unk) (σ'.set j (some (V.ref b))) ((W'.mut b (.lst (zs.map V.int ++ [V.int cI]))).mut b (.lst (zs.map V.int ++ [V.int cI]).reverse)) := by
      have q := g2.put (i := j) (p := .unk) (o := some (V.ref b)) trivial
      rwa [List.set_comm _ _ hij, List.set_set] at q
    refine ⟨.ref b, hσ, .inl ⟨rfl, _, sql_of hb⟩, b, zs.map V.int, .int cI, rfl, rfl, hb, by rw [List.length_map]; omega, ?_⟩
    refine ⟨.ref b, hσ, .inl ⟨rfl, _, sql_of (xs := zs.map V.int ++ [V.int cI]) upd_same⟩, b, zs.map V.int ++ [V.int cI], rfl, rfl, upd_same, ?_⟩
    refine ⟨hlt, _, rfl, k3, s'.trans s2, g3, ?_, by rw [List.length_set]; exact el', o', ?_, fun v0 m0 => ?_⟩
    · rw [List.getElem?_set_ne (fun z => hij z.symm)]; exact eo'
    · show upd (upd W'.H b _) b _ a = _
      rw [upd_ne nab, upd_ne nab]; exact hh'
    · obtain ⟨b0, z0, e0, ob0, hb0, l0⟩ := inn v0 m0
      by_cases w : b0 = b
      · subst w
        refine ⟨b0, (zs ++ [cI]).reverse, e0, ob0, ?_, ?_⟩
        · show upd (upd W'.H b0 _) b0 _ b0 = _
          rw [upd_same]; simp
        · simp; omega
      · exact ⟨b0, z0, e0, ob0, by
          show upd (upd W'.H b _) b _ b0 = _
          rw [upd_ne w, upd_ne w]; exact hb0, by omega⟩
  · have e : n = vs.length := by omega
    subst e
    refine .inl ⟨⟨vs, sql_of hh', Nat.le_refl _⟩, h1 () σ' W' m k' s' ?_⟩
    have q := g'.put (i := i) (p := .dp rJ1 ()) (o := some (.ref a)) ⟨.ref a, fun b => if b = a then some (.lst vs) else none, rfl, (fun b u z => by
      by_cases w : b = a
      · subst w; simp only [if_pos] at z; cases z; exact ⟨o', hh'⟩
      · simp only [if_neg w] at z; cases z), a, vs, rfl, if_pos rfl⟩
    rw [set_self eo', List.set_set] at q
    exact q
/-- xs.reverse(), of a list whose parts nobody asks for any more -/
theorem xt_revJ (i : Nat) {pc : Pos} (h : look Γ i = .dp rJ1 ()) (hN : X.N[i]? = some x := by rfl) (hv : Vis X.env.scope x := by first | exact Or.inl rfl | exact Or.inr (Or.inl rfl) | exact Or.inr (Or.inr rfl)) (hd : (x == ("__debug__" : Str)) = false := by decide) (hcd : (x == ("__classdict__" : Str)) = false := by decide)
    (hpe : PS X (.Expr (.Call (.Attribute (.Name x p1) "reverse" p2) [] [] pc) pos) (tDrop (tBM0 X.K "list" rReverse (tVar i)))) :
    XSt X Γ (.Expr (.Call (.Attribute (.Name x p1) "reverse" p2) [] [] pc) pos) (fun κ : Kn Unit B R => κ.nx ()) (fun _ => Γ) Γb RR := by
  refine ⟨_, hpe, fun σ W k g κ D m h1 _ _ _ => ?_⟩
  obtain ⟨o, eo, v, Hr, rfl, own, a, vs, rfl, hra⟩ := g.look h (by simp)
  obtain ⟨ho, hh⟩ := own a _ hra
  refine ⟨.ref a, eo, .inl ⟨rfl, vs, sql_of hh⟩, a, vs, rfl, rfl, hh, h1 () σ (W.mut a (.lst vs.reverse)) m (k.mut ho) (step_mut ho) ?_⟩
  have q := Sat.mut (p := .dp rJ1 ()) (u := .lst vs.reverse) g ho eo ⟨.ref a, fun b => if b = a then some (.lst vs.reverse) else none, rfl, (fun b u z => by
      by_cases w : b = a
      · subst w; simp only [if_pos] at z; cases z; exact ⟨ho, upd_same⟩
      · simp only [if_neg w] at z; cases z), a, vs.reverse, rfl, if_pos rfl⟩
  have es : ∀ (Γ : List SP) (i : Nat), look Γ i = .dp rJ1 () → Γ.set i (.dp rJ1 ()) = Γ := by
    intro Γ
    induction Γ with
    | nil => intro i h; cases i <;> rfl
    | cons p ps ih => intro i h; cases i with
      | zero => have h : p = .dp rJ1 () := h; rw [h]; rfl
      | succ i => show p :: ps.set i _ = _; rw [ih i h]
  rwa [es Γ i h] at q
/-- the law's box is made -/
theorem xt_setBx (i : Nat) {y : Str} {p' : Pos} {M : Mp (List Int)} (h : XN X Γ e M rInt) (hnd : X.N.Nodup) (hN : X.N[i]? = some y := by rfl) (hx : Loc X.env.scope y := by first | exact .inl rfl | exact .inr rfl) (hs : swapsWith e (some (.Name y p')) pos.line X.env = pure false := by rfl) (hf : X.fn y = true ∨ X.env.scope.names.lookup y = some .local := by first | exact .inl rfl | exact .inr rfl) :
    XSt X Γ (.Assign [.Name y p'] e pos) (fun κ : Kn Addr B R => M fun l => (∃ u v : Int, l = [u, v] ∧ u.natAbs < 2 ^ boxBits ∧ 0 ≤ v ∧ v < 2147483647) ∧ ∀ a, κ.nx a) (fun a => Γ.set i (.bx a)) Γb RR := by
  obtain ⟨t, p, q⟩ := h
  refine ⟨_, ps_set hnd hN hx p hs hf, fun σ W k g κ D m h1 _ _ _ => ?_⟩
  refine q σ W k g _ _ m fun x u vs W1 ⟨⟨n1, n2, e1, b1, b2, b3⟩, m1⟩ k1 s1 g1 n nc no hh pr => ?_
  obtain ⟨W2, e2, k2, s2, g2⟩ := sat_own (i := i) k k1 s1 g1 n nc no hh pr
  have hl : look (Γ.set i (.own rInt x)) i = .own rInt x ∨ ¬ i < Γ.length := by
    by_cases z : i < Γ.length
    · left
      have gen : ∀ (Γ : List SP) (i : Nat), i < Γ.length → look (Γ.set i (.own rInt x)) i = .own rInt x := by
        intro Γ
        induction Γ with
        | nil => intro i h; cases h
        | cons p ps ih => intro i h; cases i with
          | zero => rfl
          | succ i => exact ih i (Nat.lt_of_succ_lt_succ h)
      exact gen Γ i z
    · exact .inr z
  rw [← e2]
  refine h1 u _ W2 (m1 u) k2 s2 ?_
  rcases hl with hl | hl
  · obtain ⟨o, eo, a, vs', rfl, _, ho, hh', pr'⟩ := g2.look hl (by simp)
    have il : i < σ.length := by
      have := (List.getElem?_eq_some_iff.mp eo).1
      rwa [List.length_set] at this
    rw [List.getElem?_set_self il] at eo
    cases eo
    have := g2.put (i := i) (p := .bx u) (o := some (.ref u)) ⟨rfl, ho, n1, n2, by rw [hh', vs_int pr', e1]; rfl, b1, b2, b3⟩
    rwa [List.set_set, List.set_set] at this
  · have l1 : σ.length = Γ.length := SatL.len g
    have e3 : Γ.set i (.own rInt x) = Γ := List.set_eq_of_length_le (by omega)
    have e4 : Γ.set i (.bx u) = Γ := List.set_eq_of_length_le (by omega)
    rw [e3] at g2
    show Sat (Γ.set i (.bx u)) _ W2
    rw [e4]; exact g2
end
theorem os_ixK {K : PySem.W.Frag} : OpS (rIxL K) (rLK K) rInt rInt (fun xs i P => ∃ y, atI xs i = some y ∧ P y) := fun W k v x u y ⟨a, e1, h1⟩ e2 Q P ⟨z, m1, m2⟩ q => by
  have e2 : u = .int y := e2
  refine ⟨a, x.map V.int, y, .int z, e1, e2, ex_sql k.ex h1, ?_, q z _ W m2 k (Grow.refl W) rfl⟩
  unfold atI at m1 ⊢
  rw [List.length_map]
  cases e : ixN x.length y with
  | none => rw [e] at m1; cases m1
  | some j =>
    rw [e] at m1
    have m1 : x[j]? = some z := m1
    show (x.map V.int)[j]? = some (.int z)
    rw [List.getElem?_map, m1]; rfl
/-- the law's promise asks for a script of bounded numbers -/
theorem sp_of {F : List Int → Mp Bool} {K : PySem.W.Frag} {H : Hp} {a : Addr} {ns : List Int} (hF : F ns (fun b => b = true)) (hO : Only H) (hS : SqL K H a (ns.map V.int)) {E : XK} : spC (rsc (rLK K) rs0).sps (fun z P => F z.1 P) (rrc rBl) [.ref a] H (fun v _ => v = .bl true) E :=
  ⟨(ns, ()), ⟨H, H, fun _ => none, H⟩, _, rfl, rfl, ⟨fun _ _ h => h, (by intro a i e; cases e), bas_self⟩, fun _ => rfl, ⟨⟨_, rfl, a, rfl, hS⟩, trivial⟩, hF, fun b v W' hb k' s' hr => by
    have hr : v = .bl b := hr
    rw [hr, hb]⟩
end TM
set_option Elab.async false
set_option linter.all false
set_option maxRecDepth 100000
namespace TM
open PySem PySem.Spec PyProof.Rows L2
/-! ### refusals: a def that may raise, its wish for them fixed ahead of its walk -/
/-- the slot that knows the heap at the def's entry -/
def gAnc (H0 : Hp) : GS := ⟨fun _ _ W => W.B = H0 ∧ ∀ a, W.B a ≠ none → W.O a = none, fun {i o W W'} h g => ⟨g.B.trans h.1, fun a e => g.oo a (by rw [← g.B]; exact e) (h.2 a (by rw [← g.B]; exact e))⟩⟩
theorem anc_keeps {Γ : List SP} {σ : St} {W : Wd} {n : Nat} {H0 : Hp} (k : W.Ok) (g : Sat Γ σ W) (h : look Γ n = .gen (gAnc H0)) : ∀ b o, H0 b = some o → W.H b = some o := fun b o e => by
  obtain ⟨_, _, h1, h2⟩ := g.look h (by simp)
  rw [← h1] at e
  have n0 := h2 b (ne_none_of e)
  rw [(k.bas b (ne_none_of e)).2 n0]; exact e
abbrev ExN := Str → Prop
def WishE (mg : Str → Option Value) (E : XK) (H : Hp) (Ex : ExN) : Prop := ∀ (nm : Str) (C : Addr) (H' : Hp), Ex nm → mg nm = some (.ref C) → (∀ b o, H b = some o → H' b = some o) → E (.ref C) none H'
theorem WishE.mono {mg : Str → Option Value} {E : XK} {H H1 : Hp} {Ex : ExN} (h : WishE mg E H Ex) (e : ∀ b o, H b = some o → H1 b = some o) : WishE mg E H1 Ex := fun nm C H' a b c => h nm C H' a b fun p o q => c p o (e p o q)
structure Rx (X : Cx) (E : XK) (H0 : Hp) (Ex : ExN) : Prop where
  ps : Passes (L2.CX X.prog X.w) X E
  tk : L2.Takes X (fun cls d _ H => E cls d H)
  calm : X.calm = true
  wish : WishE X.mg E H0 Ex
/-- where refusals of a callee go -/
def Wish (X : Cx) (Γ : List SP) (Ex : ExN) : Prop := ∃ E : XK, Passes (L2.CX X.prog X.w) X E ∧ ∀ (σ : St) (W : Wd), W.Ok → Sat Γ σ W → WishE X.mg E W.H Ex
def ex0 : ExN := fun _ => False
theorem w0 {X : Cx} {Γ : List SP} : Wish X Γ ex0 := ⟨fun _ _ _ => False, passL, fun _ _ _ _ _ _ _ h => h.elim⟩
theorem Rx.w {X : Cx} {E : XK} {H0 : Hp} {Ex : ExN} {Γ : List SP} (rx : Rx X E H0 Ex) (n : Nat) (h : look Γ n = .gen (gAnc H0)) : Wish X Γ Ex := ⟨E, rx.ps, fun _ _ k g => rx.wish.mono (anc_keeps k g h)⟩
/-- the promise of a def that may raise -/
def spX {τ β : Type} (mg : Str → Option Value) (sps : τ → List SP) (F : τ → (β → Prop) → ExN → Prop) (RR : RRt β) : Sp := fun vs H Q E => ∃ (x : τ) (W : Wd) (P : β → Prop) (Ex : ExN), W.H = H ∧ W.B = H ∧ W.Ok ∧ (∀ a, W.O a = none) ∧ SatL 0 (sps x) (vs.map some) W ∧ F x P Ex ∧
  (∀ b v W', P b → W'.Ok → Step W W' → RR b v W' → Q v W'.H) ∧ WishE mg E H Ex
def GlobX (P : Program) (w : World) (K : PySem.W.Frag) (mg : Str → Option Value) (base : Heap) (x : Str) (k : Nat) (ps : List Str) (sp : Sp) : Prop :=
  ∃ f fd, mg x = some (.ref f) ∧ PySem.W.keepIn K (.ref f) = true ∧ L2.Binds K fd ps [] ∧ FnOk P w K mg base (L2.CX P w) k f fd ps sp
def MethX (P : Program) (w : World) (K : PySem.W.Frag) (mg : Str → Option Value) (base : Heap) (C : Addr) (m : Str) (k : Nat) (ps : List Str) (sp : Sp) : Prop :=
  ∃ f fd, Meth K C m f ∧ L2.Binds K fd ps [] ∧ FnOk P w K mg base (L2.CX P w) k f fd ps sp
def MakeX (P : Program) (w : World) (K : PySem.W.Frag) (mg : Str → Option Value) (base : Heap) (x : Str) (C : Addr) (k : Nat) (ps : List Str) (sp : Sp) : Prop :=
  mg x = some (.ref C) ∧ ∃ f fd, Mk K C f ∧ L2.Binds K fd ps [] ∧ FnOk P w K mg base (L2.CX P w) k f fd ps sp
section
variable {X : Cx} {Γ Δ : List SP} {α β γ δ τ S S' B R : Type} {e a b c tg iter elt o : Expr} {es : List Expr} {pos : Pos} {st : Stmt} {sts rest body : List Stmt} {Ex : ExN}
theorem callX_core {R : RS τ} {F : τ → (β → Prop) → ExN → Prop} {RR : RRt β} {x : τ} {vs : List V} {W : Wd} {Q : VK} {E : XK} {P : β → Prop} (k : W.Ok) (hr : R.ok W.Hc vs x) (m : F x P Ex)
    (h : ∀ b v W', P b → W'.Ok → Grow W W' → RR b v ⟨W'.Hc, W'.H, W'.O, W.H⟩ → Q v W'.H) (hRR : ∀ b v (A B : Wd), A.Hc = B.Hc → A.H = B.H → A.B = B.B → RR b v A → RR b v B) (hw : WishE X.mg E W.H Ex) : spX X.mg R.sps F RR vs W.H Q E := by
  refine ⟨x, ⟨W.Hc, W.H, fun _ => none, W.H⟩, P, Ex, rfl, rfl, ⟨k.ex, fun _ _ e => (nomatch e), bas_self⟩, fun _ => rfl, R.sat (W := ⟨W.Hc, W.H, fun _ => none, W.H⟩) 0 hr, m, fun b v W' pb k' s' r' => ?_, hw⟩
  obtain ⟨k2, g2⟩ := back_core k k' s'
  exact h b v ⟨W'.Hc, W'.H, W.O, W.B⟩ pb k2 g2 (hRR b v W' _ rfl rfl s'.B r')
theorem rrc_st {r : RT β} : ∀ b v (A B : Wd), A.Hc = B.Hc → A.H = B.H → A.B = B.B → rrc r b v A → rrc r b v B := fun b v A B e1 _ _ z => by
  show r.ok B.Hc v b
  rw [← e1]; exact z
theorem rrn_st {r : RT β} : ∀ b v (A B : Wd), A.Hc = B.Hc → A.H = B.H → A.B = B.B → rrn r b v A → rrn r b v B := fun b v A B e1 e2 e3 ⟨p, vs, a1, a2, a3, a4, a5⟩ => ⟨p, vs, a1, by rw [← e3]; exact a2, by rw [← e1]; exact a3, by rw [← e2]; exact a4, by rw [← e1]; exact a5⟩
/-- f(..) -/
theorem xg_callX {k j : Nat} {ps : List Str} {x : Str} {p : Pos} {R : RS τ} {F : τ → (β → Prop) → ExN → Prop} {r : RT β} {M : Mp τ} (wi : Wish X Γ Ex) (G : GlobX X.prog X.w X.K X.mg X.base x k ps (spX X.mg R.sps F (rrc r))) (hr : Room j X.A) (hj : k ≤ j)
    (ha : XA X Γ (e :: es) M R.toRA) (hg : Gl X x := by rfl) (hdb : (x == ("__debug__" : Str)) = false := by decide) (he : starEach (e :: es) X.env = (false, eval e X.env) :: starEach es X.env := by rfl) (hpl : (backTo pos (starEach es X.env)).any (·.1) = false := by rfl) :
    XP X Γ (.Call (.Name x p) (e :: es) [] pos) (fun P => M fun y => F y P Ex) r := by
  obtain ⟨f, fd, g1, g2, g3, g4⟩ := G
  obtain ⟨E, hp, hw⟩ := wi
  obtain ⟨t, pp, q⟩ := ha
  refine ⟨_, pe_call g4 (hr.mono hj) hg g1 g2 g3 .nil hp pp hdb he hpl, fun σ W k s Q P m h => ?_⟩
  refine q σ W k s _ _ m fun y v W1 m1 k1 s1 g1 r1 => ?_
  rw [List.append_nil]
  exact callX_core k1 r1 m1 (fun b u W2 pb k2 g2 r2 => h b u W2 pb k2 (s1.trans g2.step) (g1.up (g2.up k1)) r2) rrc_st (hw σ W1 k1 g1)
theorem xg_callXN {k j : Nat} {ps : List Str} {x : Str} {p : Pos} {R : RS τ} {F : τ → (List β → Prop) → ExN → Prop} {r : RT β} {M : Mp τ} (wi : Wish X Γ Ex) (G : GlobX X.prog X.w X.K X.mg X.base x k ps (spX X.mg R.sps F (rrn r))) (hr : Room j X.A) (hj : k ≤ j)
    (ha : XA X Γ (e :: es) M R.toRA) (hg : Gl X x := by rfl) (hdb : (x == ("__debug__" : Str)) = false := by decide) (he : starEach (e :: es) X.env = (false, eval e X.env) :: starEach es X.env := by rfl) (hpl : (backTo pos (starEach es X.env)).any (·.1) = false := by rfl) :
    XN X Γ (.Call (.Name x p) (e :: es) [] pos) (fun P => M fun y => F y P Ex) r := by
  obtain ⟨f, fd, g1, g2, g3, g4⟩ := G
  obtain ⟨E, hp, hw⟩ := wi
  obtain ⟨t, pp, q⟩ := ha
  refine ⟨_, pe_call g4 (hr.mono hj) hg g1 g2 g3 .nil hp pp hdb he hpl, fun σ W k s Q P m h => ?_⟩
  refine q σ W k s _ _ m fun y v W1 m1 k1 s1 g1 r1 => ?_
  rw [List.append_nil]
  refine callX_core k1 r1 m1 (fun b u W2 pb k2 g2 r2 => ?_) rrn_st (hw σ W1 k1 g1)
  obtain ⟨z, vs, rfl, n0, nc, hh, pr⟩ := r2
  exact h b z vs W2 pb k2 (s1.trans g2.step) (g1.up (g2.up k1)) (fresh_of s1 n0) nc (by rw [g2.O]; exact k1.free n0) hh pr
/-- o.m(..) -/
theorem xg_methX {C : Addr} {m : Str} {k j : Nat} {ps : List Str} {apos : Pos} {Rs : RS τ} {F : β × τ → (γ → Prop) → ExN → Prop} {ro : RT β} {r : RT γ} {Mo : Mp β} {M : Mp τ} {pl : Sem Bool} (wi : Wish X Γ Ex) (hI : InsNo C m ro) (c : Cls X.K C)
    (G : MethX X.prog X.w X.K X.mg X.base C m k ps (spX X.mg (rsc ro Rs).sps F (rrc r))) (hr : Room j X.A) (hj : k ≤ j)
    (ho : XP X Γ o Mo ro) (ha : XA X Γ (e :: es) M Rs.toRA) (hst : starEach (e :: es) X.env = (false, eval e X.env) :: starEach es X.env := by rfl) (hpl : (backTo pos (starEach es X.env)).any (·.1) = false := by rfl)
    (ht : eval (.Call (.Attribute o m apos) (e :: es) [] pos) X.env = (do
      let ov ← eval o X.env
      standAt apos.atName
      let (f, first) ← holding [ov] (getMethod ov m pl)
      callWith pos f first (backTo pos (starEach (e :: es) X.env)) (backToKw pos (keywordEach [] X.env))) := by rfl) :
    XP X Γ (.Call (.Attribute o m apos) (e :: es) [] pos) (fun P => Mo fun z => M fun y => F (z, y) P Ex) r := by
  obtain ⟨f, fd, g1, g3, g4⟩ := G
  obtain ⟨E, hp, hw⟩ := wi
  obtain ⟨t, pp, q⟩ := ho
  obtain ⟨u, pp2, q2⟩ := ha
  refine ⟨_, pe_meth pp c g1 g4 (hr.mono hj) g3 .nil hp pp2 hst hpl ht, fun σ W k s Q P m h => ?_⟩
  refine q σ W k s _ _ m fun z v W1 m1 k1 s1 g1 r1 => ?_
  obtain ⟨p, dx, fs, rfl, hp', hl⟩ := hI _ _ _ r1
  refine ⟨p, dx, fs, rfl, k1.ex _ _ hp', hl, ?_⟩
  refine q2 σ W1 k1 g1 _ _ m1 fun y v2 W2 m2 k2 s2 g2 r2 => ?_
  rw [List.append_nil]
  exact callX_core (R := rsc ro Rs) (x := (z, y)) k2 ⟨.ref p, v2, rfl, ro.mono s2.hc r1, r2⟩ m2 (fun b u W3 pb k3 g3 r3 => h b u W3 pb k3 ((s1.trans s2).trans g3.step) (g2.up (g3.up k2)) r3) rrc_st (hw σ W2 k2 g2)
theorem xg_meth0X {C : Addr} {m : Str} {k j : Nat} {ps : List Str} {apos : Pos} {F : β × Unit → (γ → Prop) → ExN → Prop} {ro : RT β} {r : RT γ} {Mo : Mp β} {pl : Sem Bool} (wi : Wish X Γ Ex) (hI : InsNo C m ro) (c : Cls X.K C)
    (G : MethX X.prog X.w X.K X.mg X.base C m k ps (spX X.mg (rsc ro rs0).sps F (rrc r))) (hr : Room j X.A) (hj : k ≤ j)
    (ho : XP X Γ o Mo ro)
    (ht : eval (.Call (.Attribute o m apos) [] [] pos) X.env = (do
      let ov ← eval o X.env
      standAt apos.atName
      let (f, first) ← holding [ov] (getMethod ov m pl)
      callWith pos f first (backTo pos (starEach [] X.env)) (backToKw pos (keywordEach [] X.env))) := by rfl) :
    XP X Γ (.Call (.Attribute o m apos) [] [] pos) (fun P => Mo fun z => F (z, ()) P Ex) r := by
  obtain ⟨f, fd, g1, g3, g4⟩ := G
  obtain ⟨E, hp, hw⟩ := wi
  obtain ⟨t, pp, q⟩ := ho
  refine ⟨_, pe_meth0 pp c g1 g4 (hr.mono hj) g3 .nil hp ht, fun σ W k s Q P m h => ?_⟩
  refine q σ W k s _ _ m fun z v W2 m2 k2 s2 g2 r1 => ?_
  obtain ⟨p, dx, fs, rfl, hp', hl⟩ := hI _ _ _ r1
  refine ⟨p, dx, fs, rfl, k2.ex _ _ hp', hl, ?_⟩
  show spX X.mg (rsc ro rs0).sps F (rrc r) (.ref p :: ([] ++ [])) W2.H Q E
  exact callX_core (R := rsc ro rs0) (x := (z, ())) k2 ⟨.ref p, [], rfl, r1, rfl⟩ m2 (fun b u W3 pb k3 g3 r3 => h b u W3 pb k3 (s2.trans g3.step) (g2.up (g3.up k2)) r3) rrc_st (hw σ W2 k2 g2)
theorem xg_methXN {C : Addr} {m : Str} {k j : Nat} {ps : List Str} {apos : Pos} {Rs : RS τ} {F : β × τ → (List γ → Prop) → ExN → Prop} {ro : RT β} {r : RT γ} {Mo : Mp β} {M : Mp τ} {pl : Sem Bool} (wi : Wish X Γ Ex) (hI : InsNo C m ro) (c : Cls X.K C)
    (G : MethX X.prog X.w X.K X.mg X.base C m k ps (spX X.mg (rsc ro Rs).sps F (rrn r))) (hr : Room j X.A) (hj : k ≤ j)
    (ho : XP X Γ o Mo ro) (ha : XA X Γ (e :: es) M Rs.toRA) (hst : starEach (e :: es) X.env = (false, eval e X.env) :: starEach es X.env := by rfl) (hpl : (backTo pos (starEach es X.env)).any (·.1) = false := by rfl)
    (ht : eval (.Call (.Attribute o m apos) (e :: es) [] pos) X.env = (do
      let ov ← eval o X.env
      standAt apos.atName
      let (f, first) ← holding [ov] (getMethod ov m pl)
      callWith pos f first (backTo pos (starEach (e :: es) X.env)) (backToKw pos (keywordEach [] X.env))) := by rfl) :
    XN X Γ (.Call (.Attribute o m apos) (e :: es) [] pos) (fun P => Mo fun z => M fun y => F (z, y) P Ex) r := by
  obtain ⟨f, fd, g1, g3, g4⟩ := G
  obtain ⟨E, hp, hw⟩ := wi
  obtain ⟨t, pp, q⟩ := ho
  obtain ⟨u, pp2, q2⟩ := ha
  refine ⟨_, pe_meth pp c g1 g4 (hr.mono hj) g3 .nil hp pp2 hst hpl ht, fun σ W k s Q P m h => ?_⟩
  refine q σ W k s _ _ m fun z v W1 m1 k1 s1 g1 r1 => ?_
  obtain ⟨p, dx, fs, rfl, hp', hl⟩ := hI _ _ _ r1
  refine ⟨p, dx, fs, rfl, k1.ex _ _ hp', hl, ?_⟩
  refine q2 σ W1 k1 g1 _ _ m1 fun y v2 W2 m2 k2 s2 g2 r2 => ?_
  rw [List.append_nil]
  refine callX_core (R := rsc ro Rs) (x := (z, y)) k2 ⟨.ref p, v2, rfl, ro.mono s2.hc r1, r2⟩ m2 (fun b u W3 pb k3 g3 r3 => ?_) rrn_st (hw σ W2 k2 g2)
  obtain ⟨y', vs, rfl, n0, nc, hh, pr⟩ := r3
  exact h b y' vs W3 pb k3 ((s1.trans s2).trans g3.step) (g2.up (g3.up k2)) (fresh_of (s1.trans s2) n0) nc (by rw [g3.O]; exact k2.free n0) hh pr
/-- raise C('..') -/
theorem xs_raiseX {E : XK} {H0 : Hp} {nm : Str} {C : Addr} {Γn : S → List SP} {Γb : B → List SP} {RR : R → V → Wd → Prop} (rx : Rx X E H0 Ex) (n : Nat) (h : look Γ n = .gen (gAnc H0)) (hC : X.mg nm = some (.ref C)) (hm : PMk X e (fun _ H Q => Q (.ref C) none H)) : XS X Γ [.Raise (some e) none pos] (fun κ : Kn S B R => Ex nm) Γn Γb RR :=
  ⟨_, pss_one (ps_raise rx.calm rx.tk hm), fun σ W k g κ D m _ _ _ _ => rx.wish nm C W.H m hC (anc_keeps k g h)⟩
end
section
variable {P : Program} {w : World} {K : PySem.W.Frag} {mg : Str → Option Value} {base : Heap} {α β γ τ : Type} {x qual : Str} {st : Stmt} {f : Addr} {fd : FuncData} {N ps : List Str} {k n : Nat}
theorem sat_snoc {W : Wd} {p : SP} {o : Option V} : ∀ {Γ : List SP} {i : Nat} {σ : St}, SatL i Γ σ W → (∀ j, SPok p j o W) → SatL i (Γ ++ [p]) (σ ++ [o]) W
  | [], i, [], _, h => ⟨h i, trivial⟩
  | _ :: _, _, _ :: _, g, h => ⟨g.1, sat_snoc g.2 h⟩
theorem start_satG {N : List Str} {vs : List V} {Γ : List SP} {n : Nat} {W : Wd} {p : SP} (h : SatL 0 Γ (vs.map some) W) (hn : N.length = Γ.length + (n + 1)) (hp : ∀ j, SPok p j none W) : Sat (Γ ++ List.replicate n .unk ++ [p]) (L2.start N vs) W := by
  have hl : vs.length = Γ.length := by rw [← SatL.len h, List.length_map]
  have e : L2.start N vs = L2.start (N.take (Γ.length + n)) vs ++ [none] := by
    unfold L2.start
    rw [List.append_assoc, ← List.replicate_succ', List.length_take]
    congr 2
    omega
  rw [e]
  exact sat_snoc (start_sat (N := N.take (Γ.length + n)) h (by rw [List.length_take]; omega)) hp
/-- a def that may raise -/
theorem fn_X {sps : τ → List SP} {F : τ → (β → Prop) → ExN → Prop} {RR : RRt β} {M : τ → ExN → Kn Unit Unit β → Prop} (Fn : Fun K x qual st f fd) (S : FnScope N ps (defScope st)) (hl : ∀ z, (sps z).length = ps.length) (hn : N.length = ps.length + (n + 1)) (RB : β → V → Wd → Prop) (hR : ∀ b v W, RB b v W → RR b v W)
    (hbody : ∀ (cdv : Value) (A : Around) (outer : List Env) (s : Shared) (H : Hp) (E : XK), Room k (A.deeper (envOfC qual (defScope st) s.heap.objs.size f cdv)) → ∀ (H0 : Hp) (Ex : ExN), Rx (cxOf (L2.CX P w) P w K mg base N qual (defScope st) f cdv A outer s H E) E H0 Ex → ∀ z, XS (cxOf (L2.CX P w) P w K mg base N qual (defScope st) f cdv A outer s H E) (sps z ++ List.replicate n .unk ++ [.gen (gAnc H0)]) (defBody st) (M z Ex) (fun _ : Unit => [.bot]) (fun _ : Unit => [.bot]) RB)
    (hM : ∀ z P Ex, F z P Ex → M z Ex ⟨fun _ => False, fun _ => False, fun _ => False, P⟩) : FnOk P w K mg base (L2.CX P w) (k + 1) f fd ps (spX mg sps F RR) := by
  refine Fun.okX Fn S (fun vs H Q E ⟨z, W, _, _, _, _, _, _, h, _⟩ => ?_) fun cdv A outer s H vs Q E hr hh => ?_
  · rw [← hl z, ← SatL.len h, List.length_map]
  · obtain ⟨z, W, P', Ex, rfl, hB, kW, hO, h, m, q, qx⟩ := hh
    have tk : L2.Takes (cxOf (L2.CX P w) P w K mg base N qual (defScope st) f cdv A outer s W.H E) (fun cls d _ H => E cls d H) := takes_of rfl rfl rfl rfl
    obtain ⟨t, p, qq⟩ := hbody cdv A outer s W.H E hr W.H Ex ⟨passes_call tk (fun _ _ _ _ h => h), tk, rfl, qx⟩ z
    exact ⟨t, p, qq _ W kW (start_satG h (by rw [hl z]; exact hn) fun j => ⟨hB, fun a _ => hO a⟩) _ _ (hM z P' Ex m) (fun _ _ _ h => h.elim) (fun _ _ _ h => h.elim) (fun _ _ _ h => h.elim) (fun b v W' pb k' s' r' => q b v W' pb k' s' (hR b v W' r'))⟩
/-- .. that hands back nothing -/
theorem fn_PX {sps : τ → List SP} {F : τ → (Unit → Prop) → ExN → Prop} {M : τ → ExN → Kn Unit Unit Unit → Prop} {Γn : Unit → List SP} (Fn : Fun K x qual st f fd) (S : FnScope N ps (defScope st)) (hl : ∀ z, (sps z).length = ps.length) (hn : N.length = ps.length + (n + 1))
    (hbody : ∀ (cdv : Value) (A : Around) (outer : List Env) (s : Shared) (H : Hp) (E : XK), Room k (A.deeper (envOfC qual (defScope st) s.heap.objs.size f cdv)) → ∀ (H0 : Hp) (Ex : ExN), Rx (cxOf (L2.CX P w) P w K mg base N qual (defScope st) f cdv A outer s H E) E H0 Ex → ∀ z, XS (cxOf (L2.CX P w) P w K mg base N qual (defScope st) f cdv A outer s H E) (sps z ++ List.replicate n .unk ++ [.gen (gAnc H0)]) (defBody st) (M z Ex) Γn (fun _ : Unit => [.bot]) (rrc rNon))
    (hM : ∀ z P Ex, F z P Ex → M z Ex ⟨P, fun _ => False, fun _ => False, P⟩) : FnOk P w K mg base (L2.CX P w) (k + 1) f fd ps (spX mg sps F (rrc rNon)) := by
  refine Fun.okX Fn S (fun vs H Q E ⟨z, W, _, _, _, _, _, _, h, _⟩ => ?_) fun cdv A outer s H vs Q E hr hh => ?_
  · rw [← hl z, ← SatL.len h, List.length_map]
  · obtain ⟨z, W, P', Ex, rfl, hB, kW, hO, h, m, q, qx⟩ := hh
    have tk : L2.Takes (cxOf (L2.CX P w) P w K mg base N qual (defScope st) f cdv A outer s W.H E) (fun cls d _ H => E cls d H) := takes_of rfl rfl rfl rfl
    obtain ⟨t, p, qq⟩ := hbody cdv A outer s W.H E hr W.H Ex ⟨passes_call tk (fun _ _ _ _ h => h), tk, rfl, qx⟩ z
    exact ⟨t, p, qq _ W kW (start_satG h (by rw [hl z]; exact hn) fun j => ⟨hB, fun a _ => hO a⟩) _ _ (hM z P' Ex m) (fun u _ W' pu k' s' _ => q () .non W' pu k' s' rfl) (fun _ _ _ h => h.elim) (fun _ _ _ h => h.elim) (fun b v W' pb k' s' r' => q b v W' pb k' s' r')⟩
end
end TM
set_option Elab.async false
set_option linter.all false
set_option maxRecDepth 100000
namespace TM
open PySem PySem.Spec PyProof.Rows L2
/-! ### an instance that is one's own: its fields are stored and read -/
structure Fd : Type 1 where
  name : Str
  α : Type
  r : RT α
  x : α
def FdsOk (Hc : Hp) : List Fd → List (Str × V) → Prop
  | [], [] => True
  | d :: L, p :: fs => (p.1 = d.name ∧ d.r.ok Hc p.2 d.x) ∧ FdsOk Hc L fs
  | _, _ => False
theorem FdsOk.mono {H H' : Hp} (e : Ex H H') : ∀ {L : List Fd} {fs : List (Str × V)}, FdsOk H L fs → FdsOk H' L fs
  | [], [], _ => trivial
  | d :: _, _ :: _, h => ⟨⟨h.1.1, d.r.mono e h.1.2⟩, FdsOk.mono e h.2⟩
theorem FdsOk.len {H : Hp} : ∀ {L : List Fd} {fs : List (Str × V)}, FdsOk H L fs → fs.length = L.length
  | [], [], _ => rfl
  | _ :: _, _ :: _, h => congrArg (· + 1) (FdsOk.len h.2)
theorem FdsOk.snoc {H : Hp} {d : Fd} {v : V} (hv : d.r.ok H v d.x) : ∀ {L : List Fd} {fs : List (Str × V)}, FdsOk H L fs → FdsOk H (L ++ [d]) (fs ++ [(d.name, v)])
  | [], [], _ => ⟨⟨rfl, hv⟩, trivial⟩
  | _ :: _, _ :: _, h => ⟨h.1, FdsOk.snoc hv h.2⟩
theorem FdsOk.ne {H : Hp} {f : Str} : ∀ {L : List Fd} {fs : List (Str × V)}, FdsOk H L fs → (L.all fun d => !decide (d.name = f)) = true → ∀ p ∈ fs, p.1 ≠ f
  | [], [], _, _, p, hp => absurd hp (by simp)
  | d :: L, q :: fs, h, hn, p, hp => by
    rw [List.all_cons, Bool.and_eq_true] at hn
    rcases List.mem_cons.mp hp with e | e
    · rw [e, h.1.1]; simpa using hn.1
    · exact FdsOk.ne h.2 hn.2 p e
/-- the slot of the instance that is filled -/
def gSelf (p C : Addr) (L : List Fd) : GS := ⟨fun i o W => ∃ dx fs, o = some (.ref p) ∧ W.O p = some i ∧ W.H p = some (.ins C dx fs) ∧ W.B p = none ∧ FdsOk W.Hc L fs, fun {i o W W'} h g => by
  obtain ⟨dx, fs, e, ho, hh, hb, hf⟩ := h
  exact ⟨dx, fs, e, (g.own p ho).1, (g.own p ho).2.trans hh, by rw [g.B]; exact hb, hf.mono g.hc⟩⟩
section
variable {X : Cx} {Γ Δ : List SP} {α β γ δ τ S S' B R : Type} {e a b c tg iter elt o : Expr} {es : List Expr} {pos : Pos} {st : Stmt} {sts rest body : List Stmt} {Ex : ExN}
variable {sp C : Addr} {L : List Fd} {f sf : Str} {p1 p2 : Pos}
/-- self.f = e, a new field -/
theorem xt_fldA {M : Mp α} {r : RT α} {Γb : B → List SP} {RR : R → V → Wd → Prop} (h0 : look Γ 0 = .gen (gSelf sp C L)) (c : Cls X.K C) (nf : NoAttr X.K C f) (h : XP X Γ e M r) (hn : (L.all fun d => !decide (d.name = f)) = true) (hl : L.length < 1000 := by decide)
    (hN : X.N[0]? = some sf := by rfl) (hv : Vis X.env.scope sf := by first | exact Or.inl rfl | exact Or.inr (Or.inl rfl) | exact Or.inr (Or.inr rfl)) (hd : (sf == ("__debug__" : Str)) = false := by decide) (hcd : (sf == ("__classdict__" : Str)) = false := by decide) (hs : swapsWith e (some (.Attribute (.Name sf p1) f p2)) pos.line X.env = pure false := by rfl) :
    XSt X Γ (.Assign [.Attribute (.Name sf p1) f p2] e pos) (fun κ : Kn α B R => M κ.nx) (fun x => Γ.set 0 (.gen (gSelf sp C (L ++ [⟨f, α, r, x⟩])))) Γb RR := by
  obtain ⟨t, p, q⟩ := h
  refine ⟨_, ps_fld (pe_var hN hv hd hcd) p hs, fun σ W k g κ D m h1 _ _ _ => ?_⟩
  refine q σ W k g _ _ m fun x v W1 m1 k1 s1 g1 r1 => ?_
  obtain ⟨o, eo, dx, fs, rfl, ho, hh, hb, hf⟩ := g1.look h0 (by simp)
  refine ⟨_, eo, sp, C, dx, fs, rfl, hh, c, nf, by rw [hf.len]; exact hl, ?_⟩
  refine h1 x σ (W1.mut sp (.ins C dx (putF f v fs))) m1 (k1.mut ho) (s1.trans (step_mut ho)) (g1.mut ho eo ⟨dx, _, rfl, ho, upd_same, hb, ?_⟩)
  rw [putF_new (hf.ne hn)]
  exact hf.snoc (d := ⟨f, α, r, x⟩) r1
end
/-- the promise of __init__ over clean arguments, which may raise -/
def spN {τ β : Type} (C : Addr) (mg : Str → Option Value) (sps : τ → List SP) (F : τ → (β → Prop) → ExN → Prop) (r : RT β) : Sp := fun vs H Q E => ∃ (p dx : Addr) (ws : List V) (x : τ) (W : Wd) (P : β → Prop) (Ex : ExN), vs = .ref p :: ws ∧ W.H = H ∧ W.Ok ∧ W.B p = none ∧ (∀ b, W.B b ≠ none → W.O b = none) ∧ W.O p = some 0 ∧
  W.H p = some (.ins C dx []) ∧ SatL 1 (sps x) (ws.map some) W ∧ F x P Ex ∧ (∀ b W', P b → W'.Ok → Step W W' → r.ok W'.Hc (.ref p) b → Q .non W'.H) ∧ WishE mg E W.B Ex
section
variable {X : Cx} {Γ Δ : List SP} {α β γ δ τ S S' B R : Type} {e a b c tg iter elt o : Expr} {es : List Expr} {pos : Pos} {Ex : ExN}
theorem makeN_core {C : Addr} {R : RS τ} {F : τ → (β → Prop) → ExN → Prop} {r : RT β} {W1 : Wd} {v : List V} {y : τ} {P : β → Prop} {Q : VK} {E : XK} (k1 : W1.Ok) (r1 : R.ok W1.Hc v y) (m1 : F y P Ex)
    (h : ∀ b z W', P b → W'.Ok → Grow W1 W' → r.ok W'.Hc (.ref z) b → Q (.ref z) W'.H) (hw : WishE X.mg E W1.H Ex) (z dx : Addr) (nz : W1.H z = none) (ndx : W1.H dx = none) (ne : dx ≠ z) : spN C X.mg R.sps F r (.ref z :: v) (upd (upd W1.H dx (.own z)) z (.ins C dx [])) (fun u H' => u = .non ∧ Q (.ref z) H') E := by
  have hz : upd (upd W1.H dx (.own z)) z (.ins C dx []) z = some (.ins C dx []) := upd_same
  have hdx : upd (upd W1.H dx (.own z)) z (.ins C dx []) dx = some (.own z) := by rw [upd_ne ne, upd_same]
  have oth : ∀ b, b ≠ z → b ≠ dx → upd (upd W1.H dx (.own z)) z (.ins C dx []) b = W1.H b := fun b n1 n2 => by rw [upd_ne n1, upd_ne n2]
  have exx : TM.Ex W1.H (upd (upd W1.H dx (.own z)) z (.ins C dx [])) := fun b o e => by rw [oth b (ne_of_none e nz) (ne_of_none e ndx)]; exact e
  refine ⟨z, dx, v, y, ⟨W1.Hc, _, fun b => if b = z then some 0 else if b = dx then some 1000 else none, W1.H⟩, P, Ex, rfl, rfl, ⟨fun b o e => exx b o (k1.ex b o e), fun b j q => ?_, fun b e => ⟨fun q => ?_, fun _ => ?_⟩⟩, nz, fun b e => ?_, if_pos rfl, hz, R.sat (W := ⟨W1.Hc, _, _, _⟩) 1 r1, m1, fun b W2 pb k2 s2 r2 => ⟨rfl, ?_⟩, hw⟩
  · have q : (if b = z then some 0 else if b = dx then some 1000 else none) = some j := q
    show W1.Hc b = none ∧ upd (upd W1.H dx (.own z)) z (.ins C dx []) b ≠ none
    by_cases n1 : b = z
    · rw [n1]; exact ⟨k1.none_of nz, by rw [hz]; simp⟩
    · by_cases n2 : b = dx
      · rw [n2]; exact ⟨k1.none_of ndx, by rw [hdx]; simp⟩
      · rw [if_neg n1, if_neg n2] at q; cases q
  · have q : upd (upd W1.H dx (.own z)) z (.ins C dx []) b = none := q
    rw [oth b (fun w => e (by rw [w]; exact nz)) (fun w => e (by rw [w]; exact ndx))] at q; exact e q
  · exact oth b (fun w => e (by rw [w]; exact nz)) (fun w => e (by rw [w]; exact ndx))
  · show (if b = z then some 0 else if b = dx then some 1000 else none) = none
    rw [if_neg (fun w => e (by rw [w]; exact nz)), if_neg (fun w => e (by rw [w]; exact ndx))]
  · have nO : ∀ b, W1.H b ≠ none → (if b = z then some 0 else if b = dx then some 1000 else (none : Option Nat)) = none := fun b q => by
      rw [if_neg (fun w => q (by rw [w]; exact nz)), if_neg (fun w => q (by rw [w]; exact ndx))]
    have kp : TM.Ex W1.H W2.H := fun b o e => s2.keep b o (exx b o e) (nO b (ne_none_of e))
    have od : ∀ b, W1.H b ≠ none → W2.Hc b = W1.Hc b := fun b q => by
      obtain ⟨o, e⟩ := of_ne_none q
      exact (s2.old b (ne_none_of (exx b o e)) (nO b q)).1
    have dm : ∀ b, W1.H b ≠ none → W2.H b ≠ none := fun b q => by
      obtain ⟨o, e⟩ := of_ne_none q
      exact ne_none_of (kp b o e)
    have k3 : Wd.Ok ⟨W2.Hc, W2.H, W1.O, W1.B⟩ := ⟨k2.ex, fun b j q => by
      obtain ⟨n1, n2⟩ := k1.own b j q
      exact ⟨(od b n2).trans n1, dm b n2⟩, k1.basTo dm (fun b o _ _ q => kp b o q) fun _ _ n => n⟩
    exact h b z ⟨W2.Hc, W2.H, W1.O, W1.B⟩ pb k3 ⟨kp, s2.hc, rfl, od, rfl⟩ r2
/-- C(..) -/
theorem xg_makeX {C : Addr} {k j : Nat} {ps : List Str} {x : Str} {p : Pos} {R : RS τ} {F : τ → (β → Prop) → ExN → Prop} {r : RT β} {M : Mp τ} (wi : Wish X Γ Ex) (G : MakeX X.prog X.w X.K X.mg X.base x C k ps (spN C X.mg R.sps F r)) (hr : Room j X.A) (hj : k + 1 ≤ j)
    (ha : XA X Γ (e :: es) M R.toRA) (hg : Gl X x := by rfl) (hdb : (x == ("__debug__" : Str)) = false := by decide) (he : starEach (e :: es) X.env = (false, eval e X.env) :: starEach es X.env := by rfl) (hpl : (backTo pos (starEach es X.env)).any (·.1) = false := by rfl) :
    XP X Γ (.Call (.Name x p) (e :: es) [] pos) (fun P => M fun y => F y P Ex) r := by
  obtain ⟨hm, f, fd, Mc, hb, G⟩ := G
  obtain ⟨E, hp, hw⟩ := wi
  obtain ⟨t, pp, q⟩ := ha
  refine ⟨_, pe_make Mc G (hr.mono hj) hg hm hb .nil hp pp hdb he hpl, fun σ W k s Q P m h => ?_⟩
  refine q σ W k s _ _ m fun y v W1 m1 k1 s1 g1 r1 => ?_
  intro z dx nz ndx ne
  rw [List.append_nil]
  exact makeN_core k1 r1 m1 (fun b u W2 pb k2 g2 r2 => h b (.ref u) W2 pb k2 (s1.trans g2.step) (g1.up (g2.up k1)) r2) (hw σ W1 k1 g1) z dx nz ndx ne
end
section
variable {P : Program} {w : World} {K : PySem.W.Frag} {mg : Str → Option Value} {base : Heap} {x qual : Str} {st : Stmt} {f : Addr} {fd : FuncData} {N ps : List Str} {k n : Nat} {τ β : Type}
/-- __init__ from its body -/
theorem fn_N {C : Addr} {sps : τ → List SP} {F : τ → (β → Prop) → ExN → Prop} {r : RT β} {S : Type} {M : τ → ExN → Kn S Unit Unit → Prop} {Γn : Addr → τ → S → List SP} {L : τ → S → List Fd} (g : τ → S → β) (Fn : Fun K x qual st f fd) (Sc : FnScope N ps (defScope st)) (hl : ∀ z, (sps z).length + 1 = ps.length) (hn : N.length = ps.length + (n + 1))
    (hbody : ∀ (cdv : Value) (A : Around) (outer : List Env) (s : Shared) (H : Hp) (E : XK), Room k (A.deeper (envOfC qual (defScope st) s.heap.objs.size f cdv)) → ∀ (H0 : Hp) (Ex : ExN) (sp : Addr), Rx (cxOf (L2.CX P w) P w K mg base N qual (defScope st) f cdv A outer s H E) E H0 Ex → ∀ z, XS (cxOf (L2.CX P w) P w K mg base N qual (defScope st) f cdv A outer s H E) ((.gen (gSelf sp C []) :: sps z) ++ List.replicate n .unk ++ [.gen (gAnc H0)]) (defBody st) (M z Ex) (Γn sp z) (fun _ : Unit => [.bot]) (fun _ _ _ => False))
    (hS : ∀ sp z s, look (Γn sp z s) 0 = .gen (gSelf sp C (L z s)))
    (hM : ∀ z P Ex, F z P Ex → M z Ex ⟨fun s => P (g z s), fun _ => False, fun _ => False, fun _ => False⟩)
    (hF : ∀ z s Hc fs p dx, FdsOk Hc (L z s) fs → Hc p = some (.ins C dx fs) → r.ok Hc (.ref p) (g z s)) : FnOk P w K mg base (L2.CX P w) (k + 1) f fd ps (spN C mg sps F r) := by
  refine Fun.okX Fn Sc (fun vs H Q E h => ?_) fun cdv A outer s H vs Q E hr hh => ?_
  · obtain ⟨p, dx, ws, z, W, P', Ex, rfl, _, _, _, _, _, _, h, _⟩ := h
    have := SatL.len h
    rw [List.length_map] at this
    rw [List.length_cons, this]; exact hl z
  · obtain ⟨p, dx, ws, z, W, P', Ex, rfl, rfl, kW, bp, hO, op, hp, h, m, q, qx⟩ := hh
    have tk : L2.Takes (cxOf (L2.CX P w) P w K mg base N qual (defScope st) f cdv A outer s W.H E) (fun cls d _ H => E cls d H) := takes_of rfl rfl rfl rfl
    obtain ⟨t, pt, qq⟩ := hbody cdv A outer s W.H E hr W.B Ex p ⟨passes_call tk (fun _ _ _ _ h => h), tk, rfl, qx⟩ z
    refine ⟨t, pt, qq _ W kW (start_satG (vs := .ref p :: ws) (Γ := .gen (gSelf p C []) :: sps z) ⟨⟨dx, [], rfl, op, hp, bp, trivial⟩, h⟩ (by rw [List.length_cons, hl z]; exact hn) fun j => ⟨rfl, hO⟩) _ _ (hM z P' Ex m) (fun sx σ' W1 ps k1 s1 g1 => ?_) (fun _ _ _ h => h.elim) (fun _ _ _ h => h.elim) (fun _ _ _ h => h.elim)⟩
    obtain ⟨o, eo, dx', fs, rfl, ho, hh, hb, hf⟩ := g1.look (hS p z sx) (by simp)
    have nc := (k1.own p 0 ho).1
    have up : TM.Ex W1.Hc (upd W1.Hc p (.ins C dx' fs)) := fun b o e => by rw [upd_ne (ne_of_none e nc)]; exact e
    have hpn : W.O p ≠ none := by rw [op]; simp
    refine q _ ⟨upd W1.Hc p (.ins C dx' fs), W1.H, fun b => if b = p then none else W1.O b, W1.B⟩ ps ⟨fun b o q => ?_, fun b j q => ?_, k1.basTo (fun _ q => q) (fun _ _ _ _ q => q) fun b e q => ?_⟩ ⟨s1.keep, s1.dom, fun b o e => up b o (s1.hc b o e), fun b q w => ⟨?_, ?_⟩, s1.B⟩ (hF z sx _ fs p dx' (hf.mono up) upd_same)
    · have q : upd W1.Hc p (.ins C dx' fs) b = some o := q
      by_cases z : b = p
      · rw [z] at q ⊢; rw [upd_same] at q; show W1.H p = some o; rw [hh]; exact q
      · rw [upd_ne z] at q; exact k1.ex b o q
    · have q : (if b = p then none else W1.O b) = some j := q
      show upd W1.Hc p (.ins C dx' fs) b = none ∧ _
      by_cases z : b = p
      · rw [if_pos z] at q; cases q
      · rw [if_neg z] at q; rw [upd_ne z]; exact k1.own b j q
    · have q : (if b = p then none else W1.O b) = none := q
      by_cases z : b = p
      · rw [z, hb] at e; exact absurd rfl e
      · rw [if_neg z] at q; exact q
    · show upd W1.Hc p (.ins C dx' fs) b = W.Hc b
      rw [upd_ne fun z => hpn (by rw [← z]; exact w)]; exact (s1.old b q w).1
    · show (if b = p then none else W1.O b) = none
      by_cases z : b = p
      · rw [if_pos z]
      · rw [if_neg z]; exact (s1.old b q w).2
end
end TM
set_option Elab.async false
set_option linter.all false
set_option maxRecDepth 100000
namespace TM
open PySem PySem.Spec PyProof.Rows L2
/-! ### list.count, list.index -/
section
variable {X : Cx}
def rCntV (K : PySem.W.Frag) : V → List V → Hp → VK → Prop := fun x xs H Q => ∃ (a : Addr) (ys : List V) (y : V), x = V.ref a ∧ xs = [y] ∧ SqL K H a ys ∧ flatV y = true ∧ ys.all flatV = true ∧ Q (.int (ys.countP fun z => eqV z y : Nat)) H
theorem mt_cntV : MtR X "list.count" (rCntV X.K) := by
  rintro pins s σ H x xs v us Q I rx rxs ⟨a, ys, y, rfl, rfl, hs, fy, fys, q⟩
  cases rx
  obtain ⟨u, rfl, ru⟩ := rxs.one
  obtain ⟨its, rv, ⟨⟨cls, dd, data, sl⟩, n, ho, hc, hdn, hd⟩, hlen⟩ := I.list hs
  simp only at hc hd
  subst hc hd
  refine call_meets PySem.F.slot_list_count ⟨_, ho, rfl⟩ PySem.F.entry_list_count (PySem.F.args_list_count_2 _ _)
    (SeqAt.list_countAt a its.toArray n dd sl u (eqU y)) ⟨ho, fun w hw => mem_eqAt ru fy rv fys w (by simpa using hw), ?_⟩
  have ec : ∀ {ys : List V} {its : List Value}, Vals ys its → ys.all flatV = true → its.countP (eqU y) = ys.countP fun z => eqV z y := by
    intro ys its rv
    induction rv with
    | nil => intro _; rfl
    | cons r t ih =>
      intro f
      rw [List.all_cons, Bool.and_eq_true] at f
      rw [List.countP_cons, List.countP_cons, ih f.2, eqU_of r f.1]
  refine ⟨.int (ys.countP fun z => eqV z y : Nat), H, I.tok _, ⟨s.toks, ?_⟩, q⟩
  show Value.int ((its.toArray.toList.countP (eqU y) : Nat) : Int) s.toks = Value.int ((ys.countP fun z => eqV z y : Nat) : Int) s.toks
  rw [show its.toArray.toList = its from rfl, ec rv fys]
end
section
variable {X : Cx} {Γ Δ : List SP} {α β γ δ τ S S' B R : Type} {e a b c tg iter elt o : Expr} {es : List Expr} {pos p2 : Pos} {st : Stmt} {sts rest body : List Stmt} {Ex : ExN}
theorem xp_countL {r : RT α} [DecidableEq α] (F : Flat r) {Mo : Mp (List α)} {Me : Mp α} (ho : XB X Γ o Mo r) (he : XP X Γ e Me r)
    (hpe : ∀ t te, PE X o t → PE X e te → PE X (.Call (.Attribute o "count" p2) [e] [] pos) (tBM X.K "list" (rCntV X.K) t (tCons te tNil)) := by exact fun t te h g => pe_bm PySem.F.plainAttrs_list PySem.F.slot_list_count PySem.F.type_list_count mt_cntV h (pa_cons g pa_nil)) :
    XP X Γ (.Call (.Attribute o "count" p2) [e] [] pos) (fun P => Mo fun xs => Me fun y => P ((xs.count y : Nat) : Int)) rInt := by
  obtain ⟨t, p, q⟩ := ho
  obtain ⟨u, p3, q3⟩ := he
  refine ⟨_, hpe t u p p3, fun σ W k s Q P m h => ?_⟩
  refine q σ W k s _ _ m fun xs v W1 m1 k1 s1 g1 r1 => ?_
  obtain ⟨d, vs, rfl, hd, pr⟩ := r1 W1 k1 (Step.refl W1) g1
  refine ⟨.inl ⟨rfl, vs, sql_of hd⟩, ?_⟩
  refine q3 σ W1 k1 g1 _ _ m1 fun y w W2 m2 k2 s2 g2 r2 => ?_
  obtain ⟨d', vs', e', hd', pr'⟩ := r1 W2 k2 s2 g2
  cases e'
  have ew := (F.ok _ _ _).mp r2
  subst ew
  have ev : vs' = xs.map F.f := F.vs pr'
  subst ev
  refine ⟨d, _, F.f y, rfl, rfl, sql_of hd', F.flat y, F.all xs, h _ _ W2 m2 k2 (s1.trans s2) g2 ?_⟩
  show V.int _ = V.int _
  congr 2
  rw [List.countP_map, List.count_eq_countP]
  apply List.countP_congr
  intro z _
  show (eqV (F.f z) (F.f y) = true) ↔ _
  rw [F.inv, F.dec]; simp
theorem xp_indexL {r : RT α} [DecidableEq α] (F : Flat r) {Mo : Mp (List α)} {Me : Mp α} (ho : XB X Γ o Mo r) (he : XP X Γ e Me r)
    (hpe : ∀ t te, PE X o t → PE X e te → PE X (.Call (.Attribute o "index" p2) [e] [] pos) (tBM X.K "list" (rIndex X.K) t (tCons te tNil)) := by exact fun t te h g => pe_bm PySem.F.plainAttrs_list PySem.F.slot_list_index PySem.F.type_list_index mt_index h (pa_cons g pa_nil)) :
    XP X Γ (.Call (.Attribute o "index" p2) [e] [] pos) (fun P => Mo fun xs => Me fun y => y ∈ xs ∧ P ((xs.idxOf y : Nat) : Int)) rInt := by
  obtain ⟨t, p, q⟩ := ho
  obtain ⟨u, p3, q3⟩ := he
  refine ⟨_, hpe t u p p3, fun σ W k s Q P m h => ?_⟩
  refine q σ W k s _ _ m fun xs v W1 m1 k1 s1 g1 r1 => ?_
  obtain ⟨d, vs, rfl, hd, pr⟩ := r1 W1 k1 (Step.refl W1) g1
  refine ⟨.inl ⟨rfl, vs, sql_of hd⟩, ?_⟩
  refine q3 σ W1 k1 g1 _ _ m1 fun y w W2 ⟨my, m2⟩ k2 s2 g2 r2 => ?_
  obtain ⟨d', vs', e', hd', pr'⟩ := r1 W2 k2 s2 g2
  cases e'
  have ew := (F.ok _ _ _).mp r2
  subst ew
  have ev : vs' = xs.map F.f := F.vs pr'
  subst ev
  have hl : xs.idxOf y < xs.length := List.idxOf_lt_length_of_mem my
  refine ⟨d, _, F.f y, xs.idxOf y, F.f xs[xs.idxOf y], rfl, rfl, sql_of hd', F.flat y, F.all xs, by rw [List.getElem?_map, List.getElem?_eq_getElem hl]; rfl, ?_, fun m z hm hz => ?_, h _ _ W2 m2 k2 (s1.trans s2) g2 rfl⟩
  · rw [F.inv, F.dec, List.getElem_idxOf hl]; simp
  · rw [List.getElem?_map, List.getElem?_eq_getElem (by omega)] at hz
    cases hz
    rw [F.inv, F.dec]
    have := List.not_of_lt_findIdx (show m < xs.findIdx (· == y) from hm)
    simpa using this
end
/-! ### isinstance of an exception that is at hand -/
abbrev rRef (a : Addr) : RT Unit := ⟨fun _ v _ => v = .ref a, fun _ h => h⟩
def IsE (X : Cx) (a D : Addr) : Prop := CallR X (.builtin "isinstance") (rIsE X.K D a)
theorem isE_pin {X : Cx} {a D : Addr} {oe : Obj} (C : ExcC X.K D) (hz : Zc (.ref D) none oe) (hf : ∃ vs, oe.data = .fields vs) (hp : (a, oe) ∈ X.pn) : IsE X a D := by
  rintro pins s σ H xs us Q I r ⟨c, cv, b, rfl, hcv, e, q⟩
  obtain ⟨u1, u2, rfl, r1, r2⟩ := vals2 r
  cases r1
  have ec := hcv u2 r2
  subst ec
  have hg := (I.pin (a, oe) (List.mem_append_left _ hp)).1
  have J : PySem.W.InstAt s.heap a oe D none := by
    obtain ⟨vs, hv⟩ := hf
    obtain ⟨o1, o2, o3, o4⟩ := oe
    obtain ⟨h1, h2⟩ := hz
    dsimp only at h1 h2 hv
    subst h1 h2 hv
    exact ⟨hg, rfl, rfl, trivial⟩
  exact PySem.W.kia_one (PySem.W.handS_kitx_exc C.hg C.hk C.hs C.hd C.ha C.hn C.ht C.hm) I.kIn J e nofun fun tk => ⟨.bl b, H, I.kept (t' := tk) fun _ _ z => z, rfl, q⟩
section
variable {X : Cx} {Γ : List SP} {e : Expr} {pos p pn : Pos}
theorem xp_isE {x : Str} {a D C : Addr} {b : Bool} {M : Mp Unit} (hE : IsE X a D) (hm : X.mg "isinstance" = none) (he : XP X Γ e M (rRef a)) (hC : X.mg x = some (.ref C)) (hk : PySem.W.kitOne X.K (.ref D) (.ref C) = some b) (hg : Gl X "isinstance" := by rfl) (hgT : Gl X x := by rfl) (hd : (x == ("__debug__" : Str)) = false := by decide)
    (h1 : starEach [e, .Name x pn] X.env = (false, eval e X.env) :: starEach [.Name x pn] X.env := by rfl) (h2 : starEach [.Name x pn] X.env = (false, eval (.Name x pn) X.env) :: starEach [] X.env := by rfl) (hpl : (backTo pos (starEach [.Name x pn] X.env)).any (·.1) = false := by rfl) :
    XP X Γ (.Call (.Name "isinstance" p) [e, .Name x pn] [] pos) (fun P => M fun _ => P b) rBl := by
  obtain ⟨t, pp, q⟩ := he
  refine ⟨_, pe_callB hE hg hm (by with_unfolding_all rfl) (pa_cons pp (pa_cons (pe_glob (v := .ref C) hgT hC rfl hd) pa_nil h2) h1) (by decide) (by decide) h1 hpl, fun σ W k g Q P m h => ?_⟩
  refine q σ W k g _ _ m fun x v W1 m1 k1 s1 g1 r1 => ?_
  exact ⟨.ref C, .ref C, b, by rw [r1], fun u hu => hu, hk, h b _ W1 m1 k1 s1 g1 rfl⟩
theorem xp_isEB {x : Str} {N : String} {a D : Addr} {b : Bool} {M : Mp Unit} (hE : IsE X a D) (hm : X.mg "isinstance" = none) (he : XP X Γ e M (rRef a)) (hC : X.mg x = none) (hT : bootBuiltins x = some (.type N)) (hk : PySem.W.kitOne X.K (.ref D) (.type N) = some b) (hg : Gl X "isinstance" := by rfl) (hgT : Gl X x := by rfl) (hd : (x == ("__debug__" : Str)) = false := by decide) (hnm : x ≠ "__name__" := by decide)
    (h1 : starEach [e, .Name x pn] X.env = (false, eval e X.env) :: starEach [.Name x pn] X.env := by rfl) (h2 : starEach [.Name x pn] X.env = (false, eval (.Name x pn) X.env) :: starEach [] X.env := by rfl) (hpl : (backTo pos (starEach [.Name x pn] X.env)).any (·.1) = false := by rfl) :
    XP X Γ (.Call (.Name "isinstance" p) [e, .Name x pn] [] pos) (fun P => M fun _ => P b) rBl := by
  obtain ⟨t, pp, q⟩ := he
  refine ⟨_, pe_callB hE hg hm (by with_unfolding_all rfl) (pa_cons pp (pa_cons (pe_bltn (v := .ty N) hgT hC hT rfl hnm hd) pa_nil h2) h1) (by decide) (by decide) h1 hpl, fun σ W k g Q P m h => ?_⟩
  refine q σ W k g _ _ m fun x v W1 m1 k1 s1 g1 r1 => ?_
  exact ⟨.ty N, .type N, b, by rw [r1], fun u hu => hu, hk, h b _ W1 m1 k1 s1 g1 rfl⟩
end
end TM
set_option Elab.async false
set_option linter.all false
set_option maxRecDepth 100000
set_option maxHeartbeats 1000000
namespace TM
open PySem PySem.Spec PyProof.Rows L2
/-! ### the tables of code objects: a slot without a name -/
/-- behind the making of a lambda: nothing new, or its code object and the table's new row -/
def TabNx (P : Addr) (q : Str) (ps : Array Value) (H H1 : Hp) : Prop :=
  H1 = H ∨ ∃ (pos : Pos) (d : Addr), H d = none ∧ H1 = upd (upd H P (.tbl (ps ++ #[rawInt pos.line, rawInt pos.col, .ref d]))) d (LamX.CodeO d q)
abbrev lamQ (X : Cx) : Str := X.env.qual ++ "<lambda>"
/-- what a table holds, its code objects among the clean ones -/
def TabC (Hc H : Hp) (P : Addr) (q : Str) : Prop := ∃ ps : Array Value, H P = some (.tbl ps) ∧ TriplesOk ps.toList ∧ ∀ (pos : Pos) (cv : Value), codeAmong pos ps.toList = some cv → ∃ d, cv = .ref d ∧ Hc d = some (LamX.CodeO d q)
theorem TabC.mono {Hc Hc' H H' : Hp} {P : Addr} {q : Str} (h : TabC Hc H P q) (e : Ex Hc Hc') (eP : H' P = H P) : TabC Hc' H' P q := by
  obtain ⟨ps, h1, h2, h3⟩ := h
  refine ⟨ps, eP.trans h1, h2, fun pos cv hc => ?_⟩
  obtain ⟨d, e1, e2⟩ := h3 pos cv hc
  exact ⟨d, e1, e _ _ e2⟩
abbrev Tbs := List (Addr × Str)
def gTab (T : Tbs) : GS := ⟨fun i _ W => ∀ p ∈ T, W.O p.1 = some i ∧ TabC W.Hc W.H p.1 p.2, fun {i o W W'} h g p hp => ⟨(g.own p.1 (h p hp).1).1, (h p hp).2.mono g.hc (g.own p.1 (h p hp).1).2⟩⟩
section
variable {X : Cx} {pins : List (Addr × Obj)} {σ : L2.St} {H : Hp} {s : Shared}
/-- the value of a lambda -/
theorem lam_new {c P : Addr} {ps : Array Value} {params : Arguments} {body : Expr} {scope : Scope} {pos : Pos} {E Q : Value → Shared → Prop} (I : Inv X pins σ H s) (TB : LamX.TabB X.base X.mg c P) (hcode : X.env.code = .ref c)
    (hP : H P = some (.tbl ps)) (ht : TriplesOk ps.toList) (ha : ∀ (p : Pos) (cv : Value), codeAmong p ps.toList = some cv → ∃ d, cv = .ref d ∧ H d = some (LamX.CodeO d (lamQ X)))
    (hdef : defaultsOf params X.env = ([], [])) (hfree : ∀ y ∈ scope.names, y.2 = .free → ∃ d, X.env.cells.lookup y.1 = some d)
    (h : ∀ (f d : Addr) (pm ctv : Value) (H1 : Hp) (s' : Shared), TabNx P (lamQ X) ps H H1 → Inv X pins σ H1 s' → H1 d = some (LamX.CodeO d (lamQ X)) →
      s'.heap.get? f = some (PySem.W.kla_obj "<lambda>" (lamQ X) params body scope (cloFrom X.env.cells scope.names []) pm d ctv) → H1 f = none → f ∉ frs X.stack → Q (.ref f) s') :
    wpAny (model X.prog X.w) X.A (eval (.Lambda params body scope pos) X.env) Q E s := by
  have bP := TB.bm.keeps I.bk
  have cP := TB.code.keeps I.bk
  have gP := I.mod.glob.keeps I.bk
  have oP : s.heap.get? P = some { cls := .none, data := .fields ps } := I.hok P _ hP
  have clo := closure_ok hfree
  have out : ∀ f, s.heap.objs.size ≤ f → f ∉ frs X.stack := by
    intro f hf hm
    rcases List.mem_cons.mp (I.stkSub _ hm) with e | e
    · have l1 := I.lt
      rw [← e] at l1
      exact absurd hf (Nat.not_le.mpr l1)
    · exact I.nofs hf e
  refine PySem.W.kla_eval hdef ?_
  rcases hc : codeAmong pos ps.toList with _ | cv
  · refine PySem.W.kla_makeFunction (mg := X.mg) (c := c) (P := P) (ps := ps) clo I.ok.glob gP hcode cP oP ht hc TB.gP bP fun d ctv h' tk keep lo hi rec tab => ?_
    obtain ⟨d2, oc, vs, t, e2, r1, r2, r3⟩ := rec
    cases e2
    have nd : H d = none := I.hok.fresh lo
    have np : P ≠ d := ne_of_none hP nd
    have big : s.heap.objs.size ≤ h'.objs.size := Nat.le_trans lo (Nat.le_of_lt hi)
    refine h h'.objs.size d _ ctv _ _ (.inr ⟨pos, d, nd, rfl⟩) (LamX.inv_table (t' := tk) (q := lamQ X) (more := #[rawInt pos.line, rawInt pos.col, .ref d]) (h' := h'.push _) I hP (fun b o _ e => ?_) (Heap.get?_push_of_some _ tab) lo ⟨oc, vs, t, Heap.get?_push_of_some _ r1, r2, r3⟩) upd_same (Heap.get?_push_size _ rfl) ?_ (out _ big)
    · exact Heap.get?_push_of_some _ (keep b o ‹_› e)
    · have n1 : h'.objs.size ≠ d := Nat.ne_of_gt hi
      have n2 : h'.objs.size ≠ P := Nat.ne_of_gt (Nat.lt_of_lt_of_le (Heap.lt_size oP) big)
      rw [upd_ne n1, upd_ne n2]
      exact I.hok.fresh big
  · obtain ⟨d, rfl, hd⟩ := ha pos cv hc
    refine PySem.W.kla_makeFunctionHit (mg := X.mg) (c := c) (P := P) (ps := ps) clo I.ok.glob gP hcode cP oP ht hc bP fun ctv h' tk keep big => ?_
    exact h h'.objs.size d _ ctv H _ (.inl rfl) (I.kept (t' := tk) fun b o e => Heap.get?_push_of_some _ (keep b o e)) hd (Heap.get?_push_size _ rfl) (I.hok.fresh big) (out _ big)
end
/-- x(lambda: body), from what x makes of a lambda -/
def tLamC (P : Addr) (q : Str) (TT : (XK → Hp → VK → Prop) → Hp → VK → Prop) (t : XK → TE) : TE := fun σ H Q =>
  ∃ ps : Array Value, H P = some (.tbl ps) ∧ TriplesOk ps.toList ∧ (∀ (p : Pos) (cv : Value), codeAmong p ps.toList = some cv → ∃ d, cv = .ref d ∧ H d = some (LamX.CodeO d q)) ∧ ∀ H1, TabNx P q ps H H1 → TT (fun E H' Q' => t E σ H' Q') H1 Q
/-- what the callee of a lambda is, for every such call -/
structure LamF (X : Cx) (x : Str) (k : Nat) (a : Str) (TT : (XK → Hp → VK → Prop) → Hp → VK → Prop) : Prop where
  ex : ∃ (g : Addr) (pg : Arguments) (bg : List Stmt) (sg : Scope) (dV kV doc pm cdv ct oc : Value) (an od : Option Addr) (osl : Array (Option Value)) (Ng : List Str),
    X.mg x = some (.ref g) ∧ PySem.W.keepIn X.K (.ref g) = true ∧ X.K.lookup g = some ⟨oc, od, .func (PySem.W.fnOf x x pg bg sg dV kV doc pm an cdv ct), osl⟩ ∧ PySem.W.codeIn X.K cdv x = true ∧
    L2.Binds X.K (PySem.W.fnOf x x pg bg sg dV kV doc pm an cdv ct) [a] [] ∧ FnScope Ng [a] sg ∧ Ng[0]? = some a ∧ Vis sg a ∧ LamX.GivesTo X Ng x sg g cdv bg a (lamQ X) TT
section
variable {X : Cx}
theorem pe_lamC {TT : (XK → Hp → VK → Prop) → Hp → VK → Prop} {x a : Str} {c P : Addr} {k : Nat} {params : Arguments} {body : Expr} {scope : Scope} {t : XK → TE} {p lpos pos : Pos} (F : LamF X x k a TT) (hg : Gl X x)
    (TB : LamX.TabB X.base X.mg c P) (hcode : X.env.code = .ref c) (hr : Room (k + 2) X.A) (L : LamX.LamS X.env.scope scope) (hdef : defaultsOf params X.env = ([], []))
    (hbind : ∀ (q : Str) (cl : List (Str × Addr)) (pm cv ctv : Value), bindArgs (PySem.W.kla_fn "<lambda>" q params body scope cl pm cv ctv) ⟨[], []⟩ = pure [])
    (hbody : ∀ (A : Around) (outer : List Env) (s : Shared) (H : Hp) (E : XK) (f d : Addr), Room k (A.deeper (LamX.lamEnv X scope s.heap.objs.size f d)) → PE (LamX.lamCx X A outer s H E scope f d) body (t E))
    (hdb : (x == ("__debug__" : Str)) = false := by decide) (hd : (a == ("__debug__" : Str)) = false := by decide) (hcd : (a == ("__classdict__" : Str)) = false := by decide) :
    PE X (.Call (.Name x p) [.Lambda params body scope lpos] [] pos) (tLamC P (lamQ X) TT t) := by
  obtain ⟨g, pg, bg, sg, dV, kV, doc, pm, cdv, ct, oc, an, od, osl, Ng, hm, hk, lk, hcg, hb, Sg, hNg, hva, hG⟩ := F.ex
  refine ⟨fun pins s σ H Q I ⟨ps, hP, ht, ha, h⟩ => wpAny_Call_Name_kw (ld_glob I hg hm (PySem.W.callWith_K (h₀ := X.base) I.ok.mod.kin hk ?_ (by rfl) (by rfl)) hdb)⟩
  show wpAny _ _ (spliced ((false, eval (.Lambda params body scope lpos) X.env) :: backTo pos (starEach [] X.env))) _ _ s
  refine Calls.spliced_cons (lam_new I TB hcode hP ht ha hdef (L.has I.ok) fun f d pm' ctv H1 s' nx I1 hco hf hfn hfr => Calls.spliced_nil ⟨I1.kIn, ?_⟩)
  have rc : codeAny (model X.prog X.w) X.A (.call (.ref g) ⟨[.ref f], []⟩) (CR C8.CX0 X.stack X.prog X.w H1 s' Q C8.E0) s' :=
    LamX.run_ofS (N := Ng) (ps := [a]) (us := [.ref f]) (vs := [.ref f]) lk hcg Sg hr I1.env0 (hb s' [.ref f] I1.kIn rfl) (.cons rfl .nil) rfl fun hr' => by
      obtain ⟨t', ht', hq'⟩ := hG f d s' H1 Q (fun E H' Q' => t E σ H' Q') (fun W pn xe E p1 p2 tk hW => LamX.pe_act (i := 0) I1 L hf hfn hfr (hbind _ _ _ _ _) tk hW hr' (fun A outer s H hr2 => hbody A outer s H E f d hr2) hNg hva hd hcd) hco (h H1 nx)
      exact ⟨t', ht'.nox, hq'⟩
  refine wpAny_call (codeAny_mono rc fun r s2 hq => ?_)
  rcases r with e | fl
  · exact (show False from hq).elim
  · cases fl with
    | ret u => exact I1.after hq
    | next => exact False.elim hq
    | brk => exact False.elim hq
    | cont => exact False.elim hq
end
end TM
set_option Elab.async false
set_option linter.all false
set_option maxRecDepth 100000
set_option maxHeartbeats 1000000
namespace TM
open PySem PySem.Spec PyProof.Rows L2
theorem sat_of2 {Γ : List SP} {σ : St} {W W' : Wd} (g : Sat Γ σ W) (h : ∀ j o, σ[j]? = some o → SPok (look Γ j) j o W → SPok (look Γ j) j o W') : Sat Γ σ W' := sat_of (SatL.len g) fun k o e => h k o e (sat_at g e)
def tbok (T : Tbs) (n : Nat) (W : Wd) : Prop := ∀ p ∈ T, W.O p.1 = some n ∧ TabC W.Hc W.H p.1 p.2
theorem sat_tb {Γ : List SP} {σ : St} {W : Wd} {i : Nat} {T : Tbs} (g : Sat Γ σ W) (h : look Γ i = .gen (gTab T)) : tbok T i W := by
  obtain ⟨_, _, q⟩ := g.look h (by simp)
  exact q
theorem among_snoc {pos p : Pos} {c cv : Value} : ∀ {l : List Value}, TriplesOk l → codeAmong p (l ++ [rawInt pos.line, rawInt pos.col, c]) = some cv → codeAmong p l = some cv ∨ cv = c := fun {l} h hc => LamX.among_app l h hc
/-- the world behind the making of a lambda -/
theorem tab_step {Γ : List SP} {σ : St} {W : Wd} {i : Nat} {T : Tbs} {P : Addr} {q : Str} {ps : Array Value} {H1 : Hp} (k : W.Ok) (g : Sat Γ σ W) (hi : look Γ i = .gen (gTab T)) (hm : (P, q) ∈ T) (hu : ∀ p ∈ T, p.1 = P → p.2 = q)
    (hP : W.H P = some (.tbl ps)) (ht : TriplesOk ps.toList) (nx : TabNx P q ps W.H H1) : ∃ W1, W1.H = H1 ∧ W1.Ok ∧ Step W W1 ∧ Sat Γ σ W1 := by
  rcases nx with e | ⟨pos, d, nd, e⟩
  · exact ⟨W, e.symm, k, Step.refl W, g⟩
  subst e
  have tb := sat_tb g hi
  have oP := (tb _ hm).1
  have nP : P ≠ d := ne_of_none hP nd
  have ndc := k.none_of nd
  have at_ : ∀ b, b ≠ P → b ≠ d → upd (upd W.H P (.tbl (ps ++ #[rawInt pos.line, rawInt pos.col, .ref d]))) d (LamX.CodeO d q) b = W.H b := fun b h1 h2 => by rw [upd_ne h2, upd_ne h1]
  have hc : Ex W.Hc (upd W.Hc d (LamX.CodeO d q)) := fun b o e => by rw [upd_ne (ne_of_none e ndc)]; exact e
  have cP : W.Hc P = none := (k.own P i oP).1
  have dm : ∀ b, W.H b ≠ none → upd (upd W.H P (.tbl (ps ++ #[rawInt pos.line, rawInt pos.col, .ref d]))) d (LamX.CodeO d q) b ≠ none := fun b e => upd_dom (upd_dom e)
  refine ⟨⟨upd W.Hc d (LamX.CodeO d q), _, W.O, W.B⟩, rfl, ⟨fun b o e => ?_, fun b j e => ?_, k.basTo dm (fun b o e n w => ?_) fun _ _ n => n⟩, ⟨fun b o e n => ?_, dm, hc, fun b e n => ⟨?_, n⟩, rfl⟩, sat_of2 g fun j o e w => ?_⟩
  · have e : upd W.Hc d (LamX.CodeO d q) b = some o := e
    by_cases z : b = d
    · subst z; rw [upd_same] at e; exact upd_same.trans e
    · rw [upd_ne z] at e
      exact (at_ b (fun y => by rw [y, cP] at e; cases e) z).trans (k.ex b o e)
  · obtain ⟨n1, n2⟩ := k.own b j e
    refine ⟨?_, dm b n2⟩
    show upd W.Hc d _ b = none
    rw [upd_ne fun y => n2 (by rw [y]; exact nd)]; exact n1
  · exact (at_ b (fun y => by rw [y, oP] at n; cases n) (ne_of_none w nd)).trans w
  · exact (at_ b (fun y => by rw [y, oP] at n; cases n) (ne_of_none e nd)).trans e
  · show upd W.Hc d _ b = W.Hc b
    exact upd_ne fun y => e (by rw [y]; exact nd)
  · by_cases z : j = i
    · subst z
      rw [hi]
      intro p hp
      obtain ⟨p1, p2⟩ := tb p hp
      refine ⟨p1, ?_⟩
      by_cases y : p.1 = P
      · rw [hu p hp y, y]
        refine ⟨_, (upd_ne nP).trans upd_same, ?_, fun p' cv hcv => ?_⟩
        · rw [show (ps ++ #[rawInt pos.line, rawInt pos.col, .ref d]).toList = ps.toList ++ [rawInt pos.line, rawInt pos.col, .ref d] by simp]
          exact PySem.TriplesOk_snoc _ _ _ _ ht
        · rw [show (ps ++ #[rawInt pos.line, rawInt pos.col, .ref d]).toList = ps.toList ++ [rawInt pos.line, rawInt pos.col, .ref d] by simp] at hcv
          rcases among_snoc ht hcv with a | a
          · obtain ⟨ps2, b1, b2, b3⟩ := (tb _ hm).2
            rw [hP] at b1
            cases b1
            obtain ⟨d0, e1, e2⟩ := b3 p' cv a
            exact ⟨d0, e1, hc _ _ e2⟩
          · exact ⟨d, a, upd_same⟩
      · exact p2.mono hc (at_ _ y (fun w => by rw [w] at p1; rw [k.free nd] at p1; cases p1))
    · exact w.kp ⟨hc, fun b e => ⟨e, at_ b (fun y => z (by rw [y, oP] at e; exact (Option.some.inj e).symm)) (fun y => by rw [y, k.free nd] at e; cases e)⟩, rfl, fun _ _ n => n⟩
def lamL (Γ : List SP) (i : Nat) (H0 : Hp) : List SP := (clnL Γ).set i (.gen (gAnc H0))
theorem sat_lam {Γ : List SP} {σ : St} {W : Wd} {i : Nat} (g : Sat Γ σ W) (hi : i < Γ.length) : Sat (lamL Γ i W.H) σ ⟨W.Hc, W.H, fun _ => none, W.H⟩ := by
  have h1 : Sat (clnL Γ) σ ⟨W.Hc, W.H, fun _ => none, W.H⟩ := sat_cln (W := W) (W' := ⟨W.Hc, W.H, fun _ => none, W.H⟩) (fun _ _ h => h) g
  obtain ⟨o, e, _⟩ := SatL.get (i := i) g hi
  have := h1.put (i := i) (p := .gen (gAnc W.H)) (o := o) ⟨rfl, fun _ _ => rfl⟩
  rwa [set_same e] at this
/-! ### what is made of a lambda -/
/-- of which class a refusal is, as a word -/
def TKind (mg : Str → Option Value) (kw : Str → Option Str) : (XK → Hp → VK → Prop) → Hp → VK → Prop := fun tl H Q =>
  tl (fun cls d H' => d = none ∧ ∃ nm D w, cls = .ref D ∧ mg nm = some (.ref D) ∧ kw nm = some w ∧ ∀ H'', (∀ b o, H' b = some o → H'' b = some o) → Q (.str w) H'') H fun _ H' => Q (.str "told") H'
/-- what is told, or the word of what is refused -/
def TAsk (mg : Str → Option Value) (kw : Str → Option Str) : (XK → Hp → VK → Prop) → Hp → VK → Prop := fun tl H Q =>
  tl (fun cls d H' => d = none ∧ ∃ nm D w, cls = .ref D ∧ mg nm = some (.ref D) ∧ kw nm = some w ∧ ∀ H'', (∀ b o, H' b = some o → H'' b = some o) → Q (.str w) H'') H Q
/-- a thing, or a word -/
def rA {α : Type} (r : RT α) : RT (Except Str α) := ⟨fun H v x => match x with
  | .ok y => r.ok H v y
  | .error w => v = .str w, fun {H H' v x} e h => by
    cases x with
    | ok y => exact r.mono e h
    | error w => exact h⟩
def exW (kw : Str → Option Str) (P : Str → Prop) : ExN := fun nm => ∃ w, kw nm = some w ∧ P w
section
variable {X : Cx} {Γ : List SP} {β : Type} {M : ExN → Mp β} {r : RT β}
theorem rx_lam {A : Around} {outer : List Env} {s : Shared} {H H0 : Hp} {E : XK} {Ex : ExN} {scope : Scope} {f d : Addr} (hw : WishE X.mg E H0 Ex) : Rx (LamX.lamCx X A outer s H E scope f d) E H0 Ex :=
  have tk : L2.Takes (LamX.lamCx X A outer s H E scope f d) (fun cls d _ H => E cls d H) := takes_of rfl rfl rfl rfl
  ⟨passes_call tk (fun _ _ _ _ h => h), tk, rfl, hw⟩
theorem xp_lamK {T : Tbs} {kw : Str → Option Str} {x a : Str} {c P : Addr} {k j : Nat} {params : Arguments} {body : Expr} {scope : Scope} {p lpos pos : Pos} (i : Nat) (hi : look Γ i = .gen (gTab T)) (hm : (P, lamQ X) ∈ T) (hu : ∀ p ∈ T, p.1 = P → p.2 = lamQ X) (F : LamF X x k a (TKind X.mg kw))
    (TB : LamX.TabB X.base X.mg c P) (hcode : X.env.code = .ref c) (hr : Room j X.A) (hj : k + 2 ≤ j) (L : LamX.LamS X.env.scope scope) (hdef : defaultsOf params X.env = ([], []))
    (hbind : ∀ (q : Str) (cl : List (Str × Addr)) (pm cv ctv : Value), bindArgs (PySem.W.kla_fn "<lambda>" q params body scope cl pm cv ctv) ⟨[], []⟩ = pure [])
    (hbody : ∀ (A : Around) (outer : List Env) (s : Shared) (H : Hp) (E : XK) (f d : Addr), Room k (A.deeper (LamX.lamEnv X scope s.heap.objs.size f d)) → ∀ (H0 : Hp) (Ex : ExN), Rx (LamX.lamCx X A outer s H E scope f d) E H0 Ex → XP (LamX.lamCx X A outer s H E scope f d) (lamL Γ i H0) body (M Ex) r)
    (hg : Gl X x := by rfl) (hdb : (x == ("__debug__" : Str)) = false := by decide) (hd : (a == ("__debug__" : Str)) = false := by decide) (hcd : (a == ("__classdict__" : Str)) = false := by decide) :
    XP X Γ (.Call (.Name x p) [.Lambda params body scope lpos] [] pos) (fun P => M (exW kw P) fun _ => P "told") rStr := by
  refine ⟨_, pe_lamC (t := fun E σ H Q => ∃ (H0 : Hp) (Ex : ExN), WishE X.mg E H0 Ex ∧ ∀ (A : Around) (outer : List Env) (s : Shared) (H' : Hp) (f d : Addr) (hr : Room k (A.deeper (LamX.lamEnv X scope s.heap.objs.size f d))) (hw : WishE X.mg E H0 Ex), Classical.choose (hbody A outer s H' E f d hr H0 Ex (rx_lam hw)) σ H Q)
    F hg TB hcode (hr.mono hj) L hdef hbind (fun A outer s H E f d hr => ⟨fun pins s' σ H' Q I ⟨H0, Ex, hw, q⟩ => (Classical.choose_spec (hbody A outer s H E f d hr H0 Ex (rx_lam hw))).1.run pins s' σ H' Q I (q A outer s H f d hr hw)⟩) hdb hd hcd, fun σ W kk g Q Pp m h => ?_⟩
  obtain ⟨_, ps, hP, ht, hc⟩ := sat_tb g hi _ hm
  refine ⟨ps, hP, ht, fun p cv e => ?_, fun H1 nx => ?_⟩
  · obtain ⟨d, e1, e2⟩ := hc p cv e
    exact ⟨d, e1, kk.ex _ _ e2⟩
  · obtain ⟨W1, rfl, k1, s1, g1⟩ := tab_step kk g hi hm hu hP ht nx
    have fin : ∀ (w : Str) (H'' : Hp), Pp w → (∀ b o, W1.H b = some o → H'' b = some o) → Q (.str w) H'' := fun w H'' pw e => by
      obtain ⟨k2, gr⟩ := back_big k1 e
      exact h w (.str w) ⟨W1.Hc, H'', W1.O, W1.B⟩ pw k2 (s1.trans gr.step) (g1.up (gr.up k1)) rfl
    refine ⟨W1.H, exW kw Pp, fun nm C H' ⟨w, e1, pw⟩ hC e => ⟨rfl, nm, C, w, rfl, hC, e1, fun H'' e2 => fin w H'' pw fun b o q => e2 b o (e b o q)⟩, fun A outer s H' f d hr hw => ?_⟩
    refine (Classical.choose_spec (hbody A outer s H' _ f d hr W1.H (exW kw Pp) (rx_lam hw))).2 σ ⟨W1.Hc, W1.H, fun _ => none, W1.H⟩ ⟨k1.ex, (by intro a i e; cases e), bas_self⟩ (sat_lam g1 (look_len (by rw [hi]; simp))) _ _ m fun y v W' py k' s' g' r' => ?_
    exact fin "told" W'.H py fun b o q => s'.keep b o q rfl
theorem xp_lamA {T : Tbs} {kw : Str → Option Str} {x a : Str} {c P : Addr} {k j : Nat} {params : Arguments} {body : Expr} {scope : Scope} {p lpos pos : Pos} (i : Nat) (hi : look Γ i = .gen (gTab T)) (hm : (P, lamQ X) ∈ T) (hu : ∀ p ∈ T, p.1 = P → p.2 = lamQ X) (F : LamF X x k a (TAsk X.mg kw))
    (TB : LamX.TabB X.base X.mg c P) (hcode : X.env.code = .ref c) (hr : Room j X.A) (hj : k + 2 ≤ j) (L : LamX.LamS X.env.scope scope) (hdef : defaultsOf params X.env = ([], []))
    (hbind : ∀ (q : Str) (cl : List (Str × Addr)) (pm cv ctv : Value), bindArgs (PySem.W.kla_fn "<lambda>" q params body scope cl pm cv ctv) ⟨[], []⟩ = pure [])
    (hbody : ∀ (A : Around) (outer : List Env) (s : Shared) (H : Hp) (E : XK) (f d : Addr), Room k (A.deeper (LamX.lamEnv X scope s.heap.objs.size f d)) → ∀ (H0 : Hp) (Ex : ExN), Rx (LamX.lamCx X A outer s H E scope f d) E H0 Ex → XP (LamX.lamCx X A outer s H E scope f d) (lamL Γ i H0) body (M Ex) r)
    (hg : Gl X x := by rfl) (hdb : (x == ("__debug__" : Str)) = false := by decide) (hd : (a == ("__debug__" : Str)) = false := by decide) (hcd : (a == ("__classdict__" : Str)) = false := by decide) :
    XP X Γ (.Call (.Name x p) [.Lambda params body scope lpos] [] pos) (fun P => M (exW kw fun w => P (.error w)) fun y => P (.ok y)) (rA r) := by
  refine ⟨_, pe_lamC (t := fun E σ H Q => ∃ (H0 : Hp) (Ex : ExN), WishE X.mg E H0 Ex ∧ ∀ (A : Around) (outer : List Env) (s : Shared) (H' : Hp) (f d : Addr) (hr : Room k (A.deeper (LamX.lamEnv X scope s.heap.objs.size f d))) (hw : WishE X.mg E H0 Ex), Classical.choose (hbody A outer s H' E f d hr H0 Ex (rx_lam hw)) σ H Q)
    F hg TB hcode (hr.mono hj) L hdef hbind (fun A outer s H E f d hr => ⟨fun pins s' σ H' Q I ⟨H0, Ex, hw, q⟩ => (Classical.choose_spec (hbody A outer s H E f d hr H0 Ex (rx_lam hw))).1.run pins s' σ H' Q I (q A outer s H f d hr hw)⟩) hdb hd hcd, fun σ W kk g Q Pp m h => ?_⟩
  obtain ⟨_, ps, hP, ht, hc⟩ := sat_tb g hi _ hm
  refine ⟨ps, hP, ht, fun p cv e => ?_, fun H1 nx => ?_⟩
  · obtain ⟨d, e1, e2⟩ := hc p cv e
    exact ⟨d, e1, kk.ex _ _ e2⟩
  · obtain ⟨W1, rfl, k1, s1, g1⟩ := tab_step kk g hi hm hu hP ht nx
    have fin : ∀ (w : Str) (H'' : Hp), Pp (.error w) → (∀ b o, W1.H b = some o → H'' b = some o) → Q (.str w) H'' := fun w H'' pw e => by
      obtain ⟨k2, gr⟩ := back_big k1 e
      exact h (.error w) (.str w) ⟨W1.Hc, H'', W1.O, W1.B⟩ pw k2 (s1.trans gr.step) (g1.up (gr.up k1)) rfl
    refine ⟨W1.H, exW kw fun w => Pp (.error w), fun nm C H' ⟨w, e1, pw⟩ hC e => ⟨rfl, nm, C, w, rfl, hC, e1, fun H'' e2 => fin w H'' pw fun b o q => e2 b o (e b o q)⟩, fun A outer s H' f d hr hw => ?_⟩
    refine (Classical.choose_spec (hbody A outer s H' _ f d hr W1.H (exW kw fun w => Pp (.error w)) (rx_lam hw))).2 σ ⟨W1.Hc, W1.H, fun _ => none, W1.H⟩ ⟨k1.ex, (by intro a i e; cases e), bas_self⟩ (sat_lam g1 (look_len (by rw [hi]; simp))) _ _ m fun y v W' py k' s' g' r' => ?_
    obtain ⟨k3, g3⟩ := back_core k1 k' s'
    exact h (.ok y) v ⟨W'.Hc, W'.H, W1.O, W1.B⟩ py k3 (s1.trans g3.step) (g1.up (g3.up k1)) r'
end
end TM
set_option Elab.async false
set_option linter.all false
set_option maxRecDepth 100000
set_option maxHeartbeats 1000000
namespace TM
open PySem PySem.Spec PyProof.Rows L2
theorem XS.imp {X : Cx} {Γ : List SP} {sts : List Stmt} {S B R : Type} {M N : Kn S B R → Prop} {Γn : S → List SP} {Γb : B → List SP} {RR : R → V → Wd → Prop} (h : XS X Γ sts M Γn Γb RR) (hm : ∀ κ, N κ → M κ) : XS X Γ sts N Γn Γb RR := by
  obtain ⟨t, p, q⟩ := h
  exact ⟨t, p, fun σ W k g κ D m => q σ W k g κ D (hm κ m)⟩
theorem PSs.lenOk {X : Cx} {sts : List Stmt} {t : TS} (h : PSs X sts t) : PSs X sts (fun D σ H => σ.length = X.N.length → t D σ H) := ⟨fun pins s σ H D I w => h.run pins s σ H D I (w I.len)⟩
def onlyL (n i : Nat) (p : SP) : List SP := (List.replicate n .unk).set i p
theorem sat_only {n i : Nat} {p : SP} {σ : St} {o : Option V} {W : Wd} (hl : σ.length = n) (hp : SPok p i o W) : Sat (onlyL n i p) (σ.set i o) W := by
  have h0 : Sat (List.replicate n .unk) σ W := by
    refine sat_of (by rw [hl]; simp) fun k o' e => ?_
    have : look (List.replicate n .unk) k = .unk := by
      have hh : ∀ (n k : Nat), look (List.replicate n .unk) k = .unk := by
        intro n
        induction n with
        | zero => intro k; cases k <;> rfl
        | succ n ih => intro k; cases k with
          | zero => rfl
          | succ k => exact ih k
      exact hh n k
    rw [this]; trivial
  exact h0.put hp
/-- what a suite of such a clause must answer -/
def SuiteK (X : Cx) (n i : Nat) (sts : List Stmt) (w : Str) (a : Addr) : Prop := XS X (onlyL n i (.cl (rRef a) ())) sts (fun κ : Kn Unit Unit Str => κ.rt w) (fun _ : Unit => [.bot]) (fun _ : Unit => [.bot]) (rrc rStr)
theorem kind_gives {X : Cx} {kw : Str → Option Str} {Ng : List Str} {x a hx en q : Str} {sg : Scope} {g CS : Addr} {cdg : Value} {i j : Nat} {b0 : Stmt} {suite : List Stmt} {p1 p2 p3 p4 p5 p6 p7 p8 : Pos} (hN : Ng.Nodup) (hi : Ng[i]? = some en) (hln : sg.names.lookup en = some .local)
    (hge : sg.names.lookup hx = some .globalImplicit) (hme : X.mg hx = some (.ref CS)) (hde : (hx == ("__debug__" : Str)) = false) (h0 : ∀ f : Addr, (L2.start Ng [V.ref f])[0]? = some (some (V.ref f)))
    (hx1 : ∀ nm D w, X.mg nm = some (.ref D) → kw nm = some w → PySem.W.exmOne X.K (.ref D) (.ref CS) = some true)
    (hS : ∀ (s : Shared) (H : Hp) (nm : Str) (D : Addr) (w : Str) (e : Addr) (oe : Obj) (pn : List (Addr × Obj)), X.mg nm = some (.ref D) → kw nm = some w → Zc (.ref D) none oe → (∃ vs, oe.data = .fields vs) →
      SuiteK ((cxOf C8.CX0 X.prog X.w X.K X.mg X.base Ng x sg g cdg X.A X.stack s H C8.E0).nox.suite e ((e, oe) :: pn)) Ng.length i (b0 :: suite) w e) :
    LamX.GivesTo X Ng x sg g cdg [.Try [.Expr (.Call (.Name a p1) [] [] p2) p3] [.ExceptHandler (some (.Name hx p4)) (some en) (b0 :: suite) p5] [] [] p6, .Return (some (.Constant (.str "told") j p7)) p8] a q (TKind X.mg kw) := by
  intro f c' s H Q tl act hc h
  have hgl : Gl (cxOf C8.CX0 X.prog X.w X.K X.mg X.base Ng x sg g cdg X.A X.stack s H C8.E0).nox hx := hge
  refine ⟨_, pss_cons (ps_try_as (i := i) (X := (cxOf C8.CX0 X.prog X.w X.K X.mg X.base Ng x sg g cdg X.A X.stack s H C8.E0).nox) (c := .ref CS)
      (tb := fun W D σ H => ∃ Ech : XK, (∀ cls d σ' H', Ech cls d H' → W cls d σ' H') ∧ σ[0]? = some (some (.ref f)) ∧ H c' = some (LamX.CodeO c' q) ∧ tl Ech H fun _ H' => D.nx σ H')
      (ts := fun e cls d D σ Hz => ∃ nm D0 w, ∃ (e0 : cls = .ref D0) (e1 : X.mg nm = some (.ref D0)) (e2 : kw nm = some w) (e3 : d = none), ∀ (oe : Obj) (pn : List (Addr × Obj)) (hz : Zc (.ref D0) none oe) (hf : ∃ vs, oe.data = .fields vs), σ.length = Ng.length → Classical.choose (hS s H nm D0 w e oe pn e1 e2 hz hf) D σ Hz)
      rfl rfl hN hi hln ⟨hgl, hde, .inl hme⟩ LamX.takes0 (fun W pn xe tk _ => ?_) (fun e oe cls d pn hz hf => ?_)) (pss_one (ps_ret pe_str)), ?_⟩
  · refine ⟨fun pins s' σ H' D I ⟨Ech, hW, h1, h2, h3⟩ => ?_⟩
    exact (pss_one (ps_expr (pos := p3) (act W pn xe Ech p1 p2 tk hW))).run pins s' σ H' D I ⟨h1, h2, h3⟩
  · refine ⟨fun pins s' σ H' D I ⟨nm, D0, w, e0, e1, e2, e3, hh⟩ => ?_⟩
    subst e0 e3
    exact (Classical.choose_spec (hS s H nm D0 w e oe pn e1 e2 hz hf)).1.run pins s' σ H' D I (hh oe pn hz hf I.len)
  · refine ⟨_, fun cls d σ' H' z => ?_, h0 f, hc, h⟩
    obtain ⟨hd, nm, D0, w, e0, e1, e2, k⟩ := z
    refine ⟨true, by rw [e0]; exact hx1 nm D0 w e1 e2, fun _ e ne => ⟨nm, D0, w, e0, e1, e2, hd, fun oe pn hz hf hl => ?_⟩, fun z => Bool.noConfusion z⟩
    rw [List.length_set] at hl
    refine (Classical.choose_spec (hS s H nm D0 w e oe pn e1 e2 hz hf)).2 _ (bigW H') (bigW_ok H') (sat_only hl (spc rfl)) ⟨fun _ => False, fun _ => False, fun _ => False, fun v => v = w⟩ _ rfl (fun _ _ _ z => z.elim) (fun _ _ _ z => z.elim) (fun _ _ _ z => z.elim) fun r v W' hr k' s' hv => ?_
    have hv : v = .str r := hv
    rw [hv, hr]
    exact k W'.H (KI.keepAll (W := bigW H') s' fun _ => rfl)
section
variable {X : Cx}
/-- f(e), e the exception that is handled, f a def that raises nothing -/
theorem pe_hot1 {e : Addr} {oe : Obj} {wx pw en : Str} {gw : Addr} {fdw : FuncData} {stw : Stmt} {Nw : List Str} {k i : Nat} {p1 p2 pos : Pos} {TQ : Hp → VK → Prop} (hp : (e, oe) ∈ X.pn) (Fw : Fun X.K wx wx stw gw fdw) (Sw : FnScope Nw [pw] (defScope stw)) (hb : L2.Binds X.K fdw [pw] []) (hm : X.mg wx = some (.ref gw)) (hr : L2H.RoomH (k + 1) X.A)
    (hbody : ∀ (cdv : Value) (A : Around) (outer : List Env) (s : Shared) (H : Hp) (E : XK) (Q : VK), TQ H Q → ∃ t, PSs (L2H.cxH CX0 X.prog X.w X.K X.mg X.base Nw wx (defScope stw) gw cdv A outer s H E (e, oe)) (defBody stw) t ∧ t { nx := fun _ H' => Q .non H', rt := Q } (L2.start Nw [.ref e]) H)
    (hg : Gl X wx) (hN : X.N[i]? = some en) (hv : Vis X.env.scope en) (hd : (en == ("__debug__" : Str)) = false) (hcd : (en == ("__classdict__" : Str)) = false) (hdb : (wx == ("__debug__" : Str)) = false)
    (h1 : starEach [.Name en p2] X.env = (false, eval (.Name en p2) X.env) :: starEach [] X.env) (hpl : (backTo pos (starEach [] X.env)).any (·.1) = false) :
    PE X (.Call (.Name wx p1) [.Name en p2] [] pos) (fun σ H Q => σ[i]? = some (some (.ref e)) ∧ TQ H Q) := by
  obtain ⟨oc, od, kV, doc, pm, an, cdv, ct, osl, efd, lk, hcod⟩ := Fw.ex
  subst efd
  refine ⟨fun pins s σ H Q I ⟨hs, hq⟩ => wpAny_Call_Name_kw (ld_glob I hg hm (PySem.W.callWith_K (h₀ := X.base) I.ok.mod.kin Fw.kp (thn ((pa_cons (pe_var (pos := p2) hN hv hd hcd) pa_nil h1).run pos pins s σ H (fun vs H1 => vs = [.ref e] ∧ H1 = H) I ⟨_, hs, rfl, rfl⟩) fun us s1 ⟨vs, H1, I1, r1, ev, eH⟩ => ?_) h1 hpl) hdb)⟩
  subst ev eH
  refine ⟨I1.kIn, ?_⟩
  obtain ⟨u, rfl, ru⟩ := r1.one
  cases ru
  have KX : X.K.In s1.heap := I1.kIn
  have lim : s1.heap.NoLimit := I1.nolimit
  have pn := I1.pin (e, oe) (List.mem_append_left _ hp)
  have hpin : L2H.PinOk X.stack H1 s1 (e, oe) := ⟨pn.1, pn.2.1, fun z => (List.mem_cons.mp (I1.stkSub e z)).elim pn.2.2.1 pn.2.2.2.1, pn.2.2.2.2⟩
  have bnd := hb s1 [.ref e] KX rfl
  rw [List.append_nil] at bnd
  have kinds : ∀ y ∈ [pw].zip [Value.ref e], (defScope stw).names.lookup y.1 = some .local ∨ ((defScope stw).names.lookup y.1 = some .cell ∧ ((cellsFrom (s1.heap.objs.size + 1) (defScope stw).names []).lookup y.1).isSome = true) := by
    rintro ⟨n, v⟩ hy
    rcases Sw.par n (List.of_mem_zip hy).1 with q | q
    · exact .inl q
    · exact .inr ⟨q, PySem.W.cellsFrom_some _ _ _ (.inl q)⟩
  have rc : codeAny (model X.prog X.w) X.A (.call (.ref gw) ⟨[.ref e], []⟩) (CR CX0 X.stack X.prog X.w H1 s1 Q E0) s1 := by
    refine codeAny_call_function hr.depth (KX _ _ lk) rfl Sw.co Sw.gen rfl (PySem.W.codeRec_of KX hcod) (bnd _ _ _ _ (wpAny_newFunctionEnv_cells Sw.kind kinds fun env he s2 x => ?_))
    subst he
    refine ⟨lim.keeps x.toInCall.keep, codeAny_func ?_⟩
    obtain ⟨t, ht, hq'⟩ := hbody cdv X.A X.stack s1 H1 E0 Q hq
    have J := L2H.inv_startH (CX := CX0) (E := E0) (vs := [.ref e]) Sw hpin I1.env0 rfl (.cons rfl .nil) x
    refine wpAny_mono (ht.run [] s2 _ H1 _ J hq') (fun fl s3 q => ?_) fun _ _ z => z
    cases fl with
    | ret u =>
      obtain ⟨v, σ3, H3, J3, rv, q3⟩ := q
      exact ⟨v, H3, J3.os, J3.bare, J3.base, J3.hok, rv, q3⟩
    | next =>
      obtain ⟨σ3, H3, J3, q3⟩ := q
      exact ⟨.non, H3, J3.os, J3.bare, J3.base, J3.hok, rfl, q3⟩
    | brk => exact q.elim fun _ z => z.elim fun _ w => w.2.elim
    | cont => exact q.elim fun _ z => z.elim fun _ w => w.2.elim
  refine wpAny_call (codeAny_mono rc fun r s2 q => ?_)
  rcases r with z | fl
  · exact (show False from q).elim
  · cases fl with
    | ret u => exact I1.after q
    | next => exact False.elim q
    | brk => exact False.elim q
    | cont => exact False.elim q
end
/-- the def that tells a refusal's word -/
def WhichK (X : Cx) (n : Nat) (sts : List Stmt) (w : Str) (a : Addr) : Prop := XS X (onlyL n 0 (.cl (rRef a) ())) sts (fun κ : Kn Unit Unit Str => κ.rt w) (fun _ : Unit => [.bot]) (fun _ : Unit => [.bot]) (rrc rStr)
theorem ask_gives {X : Cx} {kw : Str → Option Str} {Ng Nw : List Str} {x a hx en q wx pw : Str} {sg : Scope} {g gw CS : Addr} {cdg : Value} {fdw : FuncData} {stw : Stmt} {i k : Nat} {p1 p2 p3 p4 p5 p6 p9 p10 p11 p12 : Pos} (hN : Ng.Nodup) (hi : Ng[i]? = some en) (hln : sg.names.lookup en = some .local)
    (hge : sg.names.lookup hx = some .globalImplicit) (hme : X.mg hx = some (.ref CS)) (hde : (hx == ("__debug__" : Str)) = false) (h0 : ∀ f : Addr, (L2.start Ng [V.ref f])[0]? = some (some (V.ref f)))
    (hgw : sg.names.lookup wx = some .globalImplicit) (hmw : X.mg wx = some (.ref gw)) (hdw : (wx == ("__debug__" : Str)) = false) (hd : (en == ("__debug__" : Str)) = false) (hcd : (en == ("__classdict__" : Str)) = false)
    (Fw : Fun X.K wx wx stw gw fdw) (Sw : FnScope Nw [pw] (defScope stw)) (hb : L2.Binds X.K fdw [pw] []) (hr : Room (k + 2) X.A)
    (hx1 : ∀ nm D w, X.mg nm = some (.ref D) → kw nm = some w → PySem.W.exmOne X.K (.ref D) (.ref CS) = some true)
    (hS : ∀ (cdv : Value) (A : Around) (outer : List Env) (s : Shared) (H : Hp) (E : XK) (nm : Str) (D : Addr) (w : Str) (e : Addr) (oe : Obj), X.mg nm = some (.ref D) → kw nm = some w → Zc (.ref D) none oe → (∃ vs, oe.data = .fields vs) →
      WhichK (L2H.cxH CX0 X.prog X.w X.K X.mg X.base Nw wx (defScope stw) gw cdv A outer s H E (e, oe)) Nw.length (defBody stw) w e) :
    LamX.GivesTo X Ng x sg g cdg [.Try [.Return (some (.Call (.Name a p1) [] [] p2)) p3] [.ExceptHandler (some (.Name hx p4)) (some en) [.Return (some (.Call (.Name wx p9) [.Name en p10] [] p11)) p12] p5] [] [] p6] a q (TAsk X.mg kw) := by
  intro f c' s H Q tl act hc h
  have hgl : Gl (cxOf C8.CX0 X.prog X.w X.K X.mg X.base Ng x sg g cdg X.A X.stack s H C8.E0).nox hx := hge
  refine ⟨_, pss_one (ps_try_as (i := i) (X := (cxOf C8.CX0 X.prog X.w X.K X.mg X.base Ng x sg g cdg X.A X.stack s H C8.E0).nox) (c := .ref CS)
      (tb := fun W D σ H => ∃ Ech : XK, (∀ cls d σ' H', Ech cls d H' → W cls d σ' H') ∧ σ[0]? = some (some (.ref f)) ∧ H c' = some (LamX.CodeO c' q) ∧ tl Ech H D.rt)
      (ts := fun e cls d D σ Hz => (σ.length = Ng.length → σ[i]? = some (some (.ref e))) ∧ ∃ nm D0 w, cls = .ref D0 ∧ X.mg nm = some (.ref D0) ∧ kw nm = some w ∧ d = none ∧ ∀ H'', (∀ b o, Hz b = some o → H'' b = some o) → D.rt (.str w) H'')
      rfl rfl hN hi hln ⟨hgl, hde, .inl hme⟩ LamX.takes0 (fun W pn xe tk _ => ?_) (fun e oe cls d pn hz hf => ?_)), ?_⟩
  · refine ⟨fun pins s' σ H' D I ⟨Ech, hW, h1, h2, h3⟩ => ?_⟩
    exact (pss_one (ps_ret (pos := p3) (act W pn xe Ech p1 p2 tk hW))).run pins s' σ H' D I ⟨h1, h2, h3⟩
  · refine ⟨fun pins s' σ H' D I ⟨h1, nm, D0, w, e0, e1, e2, e3, hh⟩ => ?_⟩
    subst e0 e3
    have hr2 : L2H.RoomH (k + 1) ((cxOf C8.CX0 X.prog X.w X.K X.mg X.base Ng x sg g cdg X.A X.stack s H C8.E0).nox.suite e ((e, oe) :: pn)).A := by
      have := L2H.roomH_of (hr.deeper (envOfC x sg s.heap.objs.size g cdg))
      exact ⟨this.dp, this.un⟩
    refine (pss_one (ps_ret (pos := p12) (pe_hot1 (k := k) (i := i) (pos := p11) (p1 := p9) (p2 := p10) (TQ := fun Hz Q => ∀ H'', (∀ b o, Hz b = some o → H'' b = some o) → Q (.str w) H'') (X := (cxOf C8.CX0 X.prog X.w X.K X.mg X.base Ng x sg g cdg X.A X.stack s H C8.E0).nox.suite e ((e, oe) :: pn)) (oe := oe) List.mem_cons_self Fw Sw hb hmw hr2 (fun cdv A outer s2 H2 E Q2 tq => ?_) hgw hi (.inl hln) hd hcd hdw rfl rfl))).run pins s' σ H' D I ⟨h1 I.len, hh⟩
    obtain ⟨t, p, qq⟩ := hS cdv A outer s2 H2 E nm D0 w e oe e1 e2 hz hf
    refine ⟨t, p, qq (L2.start Nw [.ref e]) (bigW H2) (bigW_ok H2) ?_ ⟨fun _ => False, fun _ => False, fun _ => False, fun v => v = w⟩ _ rfl (fun _ _ _ z => z.elim) (fun _ _ _ z => z.elim) (fun _ _ _ z => z.elim) fun r v W' hr k' s' hv => ?_⟩
    · have hN0 : 1 ≤ Nw.length := by
        have := congrArg List.length Sw.pre
        rw [List.length_take] at this
        simp at this; omega
      have hl : (L2.start Nw [.ref e]).length = Nw.length := by
        unfold L2.start
        simp; omega
      have q0 : (L2.start Nw [V.ref e])[0]? = some (some (V.ref e)) := rfl
      have := sat_only (n := Nw.length) (i := 0) (p := .cl (rRef e) ()) (o := some (V.ref e)) (W := bigW H2) hl (spc rfl)
      rwa [set_same q0] at this
    · have hv : v = .str r := hv
      rw [hv, hr]
      exact tq W'.H (KI.keepAll (W := bigW H2) s' fun _ => rfl)
  · refine ⟨_, fun cls d σ' H' z => ?_, h0 f, hc, h⟩
    obtain ⟨hd, nm, D0, w, e0, e1, e2, k⟩ := z
    refine ⟨true, by rw [e0]; exact hx1 nm D0 w e1 e2, fun _ e ne => ⟨fun hl => ?_, nm, D0, w, e0, e1, e2, hd, k⟩, fun z => Bool.noConfusion z⟩
    rw [List.length_set] at hl
    exact List.getElem?_set_self (by rw [hl]; exact (List.getElem?_eq_some_iff.mp hi).1)
end TM
set_option Elab.async false
set_option linter.all false
set_option maxRecDepth 100000
set_option maxHeartbeats 1000000
namespace TM
open PySem PySem.Spec PyProof.Rows L2
/-! ### defs that make lambdas: the tables of code objects are theirs meanwhile -/
/-- owners at the entry: the box, then the tables -/
def ownT (ba : Option Addr) (T : Tbs) (n : Nat) : Addr → Option Nat := fun b => if some b = ba then some 0 else if b ∈ T.map (·.1) then some n else none
def bxT (ba : Option Addr) : List V → List V → Prop := fun vs ws => match ba with
  | none => vs = ws
  | some a => vs = .ref a :: ws
def bxN : Option Addr → Nat
  | none => 0
  | some _ => 1
def spT {τ β : Type} (box : Bool) (T : Tbs) (n : Nat) (sps : τ → List SP) (F : τ → Mp β) (RR : RRt β) : Sp := fun vs H Q _ => ∃ (ba : Option Addr) (ws : List V) (x : τ) (W : Wd) (P : β → Prop), ba.isSome = box ∧ bxT ba vs ws ∧ W.H = H ∧ W.B = H ∧ W.Ok ∧ W.O = ownT ba T n ∧ (∀ a, ba = some a → BoxIs (W.H a)) ∧ tbok T n W ∧
  SatL (bxN ba) (sps x) (ws.map some) W ∧ F x P ∧ ∀ b v W', P b → W'.Ok → Step W W' → bxok ba W' → tbok T n W' → RR b v W' → Q v W'.H
section
variable {X : Cx} {Γ Δ : List SP} {α β γ δ τ S S' B R : Type} {e a b c tg iter elt o : Expr} {es : List Expr} {pos : Pos} {st : Stmt} {sts rest body : List Stmt}
theorem ownT_tb {ba : Option Addr} {T : Tbs} {n : Nat} {b : Addr} (h : b ∈ T.map (·.1)) (hb : some b ≠ ba) : ownT ba T n b = some n := by
  unfold ownT
  rw [if_neg hb, if_pos h]
/-- a call of such a def -/
theorem callT_core {R : RS τ} {F : τ → Mp β} {RR : RRt β} {x : τ} {vs ws : List V} {σ : St} {W : Wd} {Q : VK} {E : XK} {P : β → Prop} {ba : Option Addr} {bi i n : Nat} {T : Tbs} {box : Bool} (hbox : ba.isSome = box) (hv : bxT ba vs ws) (k : W.Ok) (g : Sat Γ σ W) (hi : look Γ i = .gen (gTab T)) (hb : ∀ a, ba = some a → look Γ bi = .bx a) (hr : R.ok W.Hc ws x) (m : F x P)
    (h : ∀ b v W', P b → W'.Ok → Step W W' → Sat Γ σ W' → RR b v ⟨W'.Hc, W'.H, W'.O, W.H⟩ → Q v W'.H) (hRR : ∀ b v (A B : Wd), A.Hc = B.Hc → A.H = B.H → A.B = B.B → RR b v A → RR b v B) : spT box T n R.sps F RR vs W.H Q E := by
  have tb := sat_tb g hi
  have oT : ∀ b, b ∈ T.map (·.1) → W.O b = some i := fun b hb => by
    obtain ⟨p, hp, e⟩ := List.mem_map.mp hb
    rw [← e]; exact (tb p hp).1
  have oB : ∀ a, ba = some a → W.O a = some bi ∧ BoxIs (W.H a) := fun a e => by
    obtain ⟨o, _, e1, e2, e3⟩ := g.look (hb a e) (by simp)
    exact ⟨e2, e3⟩
  have ne : ∀ a, ba = some a → bi ≠ i := fun a e z => by
    have h1 := hb a e
    rw [z, hi] at h1; cases h1
  have nT : ∀ p ∈ T, some p.1 ≠ ba := fun p hp z => by
    have h1 := (oB p.1 z.symm).1
    rw [oT p.1 (List.mem_map.mpr ⟨p, hp, rfl⟩)] at h1
    exact ne _ z.symm (Option.some.inj h1).symm
  have un : ∀ b, W.O b = none → ownT ba T n b = none := fun b e => by
    unfold ownT
    rw [if_neg (fun z => by rw [(oB b z.symm).1] at e; cases e), if_neg (fun z => by rw [oT b z] at e; cases e)]
  have un2 : ∀ b j, W.O b = some j → j ≠ i → (∀ a, ba = some a → j ≠ bi) → ownT ba T n b = none := fun b j e n1 n2 => by
    unfold ownT
    rw [if_neg (fun z => by rw [(oB b z.symm).1] at e; exact n2 b z.symm (Option.some.inj e).symm), if_neg (fun z => by rw [oT b z] at e; exact n1 (Option.some.inj e).symm)]
  have ow : ∀ b j, ownT ba T n b = some j → W.O b ≠ none := fun b j e => by
    intro z
    rw [un b z] at e; cases e
  have own2 : ∀ b, W.O b ≠ none → W.Hc b = none ∧ W.H b ≠ none := fun b e => by
    cases z : W.O b with
    | none => exact absurd z e
    | some j => exact k.own b j z
  refine ⟨ba, ws, x, ⟨W.Hc, W.H, ownT ba T n, W.H⟩, P, hbox, hv, rfl, rfl, ⟨k.ex, fun b j q => own2 b (ow b j q), bas_self⟩, rfl, fun a e => (oB a e).2, fun p hp => ⟨ownT_tb (List.mem_map.mpr ⟨p, hp, rfl⟩) (nT p hp), (tb p hp).2⟩, ?_, m, fun b v W' pb k' s' b' t' r' => ?_⟩
  · cases ba with
    | none => exact R.sat (W := ⟨W.Hc, W.H, ownT none T n, W.H⟩) 0 hr
    | some a => exact R.sat (W := ⟨W.Hc, W.H, ownT (some a) T n, W.H⟩) 1 hr
  · have kp : ∀ b o, W.H b = some o → ownT ba T n b = none → W'.H b = some o := fun b o q z => s'.keep b o q z
    have od : ∀ b, W.H b ≠ none → ownT ba T n b = none → W'.Hc b = W.Hc b := fun b q z => (s'.old b q z).1
    have k2 : Wd.Ok ⟨W'.Hc, W'.H, W.O, W.B⟩ := ⟨k'.ex, fun b j q => by
      obtain ⟨m1, m2⟩ := k.own b j q
      refine ⟨?_, s'.dom b m2⟩
      by_cases z : ownT ba T n b = none
      · exact (od b m2 z).trans m1
      · by_cases zb : some b = ba
        · subst zb
          exact (k'.own b 0 b'.1).1
        · by_cases zt : b ∈ T.map (·.1)
          · obtain ⟨p, hp, e⟩ := List.mem_map.mp zt
            rw [← e]; exact (k'.own _ _ (t' p hp).1).1
          · exact absurd (by unfold ownT; rw [if_neg zb, if_neg zt]) z, k.basTo s'.dom (fun b o _ n q => kp b o q (un b n)) fun _ _ n => n⟩
    have st : Step W ⟨W'.Hc, W'.H, W.O, W.B⟩ := ⟨fun b o q w => kp b o q (un b w), s'.dom, s'.hc, fun b q w => ⟨od b q (un b w), w⟩, rfl⟩
    refine h b v ⟨W'.Hc, W'.H, W.O, W.B⟩ pb k2 st (sat_of2 g fun j o e w => ?_) (hRR b v W' _ rfl rfl s'.B r')
    by_cases z : j = i
    · subst z
      rw [hi]
      exact fun p hp => ⟨(tb p hp).1, (t' p hp).2⟩
    · by_cases zb : ∃ a, ba = some a ∧ j = bi
      · obtain ⟨a, ea, ej⟩ := zb
        subst ej
        rw [hb a ea] at w ⊢
        subst ea
        exact ⟨w.1, w.2.1, b'.2⟩
      · refine w.kp ⟨s'.hc, fun b e => ⟨e, ?_⟩, rfl, fun _ _ n => n⟩
        obtain ⟨u, hu⟩ := of_ne_none (k.own b j e).2
        exact (kp b u hu (un2 b j e z fun a ea ej => zb ⟨a, ea, ej⟩)).trans hu.symm
theorem xg_callT {k j n : Nat} {T : Tbs} {ps : List Str} {x : Str} {p : Pos} {R : RS τ} {F : τ → Mp β} {r : RT β} {M : Mp τ} (i : Nat) (hi : look Γ i = .gen (gTab T)) (G : Glob X.prog X.w X.K X.mg X.base x k ps (spT false T n R.sps F (rrc r))) (hr : Room j X.A) (hj : k ≤ j)
    (ha : XA X Γ (e :: es) M R.toRA) (hg : Gl X x := by rfl) (hdb : (x == ("__debug__" : Str)) = false := by decide) (he : starEach (e :: es) X.env = (false, eval e X.env) :: starEach es X.env := by rfl) (hpl : (backTo pos (starEach es X.env)).any (·.1) = false := by rfl) :
    XP X Γ (.Call (.Name x p) (e :: es) [] pos) (fun P => M fun y => F y P) r := by
  obtain ⟨f, fd, g1, g2, g3, g4⟩ := G
  obtain ⟨t, pp, q⟩ := ha
  refine ⟨_, pe_call g4 (hr.mono hj) hg g1 g2 g3 .nil pass0 pp hdb he hpl, fun σ W k s Q P m h => ?_⟩
  refine q σ W k s _ _ m fun y v W1 m1 k1 s1 g1 r1 => ?_
  rw [List.append_nil]
  exact callT_core (ba := none) (bi := 0) rfl rfl k1 g1 hi (fun a e => by cases e) r1 m1 (fun b u W2 pb k2 s2 g2 r2 => h b u W2 pb k2 (s1.trans s2) g2 r2) rrc_st
/-- f(box, ..) of such -/
theorem xg_callTB {k j n : Nat} {T : Tbs} {ps : List Str} {x nm : Str} {p pn : Pos} {R : RS τ} {F : τ → Mp β} {r : RT β} {M : Mp τ} {ad : Addr} (i bi : Nat) (hi : look Γ i = .gen (gTab T)) (hbi : look Γ bi = .bx ad) (G : Glob X.prog X.w X.K X.mg X.base x k ps (spT true T n R.sps F (rrc r))) (hr : Room j X.A) (hj : k ≤ j)
    (ha : XA X Γ es M R.toRA) (hN : X.N[bi]? = some nm := by rfl) (hv : Vis X.env.scope nm := by first | exact Or.inl rfl | exact Or.inr (Or.inl rfl) | exact Or.inr (Or.inr rfl)) (hd : (nm == ("__debug__" : Str)) = false := by decide) (hcd : (nm == ("__classdict__" : Str)) = false := by decide)
    (hg : Gl X x := by rfl) (hdb : (x == ("__debug__" : Str)) = false := by decide) (he : starEach (.Name nm pn :: es) X.env = (false, eval (.Name nm pn) X.env) :: starEach es X.env := by rfl) (hpl : (backTo pos (starEach es X.env)).any (·.1) = false := by rfl) :
    XP X Γ (.Call (.Name x p) (.Name nm pn :: es) [] pos) (fun P => M fun y => F y P) r := by
  obtain ⟨f, fd, g1, g2, g3, g4⟩ := G
  obtain ⟨t, pp, q⟩ := ha
  refine ⟨_, pe_call g4 (hr.mono hj) hg g1 g2 g3 .nil pass0 (pa_cons (pe_var hN hv hd hcd) pp he) hdb he hpl, fun σ W k s Q P m h => ?_⟩
  obtain ⟨o, e0, e1, e2, e3⟩ := s.look hbi (by simp)
  subst e1
  refine ⟨.ref ad, e0, q σ W k s _ _ m fun y v W1 m1 k1 s1 g1 r1 => ?_⟩
  show spT true T n R.sps F (rrc r) ((V.ref ad :: v) ++ []) W1.H Q E0
  rw [List.append_nil]
  exact callT_core (ba := some ad) (bi := bi) (ws := v) rfl rfl k1 g1 hi (fun a e => by cases e; exact hbi) r1 m1 (fun b u W2 pb k2 s2 g2 r2 => h b u W2 pb k2 (s1.trans s2) g2 r2) rrc_st
/-! the return -/
abbrev rcT (ba : Option Addr) (T : Tbs) (n : Nat) (r : RT β) : β → V → Wd → Prop := fun x v W => bxok ba W ∧ tbok T n W ∧ r.ok W.Hc v x
theorem xs_retT {ba : Option Addr} {T : Tbs} {M : Mp R} {r : RT R} {Γn : S → List SP} {Γb : B → List SP} (n : Nat) (hb : bxin ba Γ) (hi : look Γ n = .gen (gTab T)) (h : XP X Γ e M r) : XS X Γ [.Return (some e) pos] (fun κ : Kn S B R => M κ.rt) Γn Γb (rcT ba T n r) := by
  obtain ⟨t, p, q⟩ := h
  exact ⟨_, pss_one (ps_ret p), fun σ W k g κ D m _ _ _ h1 => q σ W k g _ _ m fun x v W' m' k' s' g' r' => h1 x v W' m' k' s' ⟨bxok_of hb g', sat_tb g' hi, r'⟩⟩
end
section
variable {P : Program} {w : World} {K : PySem.W.Frag} {mg : Str → Option Value} {base : Heap} {α β γ τ : Type} {x qual : Str} {st : Stmt} {f : Addr} {fd : FuncData} {N ps : List Str} {k n : Nat}
theorem fun_okC {sp : Sp} (F : Fun K x qual st f fd) (S : FnScope N ps (defScope st)) (len : ∀ vs H Q E, sp vs H Q E → vs.length = ps.length)
    (hbody : ∀ (cdv : Value) (A : Around) (outer : List Env) (s : Shared) (H : Hp) (vs : List V) (Q : VK) (E : XK), fd.code = cdv → Room k (A.deeper (envOfC qual (defScope st) s.heap.objs.size f cdv)) → sp vs H Q E →
      ∃ t, PSs (cxOf CX0 P w K mg base N qual (defScope st) f cdv A outer s H E).nox (defBody st) t ∧ t { nx := fun _ H' => Q .non H', rt := Q } (L2.start N vs) H) : FnOk P w K mg base CX0 (k + 1) f fd ps sp := by
  obtain ⟨oc, od, kV, doc, pm, an, cdv, ct, osl, efd, lk, hcod⟩ := F.ex
  subst efd
  exact L2.fn_of lk hcod S len fun A outer s H vs Q E hr hsp => (hbody cdv A outer s H vs Q E rfl hr hsp).imp fun t ⟨h, q⟩ => ⟨h.nox, q⟩
/-- such a def from its body; no box -/
theorem fn_T {T : Tbs} {sps : τ → List SP} {F : τ → Mp β} {RR : RRt β} {M : τ → Kn Unit Unit β → Prop} (Fn : Fun K x qual st f fd) (S : FnScope N ps (defScope st)) (hl : ∀ z, (sps z).length = ps.length) (hn : N.length = ps.length + (n + 1)) (RB : β → V → Wd → Prop) (hR : ∀ b v W, RB b v W → tbok T (ps.length + n) W ∧ RR b v W)
    (hbody : ∀ (cdv : Value) (A : Around) (outer : List Env) (s : Shared) (H : Hp) (E : XK), fd.code = cdv → Room k (A.deeper (envOfC qual (defScope st) s.heap.objs.size f cdv)) → ∀ z, XS (cxOf CX0 P w K mg base N qual (defScope st) f cdv A outer s H E).nox (sps z ++ List.replicate n .unk ++ [.gen (gTab T)]) (defBody st) (M z) (fun _ : Unit => [.bot]) (fun _ : Unit => [.bot]) RB)
    (hM : ∀ z P, F z P → M z ⟨fun _ => False, fun _ => False, fun _ => False, P⟩) : FnOk P w K mg base CX0 (k + 1) f fd ps (spT false T (ps.length + n) sps F RR) := by
  have nb : ∀ {ba : Option Addr}, ba.isSome = false → ba = none := fun {ba} e => by
    cases ba with
    | none => rfl
    | some a => cases e
  refine fun_okC Fn S (fun vs H Q E ⟨ba, ws, z, W, _, hb, hv, _, _, _, _, _, _, h, _⟩ => ?_) fun cdv A outer s H vs Q E he hr hh => ?_
  · rw [nb hb] at hv h
    have hv : vs = ws := hv
    rw [hv, ← hl z, ← SatL.len h, List.length_map]
  · obtain ⟨ba, ws, z, W, P', hb, hv, rfl, hB, kW, hO, hbx, htb, h, m, q⟩ := hh
    cases nb hb
    have hv : vs = ws := hv
    subst hv
    obtain ⟨t, p, qq⟩ := hbody cdv A outer s W.H E he hr z
    have sat : Sat (sps z ++ List.replicate n .unk ++ [.gen (gTab T)]) (L2.start N vs) W := by
      have h0 := start_sat (N := N) (n := n + 1) h (by rw [hl z]; exact hn)
      have hlen : (sps z ++ List.replicate n SP.unk).length = ps.length + n := by rw [List.length_append, hl z, List.length_replicate]
      have h1 := h0.put (i := ps.length + n) (p := .gen (gTab T)) (o := (L2.start N vs)[ps.length + n]?.getD none) htb
      have e1 : (sps z ++ List.replicate (n + 1) SP.unk).set (ps.length + n) (SP.gen (gTab T)) = sps z ++ List.replicate n SP.unk ++ [SP.gen (gTab T)] := by
        rw [List.replicate_succ', ← List.append_assoc, ← hlen, List.set_append_right _ _ (Nat.le_refl _)]
        simp
      have e2 : (L2.start N vs).set (ps.length + n) ((L2.start N vs)[ps.length + n]?.getD none) = L2.start N vs := by
        cases z : (L2.start N vs)[ps.length + n]? with
        | none => rw [List.set_eq_of_length_le (by rw [List.getElem?_eq_none_iff] at z; exact z)]
        | some o => exact set_same (by rw [z]; rfl)
      rw [e1, e2] at h1
      exact h1
    exact ⟨t, p, qq _ W kW sat _ _ (hM z P' m) (fun _ _ _ h => h.elim) (fun _ _ _ h => h.elim) (fun _ _ _ h => h.elim) fun b v W' pb k' s' r' => q b v W' pb k' s' trivial (hR b v W' r').1 (hR b v W' r').2⟩
/-- .. whose first argument is the law's box -/
theorem fn_TB {T : Tbs} {sps : τ → List SP} {F : τ → Mp β} {RR : RRt β} {M : Addr → τ → Kn Unit Unit β → Prop} (Fn : Fun K x qual st f fd) (S : FnScope N ps (defScope st)) (hl : ∀ z, (sps z).length + 1 = ps.length) (hn : N.length = ps.length + (n + 1)) (RB : Addr → β → V → Wd → Prop) (hR : ∀ a b v W, RB a b v W → bxok (some a) W ∧ tbok T (ps.length + n) W ∧ RR b v W)
    (hbody : ∀ (cdv : Value) (A : Around) (outer : List Env) (s : Shared) (H : Hp) (E : XK), fd.code = cdv → Room k (A.deeper (envOfC qual (defScope st) s.heap.objs.size f cdv)) → ∀ a z, XS (cxOf CX0 P w K mg base N qual (defScope st) f cdv A outer s H E).nox ((.bx a :: sps z) ++ List.replicate n .unk ++ [.gen (gTab T)]) (defBody st) (M a z) (fun _ : Unit => [.bot]) (fun _ : Unit => [.bot]) (RB a))
    (hM : ∀ a z P, F z P → M a z ⟨fun _ => False, fun _ => False, fun _ => False, P⟩) : FnOk P w K mg base CX0 (k + 1) f fd ps (spT true T (ps.length + n) sps F RR) := by
  have nb : ∀ {ba : Option Addr}, ba.isSome = true → ∃ a, ba = some a := fun {ba} e => by
    cases ba with
    | none => cases e
    | some a => exact ⟨a, rfl⟩
  refine fun_okC Fn S (fun vs H Q E ⟨ba, ws, z, W, _, hb, hv, _, _, _, _, _, _, h, _⟩ => ?_) fun cdv A outer s H vs Q E he hr hh => ?_
  · obtain ⟨a, rfl⟩ := nb hb
    have hv : vs = .ref a :: ws := hv
    have := SatL.len h
    rw [List.length_map] at this
    rw [hv, ← hl z, List.length_cons, this]
  · obtain ⟨ba, ws, z, W, P', hb, hv, rfl, hB, kW, hO, hbx, htb, h, m, q⟩ := hh
    obtain ⟨a, rfl⟩ := nb hb
    have hv : vs = .ref a :: ws := hv
    subst hv
    obtain ⟨t, p, qq⟩ := hbody cdv A outer s W.H E he hr a z
    have oa : W.O a = some 0 := by rw [hO]; unfold ownT; rw [if_pos rfl]
    have sat : Sat ((.bx a :: sps z) ++ List.replicate n .unk ++ [.gen (gTab T)]) (L2.start N (.ref a :: ws)) W := by
      have h0 := start_sat (N := N) (vs := .ref a :: ws) (Γ := .bx a :: sps z) (n := n + 1) ⟨⟨rfl, oa, hbx a rfl⟩, h⟩ (by rw [List.length_cons, hl z]; exact hn)
      have hlen : ((SP.bx a :: sps z) ++ List.replicate n SP.unk).length = ps.length + n := by rw [List.length_append, List.length_cons, hl z, List.length_replicate]
      have h1 := h0.put (i := ps.length + n) (p := .gen (gTab T)) (o := (L2.start N (.ref a :: ws))[ps.length + n]?.getD none) htb
      have e1 : ((SP.bx a :: sps z) ++ List.replicate (n + 1) SP.unk).set (ps.length + n) (.gen (gTab T)) = (SP.bx a :: sps z) ++ List.replicate n SP.unk ++ [SP.gen (gTab T)] := by
        rw [List.replicate_succ', ← List.append_assoc, ← hlen, List.set_append_right _ _ (Nat.le_refl _)]
        simp
      have e2 : (L2.start N (.ref a :: ws)).set (ps.length + n) ((L2.start N (.ref a :: ws))[ps.length + n]?.getD none) = L2.start N (.ref a :: ws) := by
        cases z : (L2.start N (.ref a :: ws))[ps.length + n]? with
        | none => rw [List.set_eq_of_length_le (by rw [List.getElem?_eq_none_iff] at z; exact z)]
        | some o => exact set_same (by rw [z]; rfl)
      rw [e1, e2] at h1
      exact h1
    refine ⟨t, p, qq _ W kW sat _ _ (hM a z P' m) (fun _ _ _ h => h.elim) (fun _ _ _ h => h.elim) (fun _ _ _ h => h.elim) fun b v W' pb k' s' r' => ?_⟩
    obtain ⟨r1, r2, r3⟩ := hR a b v W' r'
    exact q b v W' pb k' s' r1 r2 r3
end
/-! ### the end of a law whose defs make lambdas -/
theorem walk_tab {l : PySem.W.OpenLaw} {n k : Nat} {q : Program} {loose : List Str} {XP : (Str → Option Value) → Heap → Prop} {YP : World → Heap → Prop} {d : DefRec} {K : Params → PySem.W.Frag} {x : Str}
    (hn : l.most = some n) (hn2 : n ≤ sizeLine) (hdf : d.params.defaults = []) (hr : Room k callerA) (hY : ∀ (w : World) (h : Heap), YP w h → (K w.params).In h)
    (F : ∀ (w : World) (mg : Str → Option Value) (fa : Addr) (h : Heap), (K w.params).In h → h.Ns mainGlobals mg → mg d.name = some (.ref fa) →
      (∀ (x : Str) (d : DefRec) (c P : Addr), (recsOf q).find? (fun e => e.name == x) = some d → PySem.W.tabIn (K w.params) x = some (c, P) → PySem.W.CodeHd h c P ∧ h.get? P = some (PySem.W.tabObj #[])) → LamX.LawAtS l w (K w.params) CX0 k n x mg fa h) :
    PySem.W.WalkO q loose XP YP l.row.toRowW d [] (fun f vs => PySem.call f vs) := by
  refine Att.attach_callB hn hdf fun w s0 s1 mg mb fa o pm cd doc a vs ns G Y ho hd hcd hmg hobj hints hlen hbits hg => ?_
  have KX := hY w _ Y
  obtain ⟨fd, cs, sp, hT, nT, C, hb, hsp, hF⟩ := F w mg fa _ KX G.T.g hmg fun x d c P h1 h2 => PySem.W.tab_of G.T KX h1 h2
  exact LamX.law_callTs KX G.T.g G.T.b G.T.builtins G.T.nolimit hg hT nT C G.T.bmain hobj hints (Nat.le_trans hlen hn2) hr hF hb (fun H hH hS => hsp H a ns hlen hbits hH hS) fun H e s' z => z
theorem sp_ofT {F : List Int → Mp Bool} {K : PySem.W.Frag} {H : Hp} {a : Addr} {ns : List Int} {T : Tbs} {n : Nat} (hF : F ns (fun b => b = true)) (hT : ∀ p ∈ T, H p.1 = some (.tbl #[])) (hS : SqL K H a (ns.map V.int)) {E : XK} : spT false T n (rsc (rLK K) rs0).sps (fun z P => F z.1 P) (rrc rBl) [.ref a] H (fun v _ => v = .bl true) E := by
  have tb : ∀ b, b ∈ T.map (·.1) → H b = some (.tbl #[]) := fun b hb => by
    obtain ⟨p, hp, e⟩ := List.mem_map.mp hb
    rw [← e]; exact hT p hp
  let Hc : Hp := fun b => if b ∈ T.map (·.1) then none else H b
  have hc : ∀ b, (∀ ps, H b ≠ some (.tbl ps)) → Hc b = H b := fun b e => if_neg fun z => e _ (tb b z)
  have hS' : SqL K Hc a (ns.map V.int) := by
    rcases hS with (h | ⟨o, h⟩) | h
    · exact .inl (.inl ((hc a fun ps z => by rw [h] at z; cases z).trans h))
    · exact .inl (.inr ⟨o, (hc a fun ps z => by rw [h] at z; cases z).trans h⟩)
    · exact .inr h
  refine ⟨none, [.ref a], (ns, ()), ⟨Hc, H, ownT none T n, H⟩, _, rfl, rfl, rfl, rfl, ⟨fun b o e => ?_, fun b j e => ?_, bas_self⟩, rfl, (fun _ e => by cases e), fun p hp => ⟨?_, #[], hT p hp, trivial, fun _ cv e => ?_⟩, ⟨⟨_, rfl, a, rfl, hS'⟩, trivial⟩, hF, fun b v W' hb k' s' _ _ hr => ?_⟩
  · have e : (if b ∈ T.map (·.1) then none else H b) = some o := e
    by_cases z : b ∈ T.map (·.1)
    · rw [if_pos z] at e; cases e
    · rw [if_neg z] at e; exact e
  · have e : (if some b = none then some 0 else if b ∈ T.map (·.1) then some n else none) = some j := e
    rw [if_neg (by simp)] at e
    by_cases z : b ∈ T.map (·.1)
    · exact ⟨if_pos z, by show H b ≠ none; rw [tb b z]; simp⟩
    · rw [if_neg z] at e; cases e
  · exact ownT_tb (ba := none) (List.mem_map.mpr ⟨p, hp, rfl⟩) fun z => by cases z
  · have e : codeAmong _ [] = some cv := e
    simp [codeAmong] at e
  · have hr : v = .bl b := hr
    rw [hr, hb]
end TM
set_option Elab.async false
set_option linter.all false
set_option maxRecDepth 100000
set_option maxHeartbeats 1000000
namespace TM
open PySem PySem.Spec PyProof.Rows L2
theorem os_pow : OpS (rI CPow fun i j => .int (i ^ j.toNat)) rInt rInt rInt (fun i j P => CPow i j ∧ P (i ^ j.toNat)) := os_I fun _ _ _ => rfl
/-- what a refusal's class must be in the text -/
structure ExF (K : PySem.W.Frag) (mg : Str → Option Value) (nm : Str) (C : Addr) : Prop where
  g : mg nm = some (.ref C)
  x : PySem.W.excIn K C [.type "ValueError", .type "Exception", .type "BaseException", .type "object"] "ValueError.__new__" = true
  k : PySem.W.keepIn K (.ref C) = true
  b : PySem.W.subIn K (.ref C) (.type "BaseException") = some true
  t : PySem.W.typeIn K (.ref C) = some (.type "type")
section
variable {X : Cx} {Γ Δ : List SP} {α β γ δ τ S S' B R : Type} {e a b c tg iter elt o : Expr} {es : List Expr} {pos : Pos} {st : Stmt} {sts rest body : List Stmt} {Ex : ExN}
theorem xs_raiseE {E : XK} {H0 : Hp} {nm m : Str} {C : Addr} {j : Nat} {p p2 p3 : Pos} {Γn : S → List SP} {Γb : B → List SP} {RR : R → V → Wd → Prop} (F : ExF X.K X.mg nm C) (rx : Rx X E H0 Ex) (n : Nat) (h : look Γ n = .gen (gAnc H0)) (hg : Gl X nm := by rfl) (hdb : (nm == ("__debug__" : Str)) = false := by decide) :
    XS X Γ [.Raise (some (.Call (.Name nm p) [.Constant (.str m) j p2] [] p3)) none pos] (fun κ : Kn S B R => Ex nm) Γn Γb RR :=
  xs_raiseX rx n h F.g (pmk_own PySem.F.excBase_ValueError F.x F.g F.k (raises_own F.b F.t) hg hdb)
end
/-! ### the defs that ask a lambda -/
abbrev lamQ0 (qual : Str) : Str := (qual ++ ".<locals>.") ++ "<lambda>"
def KindG (x a : Str) (TT : (XK → Hp → VK → Prop) → Hp → VK → Prop) (P : Program) (w : World) (K : PySem.W.Frag) (mg : Str → Option Value) (base : Heap) : Prop := ∀ (X : Cx) (k : Nat), X.prog = P → X.w = w → X.K = K → X.mg = mg → X.base = base → Room (k + 2) X.A → LamF X x k a TT
theorem kindG_of {x a : Str} {TT : (XK → Hp → VK → Prop) → Hp → VK → Prop} {P : Program} {w : World} {K : PySem.W.Frag} {mg : Str → Option Value} {base : Heap} {st : Stmt} {g : Addr} {fd : FuncData} {Ng : List Str} (F : Fun K x x st g fd) (hm : mg x = some (.ref g)) (S : FnScope Ng [a] (defScope st)) (hb : L2.Binds K fd [a] [])
    (h0 : Ng[0]? = some a) (hva : Vis (defScope st) a) (hG : ∀ (X : Cx) (k : Nat) (cdv : Value), X.prog = P → X.w = w → X.K = K → X.mg = mg → X.base = base → Room (k + 2) X.A → LamX.GivesTo X Ng x (defScope st) g cdv (defBody st) a (lamQ X) TT) : KindG x a TT P w K mg base := fun X k e1 e2 e3 e4 e5 hr => by
  obtain ⟨oc, od, kV, doc, pm, an, cdv, ct, osl, efd, lk, hcod⟩ := F.ex
  subst efd
  exact ⟨g, _, _, _, _, kV, doc, pm, cdv, ct, oc, an, od, osl, Ng, by rw [e4]; exact hm, by rw [e3]; exact F.kp, by rw [e3]; exact lk, by rw [e3]; exact hcod, by rw [e3]; exact hb, S, h0, hva, hG X k cdv e1 e2 e3 e4 e5 hr⟩
section
variable {K : PySem.W.Frag} {D C : Addr}
theorem kit_self : PySem.W.kitOne K (.ref D) (.ref D) = some true := by
  unfold PySem.W.kitOne
  rw [if_pos (beq_self_eq_true _)]
theorem kit_false (h1 : PySem.W.subIn K (.ref D) (.ref D) = some true) (h : PySem.W.subIn K (.ref D) (.ref C) = some false) (hc : PySem.W.hasDictIn K C = true) (ht : PySem.W.typeIn K (.ref C) = some (.type "type")) : PySem.W.kitOne K (.ref D) (.ref C) = some false := by
  have ne : ¬ (Value.ref D == Value.ref C) = true := fun z => by
    have e : D = C := Value.ref.inj (beq_iff_eq.mp z)
    rw [← e, h1] at h; cases h
  obtain ⟨cd, hcd, _⟩ := PySem.W.any_some hc
  unfold PySem.W.kitOne
  rw [if_neg ne]
  show (if ((PySem.W.clsIn K C).isSome && PySem.W.typeIn K (.ref C) == some (.type "type")) = true then PySem.W.subIn K (.ref D) (.ref C) else none) = _
  rw [if_pos (by rw [hcd, ht]; rfl)]
  exact h
theorem kit_val {N : String} (hk : PySem.W.kitMeta N = true) (h : PySem.W.subIn K (.ref D) (.type N) = some true) : PySem.W.kitOne K (.ref D) (.type N) = some true := by
  unfold PySem.W.kitOne
  rw [if_neg (by intro z; cases beq_iff_eq.mp z)]
  show (if PySem.W.kitMeta N = true then PySem.W.subIn K (.ref D) (.type N) else none) = _
  rw [if_pos hk]
  exact h
end
/-! ### the tables at the head -/
theorem tabIn_of {K : PySem.W.Frag} {x : Str} {f c P : Addr} {oc o1 : Value} {od o2 : Option Addr} {fd : FuncData} {sl o4 : Array (Option Value)} {vs : Array Value} (h1 : PySem.W.nsIn K mainGlobals x = some (some (.ref f))) (h2 : K.lookup f = some ⟨oc, od, .func fd, sl⟩) (h3 : fd.code = .ref c)
    (h4 : K.lookup c = some ⟨o1, o2, .fields vs, o4⟩) (h5 : vs[11]? = some (.ref P)) : PySem.W.tabIn K x = some (c, P) := by
  unfold PySem.W.tabIn
  rw [h1]
  simp only [h2, h3, h4, h5]
theorem noTab_of {K : PySem.W.Frag} {h : Heap} {P : Addr} (X : K.In h) (hK : PySem.W.noTabs K = true) (hP : h.get? P = some (PySem.W.tabObj #[])) : K.lookup P = none := by
  cases e : K.lookup P with
  | none => rfl
  | some o =>
    have e1 := X P o e
    rw [hP] at e1
    have h2 := List.all_eq_true.mp hK (P, o) (PySem.W.mem_of_lookupK e)
    rw [← Option.some.inj e1] at h2
    exact absurd (show false = true from h2) Bool.false_ne_true
end TM
set_option Elab.async false
set_option linter.all false
set_option maxRecDepth 100000
/-! Dicts whose keys are tuples (nested, too), as tracked things: what is told of them, and the operators on them. -/
namespace TM
open PySem PySem.Spec PyProof.Rows L2
section
variable {κ β γ : Type} [DecidableEq κ]
/-! ### tables of pairs -/
def lookA (d : List (κ × β)) (k : κ) : Option β := (d.find? fun p => decide (p.1 = k)).map (·.2)
def putA (d : List (κ × β)) (k : κ) (v : β) : List (κ × β) := if (lookA d k).isSome = true then d.map (fun p => if p.1 = k then (p.1, v) else p) else d ++ [(k, v)]
def mergeA (d l : List (κ × β)) : List (κ × β) := l.foldl (fun a p => putA a p.1 p.2) d
def putN (d : List (κ × Addr × β)) (k : κ) (b : Addr) (v : β) : List (κ × Addr × β) := if (lookA d k).isSome = true then d.map (fun p => if p.1 = k then (p.1, p.2.1, v) else p) else d ++ [(k, b, v)]
def mergeN (d l : List (κ × Addr × β)) : List (κ × Addr × β) := l.foldl (fun a p => putN a p.1 p.2.1 p.2.2) d
theorem lookA_cons (p : κ × β) (d : List (κ × β)) (k : κ) : lookA (p :: d) k = if p.1 = k then some p.2 else lookA d k := by
  unfold lookA
  by_cases h : p.1 = k <;> simp [h]
theorem length_putN (d : List (κ × Addr × β)) (k : κ) (b : Addr) (v : β) : (putN d k b v).length ≤ d.length + 1 := by
  unfold putN; split <;> simp
theorem length_mergeN : ∀ (l d : List (κ × Addr × β)), (mergeN d l).length ≤ d.length + l.length
  | [], d => Nat.le_refl _
  | p :: l, d => by
    have h := length_mergeN l (putN d p.1 p.2.1 p.2.2)
    have h2 := length_putN d p.1 p.2.1 p.2.2
    show (mergeN (putN d p.1 p.2.1 p.2.2) l).length ≤ _
    rw [List.length_cons]; omega
theorem length_putA (d : List (κ × β)) (k : κ) (v : β) : (putA d k v).length ≤ d.length + 1 := by
  unfold putA; split <;> simp
/-- tables alike entry by entry -/
theorem look_pair {δ : Type} {F : β → δ → Prop} {d : List (κ × β)} {e : List (κ × δ)} (h : Paired (fun p q => p.1 = q.1 ∧ F p.2 q.2) d e) (k : κ) : match lookA d k, lookA e k with
    | some x, some y => F x y
    | none, none => True
    | _, _ => False := by
  induction h with
  | nil => exact trivial
  | @cons p q ps qs h t ih =>
    rw [lookA_cons, lookA_cons]
    by_cases e1 : p.1 = k
    · rw [if_pos e1, if_pos (h.1.symm.trans e1)]; exact h.2
    · rw [if_neg e1, if_neg fun z => e1 (h.1.trans z)]; exact ih
theorem look_some {δ : Type} {F : β → δ → Prop} {d : List (κ × β)} {e : List (κ × δ)} (h : Paired (fun p q => p.1 = q.1 ∧ F p.2 q.2) d e) (k : κ) : (lookA d k).isSome = (lookA e k).isSome := by
  have := look_pair h k
  revert this
  cases lookA d k <;> cases lookA e k <;> simp
end
/-! ### the thing -/
abbrev NE := NestedKey × Addr × V
def RawN (P : Program) (w : World) (a : Addr) (ks : List NE) (h : Heap) : Prop :=
  ks.length ≤ sizeLine ∧ (a == sysModules) = false ∧ ∃ xs : List (NestedKey × Addr × Value), Paired (fun p q => p.1 = q.1 ∧ p.2.1 = q.2.1 ∧ RelV p.2.2 q.2.2) ks xs ∧
    ∃ o es ep, h.get? a = some o ∧ o.ExactDict ∧ o.data = .dict es ep ∧ es.toList = xs.map (entryOfKey (nestedKind P w)) ∧ (xs.map (·.1)).Nodup
def nD (P : Program) (w : World) (a : Addr) (ks : List NE) : HO := .ext (RawN P w a ks)
def NKey (P : Program) (w : World) (H : Hp) (k : NestedKey) (b : Addr) : Prop := ∀ h, HOk P w H h → (nestedKind P w).is h k b
section
variable {P : Program} {w : World} {H : Hp} {h : Heap} {a : Addr} {ks : List NE}
theorem nd_ok (r : RawN P w a ks h) : ObjOk P w H h a (nD P w a ks) := by
  refine ⟨r, ?_, fun h1 h2 ⟨r1, r2, xs, r3, o, es, ep, ho, r4⟩ k => ⟨r1, r2, xs, r3, o, es, ep, k o ho, r4⟩⟩
  obtain ⟨_, _, _, _, o, _, _, ho, _⟩ := r
  exact ⟨o, ho⟩
theorem nd_at (ok : HOk P w H h) (e : H a = some (nD P w a ks)) : RawN P w a ks h := (show ObjOk P w H h a (nD P w a ks) from ok a _ e).1
theorem nd_dict (r : RawN P w a ks h) (ok : HOk P w H h) (hk : ∀ p ∈ ks, NKey P w H p.1 p.2.1) :
    ∃ xs, Paired (fun (p : NE) (q : NestedKey × Addr × Value) => p.1 = q.1 ∧ p.2.1 = q.2.1 ∧ RelV p.2.2 q.2.2) ks xs ∧ h.DictOfH (nestedKind P w) a xs := by
  obtain ⟨z, y, xs, pr, o, es, ep, h1, h2, h3, h4, h5⟩ := r
  refine ⟨xs, pr, o, es, ep, h1, h2, h3, h4, ?_, h5⟩
  clear h4 h5 z
  induction pr with
  | nil => intro x hx; cases hx
  | cons r t ih =>
    intro x hx
    rcases List.mem_cons.mp hx with e | hx
    · subst e
      rw [← r.1, ← r.2.1]
      exact hk _ List.mem_cons_self h ok
    · exact ih (fun p hp => hk p (List.mem_cons_of_mem _ hp)) x hx
theorem kv_of {xs : List (NestedKey × Addr × Value)} (pr : Paired (fun (p : NE) (q : NestedKey × Addr × Value) => p.1 = q.1 ∧ p.2.1 = q.2.1 ∧ RelV p.2.2 q.2.2) ks xs) :
    Paired (fun (p : NE) (q : NestedKey × Addr × Value) => p.1 = q.1 ∧ RelV p.2.2 q.2.2) ks xs := pmap pr fun _ _ r => ⟨r.1, r.2.2⟩
theorem atKey_look (xs : List (NestedKey × Addr × Value)) (k : NestedKey) : atKey xs k = lookA xs k := rfl
theorem paired_put {xs : List (NestedKey × Addr × Value)} (pr : Paired (fun (p : NE) (q : NestedKey × Addr × Value) => p.1 = q.1 ∧ p.2.1 = q.2.1 ∧ RelV p.2.2 q.2.2) ks xs) {k : NestedKey} {b : Addr} {v : V} {u : Value} (rv : RelV v u) :
    Paired (fun (p : NE) (q : NestedKey × Addr × Value) => p.1 = q.1 ∧ p.2.1 = q.2.1 ∧ RelV p.2.2 q.2.2) (putN ks k b v) (storedH xs k b u) := by
  have e : (lookA ks k).isSome = (atKey xs k).isSome := look_some (F := fun (x : Addr × V) (y : Addr × Value) => RelV x.2 y.2) (kv_of pr) k
  unfold putN storedH
  rw [e]
  by_cases q : (atKey xs k).isSome = true
  · rw [if_pos q, if_pos q]
    clear e q
    induction pr with
    | nil => exact .nil
    | @cons p y ps ys r t ih =>
      rw [List.map_cons, List.map_cons]
      refine .cons ?_ ih
      unfold putAt
      by_cases e1 : p.1 = k
      · rw [if_pos e1, if_pos (r.1.symm.trans e1)]; exact ⟨r.1, r.2.1, rv⟩
      · rw [if_neg e1, if_neg fun z => e1 (r.1.trans z)]; exact r
  · rw [if_neg q, if_neg q]; exact Paired.snoc pr ⟨rfl, rfl, rv⟩
theorem paired_merge : ∀ {ls : List NE} {ys : List (NestedKey × Addr × Value)} {ks : List NE} {xs : List (NestedKey × Addr × Value)}, Paired (fun (p : NE) (q : NestedKey × Addr × Value) => p.1 = q.1 ∧ p.2.1 = q.2.1 ∧ RelV p.2.2 q.2.2) ls ys → Paired (fun (p : NE) (q : NestedKey × Addr × Value) => p.1 = q.1 ∧ p.2.1 = q.2.1 ∧ RelV p.2.2 q.2.2) ks xs →
    Paired (fun (p : NE) (q : NestedKey × Addr × Value) => p.1 = q.1 ∧ p.2.1 = q.2.1 ∧ RelV p.2.2 q.2.2) (mergeN ks ls) (storedAllH xs ys)
  | _, _, ks, xs, .nil, h => h
  | _, _, ks, xs, .cons (a := p) (b := q) r t, h => by
    show Paired _ (mergeN (putN ks p.1 p.2.1 p.2.2) _) (storedAllH (storedH xs q.1 q.2.1 q.2.2) _)
    refine paired_merge t ?_
    rw [← r.1, ← r.2.1]
    exact paired_put h r.2.2
end
/-! ### operators by values -/
def rInN (P : Program) (w : World) : R2 := fun x y H Q => ∃ a b k ks, x = .ref b ∧ y = .ref a ∧ H a = some (nD P w a ks) ∧ NKey P w H k b ∧ (∀ p ∈ ks, NKey P w H p.1 p.2.1) ∧ Q (.bl (lookA ks k).isSome) H
def rNotInN (P : Program) (w : World) : R2 := fun x y H Q => ∃ a b k ks, x = .ref b ∧ y = .ref a ∧ H a = some (nD P w a ks) ∧ NKey P w H k b ∧ (∀ p ∈ ks, NKey P w H p.1 p.2.1) ∧ Q (.bl (!(lookA ks k).isSome)) H
def rGetN (P : Program) (w : World) : R2 := fun x y H Q => ∃ a b k ks c v, x = .ref a ∧ y = .ref b ∧ H a = some (nD P w a ks) ∧ NKey P w H k b ∧ (∀ p ∈ ks, NKey P w H p.1 p.2.1) ∧ lookA ks k = some (c, v) ∧ Q v H
def rDictN (K : PySem.W.Frag) (P : Program) (w : World) : List V → Hp → VK → Prop := fun xs H Q => ∃ (a : Addr) (ps : List Addr) (ks : List NE), xs = [.ref a] ∧ SqL K H a (ps.map V.ref) ∧ Paired (fun p (q : NE) => SqT K H p [.ref q.2.1, q.2.2]) ps ks ∧ (∀ p ∈ ks, NKey P w H p.1 p.2.1) ∧
  ∀ p, H p = none → Q (.ref p) (upd H p (nD P w p (mergeN [] ks)))
section
variable {X : Cx}
theorem op_inN (hu : X.A.units + 64 < cLine) : OpR X (compareOp .In) (rInN X.prog X.w) := by
  intro pins s σ H x y v u Q I rx ry ⟨a, b, k, ks, e1, e2, hd, hk, hks, q⟩
  subst e1 e2
  obtain rfl : v = Value.ref b := rx
  obtain rfl : u = Value.ref a := ry
  have r := nd_at I.hok hd
  obtain ⟨xs, pr, dd⟩ := nd_dict r I.hok hks
  have e : (lookA ks k).isSome = (atKey xs k).isSome := look_some (F := fun (x : Addr × V) (y : Addr × Value) => RelV x.2 y.2) (kv_of pr) k
  refine wpAny_in_heap (knd := nestedKind X.prog X.w) (show X.A.units + 1 + 8 < cLine by omega) (hk _ I.hok) r.2.1 dd ?_
  rw [← e]
  exact ⟨.bl _, H, I.tok _, rfl, q⟩
theorem op_notInN (hu : X.A.units + 64 < cLine) : OpR X (compareOp .NotIn) (rNotInN X.prog X.w) := by
  intro pins s σ H x y v u Q I rx ry ⟨a, b, k, ks, e1, e2, hd, hk, hks, q⟩
  subst e1 e2
  obtain rfl : v = Value.ref b := rx
  obtain rfl : u = Value.ref a := ry
  have r := nd_at I.hok hd
  obtain ⟨xs, pr, dd⟩ := nd_dict r I.hok hks
  have e : (lookA ks k).isSome = (atKey xs k).isSome := look_some (F := fun (x : Addr × V) (y : Addr × Value) => RelV x.2 y.2) (kv_of pr) k
  refine wpAny_notIn_heap (knd := nestedKind X.prog X.w) (show X.A.units + 1 + 8 < cLine by omega) (hk _ I.hok) r.2.1 dd ?_
  rw [← e]
  exact ⟨.bl _, H, I.tok _, rfl, q⟩
theorem nd_get {pins : List (Addr × Obj)} {s : Shared} {σ : St} {H : Hp} {a b : Addr} {k : NestedKey} {ks : List NE} {c : Addr} {v : V} (hu : X.A.units + 64 < cLine) (I : Inv X pins σ H s) (hd : H a = some (nD X.prog X.w a ks)) (hk : NKey X.prog X.w H k b) (hks : ∀ p ∈ ks, NKey X.prog X.w H p.1 p.2.1) (hv : lookA ks k = some (c, v)) :
    s.TypeIs (.ref a) "dict" ∧ ∃ u, RelV v u ∧ ∀ (E : Value → Shared → Prop) (Q : Value → Shared → Prop), Q u { s with toks := s.toks + (nestedKind X.prog X.w).draws k } → wpAny (model X.prog X.w) X.A (getItem (.ref a) (.ref b)) Q E s := by
  have r := nd_at I.hok hd
  obtain ⟨xs, pr, dd⟩ := nd_dict r I.hok hks
  have e := look_pair (F := fun (x : Addr × V) (y : Addr × Value) => RelV x.2 y.2) (kv_of pr) k
  rw [hv] at e
  cases q : lookA xs k with
  | none => rw [q] at e; exact e.elim
  | some y =>
    rw [q] at e
    exact ⟨dd.typeIs, y.2, e, fun E Q h => wpAny_getItem_heap (knd := nestedKind X.prog X.w) (show X.A.units + 1 + 8 < cLine by omega) (hk _ I.hok) dd q h⟩
theorem ix_getN (hu : X.A.units + 64 < cLine) : IxR X (rGetN X.prog X.w) := by
  intro value slice pins s σ H x y v u Q I rx ry ⟨a, b, k, ks, c, z, e1, e2, hd, hk, hks, hv, q⟩ hs
  subst e1 e2
  obtain rfl : v = Value.ref a := rx
  obtain rfl : u = Value.ref b := ry
  obtain ⟨hT, z', rz, go⟩ := nd_get hu I hd hk hks hv
  exact subscriptTail_builtinR (x := z') hT PySem.F.slot_dict_getitem.lookup (go _ _ ⟨rfl, z, H, I.tok _, rz, q⟩) hs
theorem npairs_of {pins : List (Addr × Obj)} {σ : St} {H : Hp} {s : Shared} (I : Inv X pins σ H s) : ∀ {ps : List Addr} {ks : List NE}, Paired (fun p (q : NE) => SqT X.K H p [.ref q.2.1, q.2.2]) ps ks →
    ∃ xs : List (NestedKey × Addr × Value), Paired (fun (p : NE) (q : NestedKey × Addr × Value) => p.1 = q.1 ∧ p.2.1 = q.2.1 ∧ RelV p.2.2 q.2.2) ks xs ∧ xs.length = ps.length ∧ ∀ (j : Nat) (q : NestedKey × Addr × Value), xs[j]? = some q → ∃ b : Addr, ps[j]? = some b ∧ s.heap.IsTuple b #[.ref q.2.1, q.2.2]
  | _, _, .nil => ⟨[], .nil, rfl, fun j q e => by simp at e⟩
  | _, _, .cons (a := p) (b := kv) h t => by
    obtain ⟨xs, r, hl, hp⟩ := npairs_of I t
    obtain ⟨its, rv, ht, _⟩ := I.tuple h
    obtain ⟨u, y, ei, ru, ry⟩ := vals2 rv
    subst ei
    obtain rfl : u = Value.ref kv.2.1 := ru
    refine ⟨(kv.1, kv.2.1, y) :: xs, .cons ⟨rfl, rfl, ry⟩ r, by rw [List.length_cons, List.length_cons, hl], fun j q e => ?_⟩
    cases j with
    | zero =>
      have e' : (kv.1, kv.2.1, y) = q := Option.some.inj e
      subst e'
      exact ⟨p, rfl, ht⟩
    | succ j =>
      obtain ⟨b, e1, e2⟩ := hp j q (by simpa using e)
      exact ⟨b, by simpa using e1, e2⟩
theorem call_dictN (hcalm : X.calm = true) (hu : X.A.units + 64 < cLine) : CallR X (.type "dict") (rDictN X.K X.prog X.w) := by
  intro pins s σ H xs us Q I r ⟨a, ps, ks, ex, hq, hp, hks, q⟩
  subst ex
  obtain ⟨u, eu, rx⟩ := vals1 r
  subst eu
  obtain rfl : u = Value.ref a := rx
  obtain ⟨its, rv, pl, hz⟩ := I.list hq
  have ei := refs_at rv
  subst ei
  rw [List.length_map] at hz
  obtain ⟨ys, pr, hl, hpr⟩ := npairs_of I hp
  obtain ⟨o, n, ho, hc, hd, hdat⟩ := pl
  have dd : ∀ x ∈ ys, (nestedKind X.prog X.w).is s.heap x.1 x.2.1 := by
    clear hpr hl q hp hz
    induction pr with
    | nil => intro x hx; cases hx
    | cons r t ih =>
      intro x hx
      rcases List.mem_cons.mp hx with e | hx
      · subst e; rw [← r.1, ← r.2.1]; exact hks _ List.mem_cons_self _ I.hok
      · exact ih (fun p hp => hks p (List.mem_cons_of_mem _ hp)) x hx
  let prs : List (Value × Value) := ys.map fun x => (.ref x.2.1, x.2.2)
  have hlen : prs.length = ps.length := by simp [prs, hl]
  refine call_dict_pairsH (knd := nestedKind X.prog X.w) (ps := ys) (PairArg.list a (ps.map Value.ref).toArray (fun j => ps.getD j 0) prs) (I.ok.hd hcalm) (show X.A.units + 1 + 1 + 8 < cLine by omega) ⟨⟨o, n, ho, hc, hd, hdat⟩, ?_, fun j k v hj => ?_⟩ ⟨by simp [prs], fun i key v hi => ?_⟩ ?_ (by rw [hlen]; exact hz) fun h' tk hd' hk => ?_
  · rw [hlen]; simp
  · have hj' : (ys.map fun x : NestedKey × Addr × Value => (Value.ref x.2.1, x.2.2))[j]? = some (k, v) := hj
    rw [List.getElem?_map] at hj'
    cases e : ys[j]? with
    | none => rw [e] at hj'; cases hj'
    | some y =>
      rw [e] at hj'
      cases hj'
      obtain ⟨b, e1, e2⟩ := hpr j y e
      have eg : ps.getD j 0 = b := by simp [List.getD, e1]
      refine ⟨?_, .inl ?_⟩
      · show (ps.map Value.ref).toArray[j]? = some (Value.ref (ps.getD j 0))
        rw [eg]; simp [e1]
      · show s.heap.IsTuple (ps.getD j 0) _
        rw [eg]; exact e2
  · have hi' : (ys.map fun x : NestedKey × Addr × Value => (Value.ref x.2.1, x.2.2))[i]? = some (key, v) := hi
    rw [List.getElem?_map] at hi'
    cases e : ys[i]? with
    | none => rw [e] at hi'; cases hi'
    | some y =>
      rw [e] at hi'
      cases hi'
      exact ⟨y.1, y.2.1, rfl, rfl⟩
  · intro h' hk x hx
    refine nestedKind_stays.stays (fun b o vs n e _ => ?_) (dd x hx)
    exact hk b o (Nat.ne_of_lt (Heap.lt_size e)) (fun z => nomatch z) e
  · have hm : (s.heap.objs.size == sysModules) = false := beq_eq_false_iff_ne.mpr (Nat.ne_of_gt I.big)
    have hle : (mergeN [] ks).length ≤ sizeLine := by
      refine Nat.le_trans (length_mergeN ks []) ?_
      rw [List.length_nil, Nat.zero_add, pr.length, hl]
      exact hz
    obtain ⟨o', es, ep, q1, q2, q3, q4, _, q5⟩ := hd'
    refine ⟨.ref s.heap.objs.size, upd H s.heap.objs.size (nD X.prog X.w s.heap.objs.size (mergeN [] ks)), I.laid (t' := tk) (fun b o e => hk b o (fun z => nomatch z) e) (Nat.le_refl _) (nd_ok ⟨hle, hm, _, paired_merge pr .nil, o', es, ep, q1, q2, q3, q4, q5⟩), rfl, q _ (I.hok.fresh (Nat.le_refl _))⟩
end
end TM
set_option Elab.async false
set_option linter.all false
set_option maxRecDepth 100000
/-! Dicts with tuple keys in the typed layer; enumerate; comprehensions with three names; a tuple so many times. -/
namespace TM
open PySem PySem.Spec PyProof.Rows L2
/-- a kind of values that may be a key or a part of one -/
structure KN (κ : Type) where
  r : RT κ
  enc : κ → NestedKey
  d : Nat
  inj : ∀ x y, enc x = enc y → x = y
  dep : ∀ x, (enc x).depth ≤ d
  is : ∀ {P : Program} {w : World} {H : Hp} {h : Heap} {v : V} {u : Value} {x : κ}, HOk P w H h → r.ok H v x → RelV v u → NestedIs h (enc x) u
def knInt : KN Int := ⟨rInt, .num, 0, fun x y e => by injection e, fun _ => Nat.le_refl _, fun _ e r => by
  cases e; obtain ⟨t, rfl⟩ := r; exact .int _ _⟩
def knStr : KN Str := ⟨rStr, .text, 0, fun x y e => by injection e, fun _ => Nat.le_refl _, fun _ e r => by
  cases e; obtain ⟨t, rfl⟩ := r; exact .text _ _⟩
theorem depthAll_le {α : Type} {f : α → NestedKey} {d : Nat} (h : ∀ x, (f x).depth ≤ d) : ∀ xs : List α, NestedKey.depthAll (xs.map f) ≤ d
  | [] => Nat.zero_le _
  | x :: xs => by
    rw [List.map_cons, NestedKey.depthAll]
    exact Nat.max_le.mpr ⟨h x, depthAll_le h xs⟩
theorem map_inj' {α β : Type} {f : α → β} (h : ∀ x y, f x = f y → x = y) : ∀ xs ys : List α, xs.map f = ys.map f → xs = ys
  | [], [], _ => rfl
  | [], _ :: _, e => by simp at e
  | _ :: _, [], e => by simp at e
  | x :: xs, y :: ys, e => by
    rw [List.map_cons, List.map_cons] at e
    injection e with e1 e2
    rw [h _ _ e1, map_inj' h _ _ e2]
theorem nested_all {κ : Type} {P : Program} {w : World} {H : Hp} {h : Heap} (k : KN κ) (ok : HOk P w H h) : ∀ {vs : List V} {us : List Value} {xs : List κ}, Vals vs us → Paired (k.r.ok H) vs xs → NestedAll h (xs.map k.enc) us
  | _, _, _, .nil, .nil => .nil
  | _, _, _, .cons r t, .cons p q => .cons (k.is ok p r) (nested_all k ok t q)
theorem tup_at {P : Program} {w : World} {H : Hp} {h : Heap} {a : Addr} {vs : List V} (ok : HOk P w H h) (e : H a = some (.tup vs)) : ∃ its : List Value, Vals vs its ∧ IsTup h a its.toArray := by
  obtain ⟨_, its, r, p⟩ := (show ObjOk P w H h a (.tup vs) from ok a _ e)
  exact ⟨its, r, p⟩
def knT {κ : Type} (k : KN κ) : KN (List κ) := ⟨rT k.r, fun xs => .tup (xs.map k.enc), k.d + 1, fun x y e => by injection e with e; exact map_inj' k.inj _ _ e, fun xs => by
    show NestedKey.depthAll _ + 1 ≤ _
    exact Nat.succ_le_succ (depthAll_le k.dep xs), fun ok ⟨a, vs, e, hh, pr⟩ r => by
  subst e
  obtain rfl := (show _ = Value.ref a from r)
  obtain ⟨its, rv, o, ho, hc, n, hd⟩ := tup_at ok hh
  exact .tup ho hc hd (nested_all k ok rv pr)⟩
def knP {κ μ : Type} (k : KN κ) (m : KN μ) : KN (κ × μ) := ⟨rP k.r m.r, fun p => .tup [k.enc p.1, m.enc p.2], max k.d m.d + 1, fun x y e => by
    injection e with e
    injection e with e1 e2
    injection e2 with e2
    exact Prod.ext (k.inj _ _ e1) (m.inj _ _ e2), fun p => by
    have h1 := k.dep p.1
    have h2 := m.dep p.2
    show max (k.enc p.1).depth (max (m.enc p.2).depth 0) + 1 ≤ _
    omega, fun ok ⟨a, x, y, e, hh, p1, p2⟩ r => by
  subst e
  obtain rfl := (show _ = Value.ref a from r)
  obtain ⟨its, rv, o, ho, hc, n, hd⟩ := tup_at ok hh
  cases rv with
  | cons r1 t => cases t with
    | cons r2 t => cases t; exact .tup ho hc hd (.cons (k.is ok p1 r1) (.cons (m.is ok p2 r2) .nil))⟩
def IsR {κ : Type} (k : KN κ) : Prop := ∀ H v x, k.r.ok H v x → ∃ b, v = V.ref b
theorem isR_T {κ : Type} {k : KN κ} : IsR (knT k) := fun _ _ _ ⟨a, _, e, _⟩ => ⟨a, e⟩
theorem isR_P {κ μ : Type} {k : KN κ} {m : KN μ} : IsR (knP k m) := fun _ _ _ ⟨a, _, _, e, _⟩ => ⟨a, e⟩
theorem nkey_of {κ : Type} {P : Program} {w : World} {W : Wd} {k : KN κ} {b : Addr} {x : κ} (o : W.Ok) (hd : k.d ≤ 8) (h : k.r.ok W.Hc (.ref b) x) : NKey P w W.H (k.enc x) b := fun _ ok =>
  ⟨k.is ok (k.r.mono o.ex h) rfl, Nat.le_trans (k.dep x) hd⟩
section
variable {κ β : Type} [DecidableEq κ]
/-- entry by entry -/
abbrev NRel (k : KN κ) (r : RT β) (H : Hp) : NE → κ × β → Prop := fun p q => p.1 = k.enc q.1 ∧ k.r.ok H (.ref p.2.1) q.1 ∧ r.ok H p.2.2 q.2
theorem NRel.up {k : KN κ} {r : RT β} {H H' : Hp} (e : Ex H H') {ks : List NE} {d : List (κ × β)} (h : Paired (NRel k r H) ks d) : Paired (NRel k r H') ks d := pmap h fun _ _ ⟨a, b, c⟩ => ⟨a, k.r.mono e b, r.mono e c⟩
def rD (P : Program) (w : World) (k : KN κ) (r : RT β) : RT (List (κ × β)) := ⟨fun H v d => ∃ a ks, v = .ref a ∧ H a = some (nD P w a ks) ∧ Paired (NRel k r H) ks d,
  fun e ⟨a, ks, h1, h2, h3⟩ => ⟨a, ks, h1, e _ _ h2, NRel.up e h3⟩⟩
theorem enc_iff (k : KN κ) (x y : κ) : (k.enc x = k.enc y) ↔ x = y := ⟨k.inj x y, fun e => by rw [e]⟩
theorem nrel_look {k : KN κ} {r : RT β} {H : Hp} {ks : List NE} {d : List (κ × β)} (h : Paired (NRel k r H) ks d) (x : κ) : match lookA ks (k.enc x), lookA d x with
    | some u, some y => k.r.ok H (.ref u.1) x ∧ r.ok H u.2 y
    | none, none => True
    | _, _ => False := by
  induction h with
  | nil => exact trivial
  | @cons p q ps qs h t ih =>
    rw [lookA_cons, lookA_cons]
    by_cases e1 : q.1 = x
    · rw [if_pos (h.1.trans (by rw [e1])), if_pos e1]; exact ⟨by rw [← e1]; exact h.2.1, h.2.2⟩
    · rw [if_neg (fun z => e1 ((enc_iff k _ _).mp (h.1.symm.trans z))), if_neg e1]; exact ih
theorem nrel_some {k : KN κ} {r : RT β} {H : Hp} {ks : List NE} {d : List (κ × β)} (h : Paired (NRel k r H) ks d) (x : κ) : (lookA ks (k.enc x)).isSome = (lookA d x).isSome := by
  have := nrel_look h x
  revert this
  cases lookA ks (k.enc x) <;> cases lookA d x <;> simp
theorem nrel_put {k : KN κ} {r : RT β} {H : Hp} {ks : List NE} {d : List (κ × β)} (h : Paired (NRel k r H) ks d) {x : κ} {b : Addr} {v : V} {y : β} (hk : k.r.ok H (.ref b) x) (hv : r.ok H v y) : Paired (NRel k r H) (putN ks (k.enc x) b v) (putA d x y) := by
  unfold putN putA
  rw [nrel_some h x]
  by_cases q : (lookA d x).isSome = true
  · rw [if_pos q, if_pos q]
    clear q
    induction h with
    | nil => exact .nil
    | @cons p z ps zs r t ih =>
      rw [List.map_cons, List.map_cons]
      refine .cons ?_ ih
      by_cases e1 : z.1 = x
      · rw [if_pos (r.1.trans (by rw [e1])), if_pos e1]; exact ⟨r.1, r.2.1, hv⟩
      · rw [if_neg (fun w => e1 ((enc_iff k _ _).mp (r.1.symm.trans w))), if_neg e1]; exact r
  · rw [if_neg q, if_neg q]; exact Paired.snoc h ⟨rfl, hk, hv⟩
theorem nrel_merge {k : KN κ} {r : RT β} {H : Hp} : ∀ {ls : List NE} {l : List (κ × β)} {ks : List NE} {d : List (κ × β)}, Paired (NRel k r H) ls l → Paired (NRel k r H) ks d → Paired (NRel k r H) (mergeN ks ls) (mergeA d l)
  | _, _, ks, d, .nil, h => h
  | _, _, ks, d, .cons (a := p) (b := q) e t, h => by
    show Paired _ (mergeN (putN ks p.1 p.2.1 p.2.2) _) (mergeA (putA d q.1 q.2) _)
    refine nrel_merge t ?_
    rw [e.1]
    exact nrel_put h e.2.1 e.2.2
theorem nrel_keys {P : Program} {w : World} {k : KN κ} {r : RT β} {W : Wd} (o : W.Ok) (hd : k.d ≤ 8) {ks : List NE} {d : List (κ × β)} (h : Paired (NRel k r W.Hc) ks d) : ∀ p ∈ ks, NKey P w W.H p.1 p.2.1 := by
  induction h with
  | nil => intro p hp; cases hp
  | @cons p q ps qs e t ih =>
    intro z hz
    rcases List.mem_cons.mp hz with e2 | hz
    · subst e2; rw [e.1]; exact nkey_of o hd e.2.1
    · exact ih z hz
theorem os_inN {P : Program} {w : World} (k : KN κ) (r : RT β) (hd : k.d ≤ 8) (hR : IsR k) : OpS (rInN P w) k.r (rD P w k r) rBl (fun x d Q => Q (lookA d x).isSome) := fun W o v x u y e1 ⟨a, ks, e2, hh, pr⟩ Q P m q => by
  obtain ⟨b, rfl⟩ := hR _ _ _ e1
  exact ⟨a, b, k.enc x, ks, rfl, e2, o.ex _ _ hh, nkey_of o hd e1, nrel_keys o hd pr, q _ _ W m o (Grow.refl W) (by rw [nrel_some pr x])⟩
theorem os_notInN {P : Program} {w : World} (k : KN κ) (r : RT β) (hd : k.d ≤ 8) (hR : IsR k) : OpS (rNotInN P w) k.r (rD P w k r) rBl (fun x d Q => Q (!(lookA d x).isSome)) := fun W o v x u y e1 ⟨a, ks, e2, hh, pr⟩ Q P m q => by
  obtain ⟨b, rfl⟩ := hR _ _ _ e1
  exact ⟨a, b, k.enc x, ks, rfl, e2, o.ex _ _ hh, nkey_of o hd e1, nrel_keys o hd pr, q _ _ W m o (Grow.refl W) (by rw [nrel_some pr x])⟩
theorem os_getN {P : Program} {w : World} (k : KN κ) (r : RT β) (hd : k.d ≤ 8) (hR : IsR k) : OpS (rGetN P w) (rD P w k r) k.r r (fun d x Q => ∃ y, lookA d x = some y ∧ Q y) := fun W o v d u x ⟨a, ks, e2, hh, pr⟩ e1 Q P ⟨y, hy, m⟩ q => by
  obtain ⟨b, rfl⟩ := hR _ _ _ e1
  have h := nrel_look pr x
  rw [hy] at h
  cases e : lookA ks (k.enc x) with
  | none => rw [e] at h; exact h.elim
  | some z =>
    rw [e] at h
    exact ⟨a, b, k.enc x, ks, z.1, z.2, e2, rfl, o.ex _ _ hh, nkey_of o hd e1, nrel_keys o hd pr, e, q y z.2 W m o (Grow.refl W) h.2⟩
theorem pairs_entries {K : PySem.W.Frag} (k : KN κ) (r : RT β) (hR : IsR k) {W : Wd} (o : W.Ok) : ∀ {vs : List V} {l : List (κ × β)}, Paired ((rP k.r r).ok W.Hc) vs l → ∃ (ps : List Addr) (ks : List NE), vs = ps.map V.ref ∧ Paired (fun p (q : NE) => SqT K W.H p [.ref q.2.1, q.2.2]) ps ks ∧ Paired (NRel k r W.Hc) ks l
  | _, _, .nil => ⟨[], [], rfl, .nil, .nil⟩
  | _, _, .cons (b := z) ⟨a, x, y, e, hh, r1, r2⟩ t => by
    obtain ⟨ps, ks, e1, h1, h2⟩ := pairs_entries k r hR o t
    obtain ⟨b, rfl⟩ := hR _ _ _ r1
    exact ⟨a :: ps, (k.enc z.1, b, y) :: ks, by rw [e, e1]; rfl, .cons (sqt_of (o.ex _ _ hh)) h1, .cons ⟨rfl, r1, r2⟩ h2⟩
theorem cs_dictN {K : PySem.W.Frag} {P : Program} {w : World} (k : KN κ) (r : RT β) (hd : k.d ≤ 8) (hR : IsR k) : CallS (rDictN K P w) (rac (rL (rP k.r r)) ra0) (rD P w k r) (fun x Q => Q (mergeA [] x.1)) := fun W o vs x ⟨v, ws, e, ⟨a, us, e1, hh, pr⟩, e3⟩ Q Z m h => by
  have e3 : ws = [] := e3
  subst e e1 e3
  obtain ⟨ps, ks, e4, h1, h2⟩ := pairs_entries (K := K) k r hR o pr
  subst e4
  refine ⟨a, ps, ks, rfl, sql_of (o.ex _ _ hh), h1, nrel_keys o hd h2, fun p np => ?_⟩
  have gg := grow_add (o := nD P w p (mergeN [] ks)) o np
  exact h _ _ (W.add p (nD P w p (mergeN [] ks))) m (o.add np) gg ⟨p, _, rfl, upd_same, nrel_merge (NRel.up gg.hc h2) .nil⟩
end
theorem os_repT {K : PySem.W.Frag} {α : Type} {r : RT α} : OpS (rRepT K) (rT r) rInt (rT r) (fun xs k P => (xs ≠ [] ∧ 2 ≤ k ∧ k ≤ 1000 ∧ xs.length ≤ 1000) ∧ P (List.replicate k.toNat xs).flatten) := fun W o v x u y ⟨a, vs, e1, hh, pr⟩ e2 Q P ⟨⟨m1, m2, m3, m4⟩, m⟩ q => by
  have e2 : u = V.int y := e2
  subst e1 e2
  have hl := pr.length
  refine ⟨a, y, vs, rfl, rfl, sqt_of (o.ex _ _ hh), fun e => m1 (by rw [e] at hl; exact List.eq_nil_of_length_eq_zero hl.symm), m2, m3, by omega, fun p np => ?_⟩
  have gg := grow_add (o := .tup (List.replicate y.toNat vs).flatten) o np
  refine q _ _ (W.add p (.tup (List.replicate y.toNat vs).flatten)) m (o.add np) gg ⟨p, _, rfl, upd_same, ?_⟩
  have pr' := pmap pr fun _ _ => r.mono gg.hc
  generalize (W.add p (.tup (List.replicate y.toNat vs).flatten)).Hc = Hz at *
  clear q m m2 m3 gg
  generalize y.toNat = n
  induction n with
  | zero => exact .nil
  | succ n ih => rw [List.replicate_succ, List.replicate_succ, List.flatten_cons, List.flatten_cons]; exact paired_app pr' ih
section
variable {X : Cx} {Γ Δ : List SP} {α β γ δ τ S S' B R : Type} {e a b c tg iter elt : Expr} {es : List Expr} {pos : Pos}
def enumF {α : Type} (i : Nat) : List α → List (Int × α)
  | [] => []
  | x :: xs => ((i : Int), x) :: enumF (i + 1) xs
theorem enumF_length {α : Type} : ∀ (xs : List α) (i : Nat), (enumF i xs).length = xs.length
  | [], _ => rfl
  | _ :: xs, i => by rw [enumF, List.length_cons, List.length_cons, enumF_length xs]
theorem enumF_get {α : Type} : ∀ (xs : List α) (i j : Nat) (x : α), xs[j]? = some x → (enumF i xs)[j]? = some (((i + j : Nat) : Int), x)
  | [], _, _, _, h => by simp at h
  | y :: xs, i, 0, x, h => by simp at h; subst h; rfl
  | y :: xs, i, j + 1, x, h => by
    have := enumF_get xs (i + 1) j x (by simpa using h)
    rw [enumF, List.getElem?_cons_succ, this]
    congr 2; omega
/-- enumerate(list) -/
theorem xi_enum {M : Mp (List α)} {r : RT α} {p tpos : Pos} {elts : List Expr} {kk : Nat} (hm : X.mg "enumerate" = none) (ha : XP X Γ e M (rL r)) (hg : Gl X "enumerate" := by rfl) (hs : starEach [e] X.env = (false, eval e X.env) :: starEach [] X.env := by rfl) :
    XI X Γ (.Tuple elts kk tpos) (.Call (.Name "enumerate" p) [e] [] pos) (fun P => M fun xs => P (enumF 0 xs)) (rP rInt r) := by
  obtain ⟨t, pp, q⟩ := ha
  refine ⟨_, pi_enum hg hm (pa_cons pp pa_nil hs) hs, fun σ W k g Q P m h => q σ W k g _ _ m fun xs v W1 m1 k1 s1 g1 ⟨u, vs, e, hh, pr⟩ => ?_⟩
  subst e
  refine ⟨u, vs, rfl, sql_of (k1.ex _ _ hh), h _ _ W1 m1 k1 s1 g1 fun W2 k2 s2 => ?_⟩
  have hl : SqL X.K W2.H u vs := sql_of (k2.ex _ _ (s2.hc _ _ hh))
  refine ⟨fun i hi => ?_, fun i w H' hi y => ?_, ⟨vs, hl, by rw [pr.length, enumF_length]; exact Nat.le_refl _⟩⟩
  · rw [enumF_length] at hi
    obtain ⟨x, _, e, _, _⟩ := paired_get pr hi
    exact ⟨vs, x, hl, e⟩
  · rw [enumF_length] at hi
    obtain ⟨x, z, e, e2, rr⟩ := paired_get pr hi
    obtain ⟨T, x', rfl, nT, rfl, y⟩ := y
    have := (y vs hl).symm.trans e
    cases this
    have gg := grow_add (o := .tup [.int (i : Nat), x]) k2 nT
    have eg := enumF_get xs 0 i z e2
    rw [Nat.zero_add] at eg
    exact ⟨W2.add T (.tup [.int (i : Nat), x]), _, eg, rfl, k2.add nT, gg, T, _, _, rfl, upd_same, rfl, r.mono gg.hc (r.mono s2.hc rr)⟩
theorem set3 {ι : Type _} {l : List ι} {i j k : Nat} {a b c x y z : ι} (h1 : i ≠ j) (h2 : i ≠ k) (h3 : j ≠ k) : ((((((((l.set k z).set j y).set i x).set i a).set j b).set k c).set k z).set j y).set i x = ((l.set k z).set j y).set i x := by
  apply List.ext_getElem?
  intro n
  simp only [List.getElem?_set, List.length_set]
  by_cases e1 : i = n
  · subst e1; simp [h1.symm, h2.symm]
  · by_cases e2 : j = n
    · subst e2; simp [h1, h3.symm]
    · by_cases e3 : k = n
      · subst e3; simp [h2, h3]
      · simp [e1, e2, e3]
/-- [elt for x, y, z in iter] -/
theorem xlc_3 (i j l : Nat) {x y z : Str} {scope : Scope} {Ms : Mp (List (α × δ × γ))} {ra : RT α} {rd : RT δ} {re : RT γ} {r : RT β} {Me : α × δ × γ → Mp β} (hij : i ≠ j ∧ i ≠ l ∧ j ≠ l) (hi : XIL X Γ tg iter [i, j, l] Ms (rP3 ra rd re)) (hv : isClu (look Γ i) = true) (hv2 : isClu (look Γ j) = true) (hv3 : isClu (look Γ l) = true)
    (he : ∀ y (s : Shared) (H : Hp) (C : Addr) (cl : List (Str × Addr)) (fp : List Addr), XP (X.blk s H scope (compEnvC scope cl C X.env) fp) ((((((Γ.set l .unk).set j .unk).set i .unk).set i (.cl ra y.1)).set j (.cl rd y.2.1)).set l (.cl re y.2.2)) elt (Me y) r) :
    XLC X Γ elt tg iter [] scope [(x, i), (y, j), (z, l)] (gTup X.K 3 (gCons (gName i) (gCons (gName j) (gCons (gName l) gNil)))) (fun P => Ms fun xs => xs.length ≤ sizeLine ∧ lcW xs (fun x nx => Me x fun y => nx (some y)) [] P) r :=
  xlc_core (Γt := fun y : α × δ × γ => ((((((Γ.set l .unk).set j .unk).set i .unk).set i (.cl ra y.1)).set j (.cl rd y.2.1)).set l (.cl re y.2.2))) (Mc := fun _ P => P true) hi (fun k hk => by
    have : k = i ∨ k = j ∨ k = l := by simpa using hk
    rcases this with e | e | e <;> rw [e] <;> assumption) (fun σ W v z k g ⟨u, a1, a2, a3, e, hh, r1, r2, r3⟩ Q h => ⟨u, [a1, a2, a3], e, sqt_of (k.ex _ _ hh), rfl, a1, [a2, a3], rfl, a2, [a3], rfl, a3, [], rfl, rfl, h _ (((g.put (spc r1)).put (spc r2)).put (spc r3)) (set3 hij.1 hij.2.1 hij.2.2)⟩)
    (fun σ σ' W y g hw => by
      rw [← hw]
      have h1 := ((g.put (i := l) (p := .unk) (o := none) trivial).put (i := j) (p := .unk) (o := none) trivial).put (i := i) (p := .unk) (o := none) trivial
      rw [set3 hij.1 hij.2.1 hij.2.2] at h1
      exact h1) (fun _ _ _ _ _ => pts_nil) (fun y σ W k g Q P m h => h true W m k (Step.refl W) g) he
end
end TM
set_option Elab.async false
set_option linter.all false
set_option maxRecDepth 100000
/-! Texts cut and put together, nested targets, values or None compared. -/
namespace TM
open PySem PySem.Spec PyProof.Rows L2
section
variable {X : Cx} {Γ Δ : List SP} {α β γ δ τ S S' B R : Type} {e a b c tg iter elt : Expr} {es : List Expr} {pos : Pos}
/-- z[lo:hi] -/
theorem xp_sliceS {lo hi : Option Expr} {p2 : Pos} {M : Mp Str} {N O : Mp (Option Int)} (h : XP X Γ e M rStr) (hl : XO X Γ lo N) (hh : XO X Γ hi O) : XP X Γ (.Subscript e (.Slice lo hi none p2) pos) (fun P => M fun z => N fun i => O fun j => z.length ≤ sizeLine ∧ P (cutS z i j)) rStr := by
  obtain ⟨t, p, q⟩ := h
  obtain ⟨t2, p2, q2⟩ := hl
  obtain ⟨t3, p3, q3⟩ := hh
  refine ⟨_, pe_slice sl_str p p2 p3, fun σ W k s Q P m h => q σ W k s _ _ m fun z v W1 m1 k1 s1 g1 r1 => ?_⟩
  exact q2 σ W1 k1 g1 _ _ m1 fun i W2 m2 k2 s2 g2 => q3 σ W2 k2 g2 _ _ m2 fun j W3 m3 k3 s3 g3 => ⟨z, r1, m3.1, h _ _ W3 m3.2 k3 ((s1.trans s2).trans s3) g3 rfl⟩
/-- one sign is a text -/
theorem xp_sign {M : Mp Nat} (h : XP X Γ e M rSign) : XP X Γ e (fun P => M fun c => P (⟨#[c]⟩ : Str)) rStr := XP.map (fun c => (⟨#[c]⟩ : Str)) (fun _ _ _ h => h) h
def repS (z : Str) (n : Nat) : Str := ⟨((List.replicate n z.cps.toList).flatten).toArray⟩
def rRepS : R2 := fun x y H Q => ∃ z n, x = .str z ∧ y = .int n ∧ 2 ≤ n ∧ n ≤ 1000 ∧ 1 ≤ z.length ∧ z.length ≤ 1000 ∧ Q (.str (repS z n.toNat)) H
theorem fold_many {ι : Type} (a : Array ι) : ∀ (n : Nat) (acc : Array ι), ((List.replicate n a).foldl (· ++ ·) acc).toList = acc.toList ++ (List.replicate n a.toList).flatten
  | 0, acc => by simp
  | n + 1, acc => by
    rw [List.replicate_succ, List.foldl_cons, fold_many a n, List.replicate_succ, List.flatten_cons, Array.toList_append, List.append_assoc]
theorem repS_size (z : Str) (n : Nat) : (repS z n).length = n * z.length := by
  show ((List.replicate n z.cps.toList).flatten).toArray.size = n * z.cps.size
  rw [List.size_toArray, List.length_flatten, List.map_replicate, List.sum_replicate_nat, Array.length_toList]
theorem op_repS : OpR X (binaryOp .Mult) rRepS := by
  intro pins s σ H x y v u Q I rx ry ⟨z, n, e1, e2, h1, h2, h3, h4, q⟩
  subst e1 e2
  obtain ⟨t, rfl⟩ := rx
  obtain ⟨t', rfl⟩ := ry
  have c1 : (n == 1 || z.length == 0) = false := by
    rw [Bool.or_eq_false_iff]
    exact ⟨beq_eq_false_iff_ne.mpr (by omega), beq_eq_false_iff_ne.mpr (by omega)⟩
  have eq : (⟨(List.replicate n.toNat z.cps).foldl (· ++ ·) #[]⟩ : Str) = repS z n.toNat := by
    unfold repS
    congr 1
    apply Array.ext'
    rw [fold_many]; simp
  have big : z.length * n.toNat ≤ 1000000 := Nat.le_trans (Nat.mul_le_mul h4 (show n.toNat ≤ 1000 by omega)) (by decide)
  refine P.mul_str (by rw [decide_eq_false (by omega), decide_eq_false (by omega)]; rfl) (fun _ _ => ?_) (fun _ _ => ?_) ?_
  · have : (1000 : Int) ≤ (2 ^ 63 - 1) / n := (Int.le_ediv_iff_mul_le (by omega)).mpr (by omega)
    omega
  · exact decide_eq_false (Nat.not_lt.mpr (Nat.le_trans big (by decide)))
  · rw [if_neg (by omega), if_neg (by rw [c1]; decide), eq]
    refine ⟨?_, .str (repS z n.toNat), H, I.tok _, ⟨_, rfl⟩, q⟩
    have : (repS z n.toNat).length ≤ 1000000 := by rw [repS_size, Nat.mul_comm]; exact big
    exact Nat.le_trans this (by decide)
theorem os_repS : OpS rRepS rStr rInt rStr (fun z n P => (2 ≤ n ∧ n ≤ 1000 ∧ 1 ≤ z.length ∧ z.length ≤ 1000) ∧ P (repS z n.toNat)) := fun W o v x u y e1 e2 Q P ⟨⟨m1, m2, m3, m4⟩, m⟩ q =>
  ⟨x, y, e1, e2, m1, m2, m3, m4, q _ _ W m o (Grow.refl W) rfl⟩
/-- for a, (b, c) in .. -/
theorem xg_tupN (i j l : Nat) {x y z : Str} {p1 p2 p3 p4 : Pos} {k k2 : Nat} {Γs : S → List SP} {ra : RT α} {rb : RT β} {rc : RT γ} (hnd : X.N.Nodup)
    (hg : PG X (.Tuple [.Name x p1, .Tuple [.Name y p2, .Name z p3] k2 p4] k pos) (gTup X.K 2 (gCons (gName i) (gCons (gTup X.K 2 (gCons (gName j) (gCons (gName l) gNil))) gNil)))) :
    XG X (.Tuple [.Name x p1, .Tuple [.Name y p2, .Name z p3] k2 p4] k pos) Γs (rP ra (rP rb rc)) (fun z s => (((Γs s).set i (.cl ra z.1)).set j (.cl rb z.2.1)).set l (.cl rc z.2.2)) :=
  ⟨_, hg, fun σ W v z s kk g ⟨u, a1, a2, e, hh, r1, w, b1, b2, e2, hh2, r2, r3⟩ Q h => ⟨u, [a1, a2], e, sqt_of (kk.ex _ _ hh), rfl, a1, [a2], rfl, a2, [], rfl, ⟨w, [b1, b2], e2, sqt_of (kk.ex _ _ hh2), rfl, b1, [b2], rfl, b2, [], rfl, rfl, rfl, h _ (((g.put (spc r1)).put (spc r2)).put (spc r3))⟩⟩⟩
def fO {r : RT α} (F : Flat r) (hn : ∀ x, F.f x ≠ V.non) (hs : ∀ x, scal V.non (F.f x) = true ∧ scal (F.f x) V.non = true) (he : ∀ x, eqV V.non (F.f x) = false ∧ eqV (F.f x) V.non = false) : Flat (rO r) where
  f := fun o => match o with | none => V.non | some x => F.f x
  ok := fun H v o => by
    cases o with
    | none => exact Iff.rfl
    | some x => exact ⟨fun h => (F.ok H v x).mp h.2, fun h => ⟨fun e => hn x (by rw [← show v = F.f x from h, e]), (F.ok H v x).mpr h⟩⟩
  inj := fun x y h => by
    cases x <;> cases y
    · rfl
    · exact absurd h.symm (hn _)
    · exact absurd h (hn _)
    · exact congrArg _ (F.inj _ _ h)
  scal := fun x y => by
    cases x <;> cases y
    · rfl
    · exact (hs _).1
    · exact (hs _).2
    · exact F.scal _ _
  flat := fun x => by
    cases x
    · rfl
    · exact F.flat _
  inv := fun x y => by
    cases x <;> cases y
    · rfl
    · exact (he _).1.trans (decide_eq_false fun h => hn _ h.symm).symm
    · exact (he _).2.trans (decide_eq_false fun h => hn _ h).symm
    · exact F.inv _ _
def fOI : Flat (rO rInt) := fO fInt (fun x h => by cases h) (fun x => ⟨rfl, rfl⟩) (fun x => ⟨rfl, rfl⟩)
end
end TM
set_option Elab.async false
set_option linter.all false
set_option maxRecDepth 100000
/-! zip of two sequences of any kinds (list, tuple). -/
namespace TM
open PySem PySem.Spec PyProof.Rows L2
/-- a kind of sequence that may be walked -/
structure SqK (K : PySem.W.Frag) where
  ok : Hp → Addr → List V → Prop
  ob : Addr → Obj
  it : Heap → Addr → Addr → Nat → Prop
  raw : Heap → Addr → Array Value → Prop
  bg : ∀ (a : Addr) (its : Array Value), Begins (.ref a) (ob a) fun h => raw h a its
  dr : ∀ {P : Program} {w : World} {A : Around}, A.handled = none → ∀ (i a : Addr), a ≠ i → ∀ its : Array Value, Draws P w A i [i, a] its.size (fun j v => its[j]? = some v) (fun j h => it h i a j ∧ raw h a its)
  go : ∀ {X : Cx} {pins : List (Addr × Obj)} {σ : St} {H : Hp} {s : Shared} {a : Addr} {xs : List V}, X.K = K → Inv X pins σ H s → ok H a xs → ∃ its : List Value, Vals xs its ∧ raw s.heap a its.toArray
  one : ∀ {X : Cx} {pins : List (Addr × Obj)} {σ : St} {H : Hp} {s : Shared} {a : Addr} {xs ys : List V}, X.K = K → Inv X pins σ H s → ok H a xs → ok H a ys → xs = ys
  st : ∀ {h : Heap} {i a : Addr}, h.get? i = some (ob a) → it h i a 0
  at' : ∀ {h h' : Heap} {i a : Addr} {j : Nat}, it h i a j → (∀ o, h.get? i = some o → h'.get? i = some o) → it h' i a j
  lt : ∀ {h : Heap} {a : Addr} {its : Array Value}, raw h a its → a < h.objs.size
  nc : ∀ {h : Heap} {i a : Addr} {j : Nat}, it h i a j → ∃ o, h.get? i = some o ∧ ∀ v, o.data ≠ .cell v
def sqL (K : PySem.W.Frag) : SqK K where
  ok := SqL K
  ob := fun a => { cls := .type "list_iterator", data := .fields #[.ref a, .int 0 0] }
  it := fun h i a j => h.IsListIter i a j
  raw := fun h a its => h.IsList a its
  bg := begins_list
  dr := fun hh i a ne its => Draws.list hh i a ne its
  go := fun hK I q => by subst hK; obtain ⟨its, r, p, _⟩ := I.list q; exact ⟨its, r, p.isList⟩
  one := fun hK I q q' => by subst hK; exact I.list_inj q q'
  st := fun e => ⟨_, e, rfl, rfl⟩
  at' := fun q k => q.at k
  lt := fun ⟨_, e, _⟩ => Heap.lt_size e
  nc := fun ⟨o, e, _, d⟩ => ⟨o, e, fun v q => by rw [d] at q; cases q⟩
def sqT (K : PySem.W.Frag) : SqK K where
  ok := SqT K
  ob := fun a => { cls := .type "tuple_iterator", data := .fields #[.ref a, .int 0 0] }
  it := fun h i a j => h.IsTupleIter i a j
  raw := fun h a its => h.IsTuple a its
  bg := begins_tuple
  dr := fun hh i a ne its => Draws.tuple hh i a ne its
  go := fun hK I q => by subst hK; obtain ⟨its, r, p, _⟩ := I.tuple q; exact ⟨its, r, p⟩
  one := fun hK I q q' => by subst hK; exact I.tuple_inj q q'
  st := fun e => ⟨_, e, rfl, rfl⟩
  at' := fun q k => q.at k
  lt := fun ⟨_, e, _⟩ => Heap.lt_size e
  nc := fun ⟨o, e, _, d⟩ => ⟨o, e, fun v q => by rw [d] at q; cases q⟩
def ItzM {K : PySem.W.Frag} (S1 S2 : SqK K) (a b : Addr) : It where
  go := fun i H => ∃ (xs ys : List V) (x y : V), S1.ok H a xs ∧ S2.ok H b ys ∧ xs[i]? = some x ∧ ys[i]? = some y
  yld := fun i H v H' => ∃ T x y, v = .ref T ∧ H T = none ∧ H' = upd H T (.tup [x, y]) ∧ (∀ xs, S1.ok H a xs → xs[i]? = some x) ∧ ∀ ys, S2.ok H b ys → ys[i]? = some y
  stop := fun i H => ∃ xs ys : List V, S1.ok H a xs ∧ S2.ok H b ys ∧ i ≤ xs.length ∧ i ≤ ys.length ∧ (i = xs.length ∨ i = ys.length)
theorem zipSep {z TI TO i1 i2 a b : Addr} (D : ZipApart z TI TO i1 i2 a b) (e1 : b ≠ z) (e2 : b ≠ TO) (e3 : b ≠ i1) : ZipSep2 z TI TO i1 i2 [i1, a] [i2, b] where
  TIz := D.TIz
  TOz := D.TOz
  TITO := D.TITO
  TIi1 := D.TIi1
  mem1 := by simp
  zf1 := by simp only [List.mem_cons, List.not_mem_nil, or_false, not_or]; exact ⟨D.i1z.symm, D.l1z.symm⟩
  Tf1 := by simp only [List.mem_cons, List.not_mem_nil, or_false, not_or]; exact ⟨D.TOi1, D.l1TO.symm⟩
  TIi2 := D.TIi2
  mem2 := by simp
  zf2 := by simp only [List.mem_cons, List.not_mem_nil, or_false, not_or]; exact ⟨D.i2z.symm, e1.symm⟩
  Tf2 := by simp only [List.mem_cons, List.not_mem_nil, or_false, not_or]; exact ⟨D.TOi2, e2.symm⟩
  sep1_2 := by simp only [List.mem_cons, List.not_mem_nil, or_false, not_or]; exact ⟨D.i12, e3.symm⟩
  sep2_1 := by simp only [List.mem_cons, List.not_mem_nil, or_false, not_or]; exact ⟨D.i12.symm, D.l1i2.symm⟩
theorem turn_zipM {P : Program} {w : World} {K : PySem.W.Frag} (S1 S2 : SqK K) {elts : List Expr} {kk : Nat} {tpos : Pos} {a b z TI TO i1 i2 : Addr} (D : ZipApart z TI TO i1 i2 a b) (e1 : b ≠ z) (e2 : b ≠ TO) (e3 : b ≠ i1) (e4 : b ≠ i2) :
    Turn P w K (.Tuple elts kk tpos) (ItzM S1 S2 a b) [z, TI, TO, i1, i2] z (fun i h => IsZip h z TI TO .none ∧ IsPair h TI (.ref i1) (.ref i2) ∧ (∃ x y, IsPair h TO x y) ∧ S1.it h i1 a i ∧ S2.it h i2 b i) where
  mem := by simp
  obj := fun i h q c hc => by
    obtain ⟨q1, q2, ⟨x, y, q3⟩, q4, q5⟩ := q
    simp only [List.mem_cons, List.not_mem_nil, or_false] at hc
    rcases hc with e | e | e | e | e
    · rw [e]; exact ⟨_, q1, fun v r => nomatch r⟩
    · rw [e]; exact ⟨_, q2, fun v r => nomatch r⟩
    · rw [e]; exact ⟨_, q3, fun v r => nomatch r⟩
    · rw [e]; exact S1.nc q4
    · rw [e]; exact S2.nc q5
  keep := fun i h h' q k => by
    obtain ⟨q1, q2, ⟨x, y, q3⟩, q4, q5⟩ := q
    exact ⟨k z (by simp) _ q1, k TI (by simp) _ q2, ⟨x, y, k TO (by simp) _ q3⟩, S1.at' q4 fun o q => k i1 (by simp) o q, S2.at' q5 fun o q => k i2 (by simp) o q⟩
  item := by
    intro X hP hw hK hc i pins s σ H E I hf q hg
    subst hP hw
    obtain ⟨q1, q2, ⟨x0, y0, q3⟩, q4, q5⟩ := q
    obtain ⟨xs, ys, x, y, hx, hy, ex, ey⟩ := hg
    obtain ⟨us, ru, pu⟩ := S1.go hK I hx
    obtain ⟨vs, rv, pv⟩ := S2.go hK I hy
    obtain ⟨u, eu, wu⟩ := ru.get ex
    obtain ⟨v, ev, wv⟩ := rv.get ey
    have hh : X.A.in1.handled = none := I.ok.hd hc
    have l1 : i < us.toArray.size := by rw [List.size_toArray]; exact (List.getElem?_eq_some_iff.mp eu).1
    have l2 : i < vs.toArray.size := by rw [List.size_toArray]; exact (List.getElem?_eq_some_iff.mp ev).1
    have zl : z < s.heap.objs.size := Heap.lt_size q1
    refine wpAny_pyNext_zipD2_item (zipSep D e1 e2 e3) (S1.dr hh i1 a D.l1i1 us.toArray) (S2.dr hh i2 b e4 vs.toArray) q1 q2 q3 ⟨q4, pu⟩ ⟨q5, pv⟩ l1 l2 fun u' v' h' tk hu hv z' TO' st1 st2 hT hsz hk => ?_
    have eu' : u' = u := by
      have : us[i]? = some u' := by simpa using hu
      rw [eu] at this; exact (Option.some.inj this).symm
    have ev' : v' = v := by
      have : vs[i]? = some v' := by simpa using hv
      rw [ev] at this; exact (Option.some.inj this).symm
    subst eu' ev'
    refine ⟨_, rfl, wpAny_letOwnedTupleGo_zip (s := { s with heap := h', toks := tk }) z' fun h2 z2 sb => ?_⟩
    have hT2 : h2.get? s.heap.objs.size = some { cls := .type "tuple", data := .seq #[u', v'] } := (sb.2 _ (Nat.ne_of_gt zl)).trans hT
    have new : ObjOk X.prog X.w (upd H s.heap.objs.size (.tup [x, y])) h2 s.heap.objs.size (.tup [x, y]) :=
      ⟨by show 2 ≤ sizeLine; decide, [u', v'], .cons wu (.cons wv .nil), ⟨_, hT2, rfl, _, rfl⟩⟩
    have I1 : Inv X pins σ (upd H s.heap.objs.size (.tup [x, y])) { s with heap := h2, toks := tk } :=
      I.turnedNew (ch := [z, TI, TO, i1, i2]) (fun c o hb q => (sb.2 c fun q' => hb (by simp [q'])).trans (hk c o (fun q' => hb (by simp [q'])) (fun q' => hb (by simp [q'])) (fun q' => hb (by simp [q'])) (fun q' => hb (by simp [q'])) q)) hf (Nat.le_refl _) new
    refine ⟨.ref s.heap.objs.size, _, I1, rfl, ⟨_, x, y, rfl, I.hok.fresh (Nat.le_refl _), rfl, fun l hl => by rw [S1.one hK I hl hx]; exact ex, fun l hl => by rw [S2.one hK I hl hy]; exact ey⟩, ⟨z2, ?_, ⟨u', v', ?_⟩, ?_, ?_⟩, fun c hcm => ?_⟩
    · exact (sb.2 _ D.TIz).trans (hk _ _ D.TIz D.TITO D.TIi1 D.TIi2 q2)
    · exact (sb.2 _ D.TOz).trans TO'
    · exact S1.at' st1.1 fun o q => (sb.2 _ D.i1z).trans q
    · exact S2.at' st2.1 fun o q => (sb.2 _ D.i2z).trans q
    · have hlt : c < s.heap.objs.size := by
        simp only [List.mem_cons, List.not_mem_nil, or_false] at hcm
        rcases hcm with e | e | e | e | e
        · rw [e]; exact zl
        · rw [e]; exact Heap.lt_size q2
        · rw [e]; exact Heap.lt_size q3
        · rw [e]; obtain ⟨_, g, _⟩ := S1.nc q4; exact Heap.lt_size g
        · rw [e]; obtain ⟨_, g, _⟩ := S2.nc q5; exact Heap.lt_size g
      rw [upd_ne (Nat.ne_of_lt hlt)]
      exact (hf c hcm).1
  done := by
    intro X hP hw hK hc i pins s σ H E I hf q hg
    subst hP hw
    obtain ⟨q1, q2, ⟨x0, y0, q3⟩, q4, q5⟩ := q
    obtain ⟨xs, ys, hx, hy, n1, n2, hend⟩ := hg
    obtain ⟨us, ru, pu⟩ := S1.go hK I hx
    obtain ⟨vs, rv, pv⟩ := S2.go hK I hy
    have l1 := ru.length
    have l2 := rv.length
    have hh : X.A.in1.handled = none := I.ok.hd hc
    exact wpAny_pyNext_zipD2_end (zipSep D e1 e2 e3) (S1.dr hh i1 a D.l1i1 us.toArray) (S2.dr hh i2 b e4 vs.toArray) q1 q2 q3 ⟨q4, pu⟩ ⟨q5, pv⟩ (by rw [List.size_toArray]; omega) (by rw [List.size_toArray]; omega) (by rw [List.size_toArray, List.size_toArray]; omega) fun h' tk hk => ⟨rfl, I.turnedL (t' := tk) (ch := [z, TI, TO, i1, i2]) (fun c o hb q =>
      hk c o (fun q' => hb (by simp [q'])) (fun q' => hb (by simp [q'])) (fun q' => hb (by simp [q'])) (fun q' => hb (by simp [q'])) q) hf⟩
  self := fun A i s Q E st h => wpAny_pyIter_zip st.1 h
def iZipM {K : PySem.W.Frag} (S1 S2 : SqK K) (ta : TA) : TI := fun σ H R => ta σ H fun vs H1 => ∃ a b xs ys, vs = [.ref a, .ref b] ∧ S1.ok H1 a xs ∧ S2.ok H1 b ys ∧ R (ItzM S1 S2 a b) H1
theorem pi_zipM {X : Cx} (S1 S2 : SqK X.K) {e e2 : Expr} {ta : TA} {p pos tpos : Pos} {elts : List Expr} {kk : Nat} (hg : Gl X "zip") (hm : X.mg "zip" = none) (ha : PA X [e, e2] ta)
    (hs : starEach [e, e2] X.env = (false, eval e X.env) :: starEach [e2] X.env := by rfl) (hpl : (backTo pos (starEach [e2] X.env)).any (·.1) = false := by rfl) :
    PI X (.Tuple elts kk tpos) (.Call (.Name "zip" p) [e, e2] [] pos) (iZipM S1 S2 ta) := by
  refine ⟨fun pins s σ H R I h => ?_⟩
  refine Call_ (ld_blt I hg hm PyProof.Rows.boot_zip (PyProof.Rows.callWith_type1 (thn (ha.run pos pins s σ H _ I h) fun us s1 ⟨vs, H1, I1, r1, q1⟩ => ?_) hs hpl))
  obtain ⟨a, b, xs, ys, ex, hqx, hqy, q⟩ := q1
  subst ex
  obtain ⟨u, v, eu, ru, rv⟩ := vals2 r1
  subst eu
  obtain rfl : u = Value.ref a := ru
  obtain rfl : v = Value.ref b := rv
  obtain ⟨us, _, pu⟩ := S1.go rfl I1 hqx
  obtain ⟨ws, _, pv⟩ := S2.go rfl I1 hqy
  have la := S1.lt pu
  have lb := S2.lt pv
  refine zip_begins2 (S1.bg a us.toArray) (S2.bg b ws.toArray) pu pv fun h' hz hTI hTO h1 h2 hsz hk => wpAny_pyIter_zip hz ?_
  have I2 : Inv X pins σ H1 { s1 with heap := h' } := I1.kept (t' := s1.toks) hk
  refine ⟨s1.heap.objs.size + 4, [s1.heap.objs.size + 4, s1.heap.objs.size + 2, s1.heap.objs.size + 3, s1.heap.objs.size, s1.heap.objs.size + 1], _, _, H1, rfl, I2,
    turn_zipM S1 S2 (PySem.W.ktu_apart s1.heap.objs.size a b la lb) (Nat.ne_of_lt (Nat.lt_of_lt_of_le lb (Nat.le_add_right _ _))) (Nat.ne_of_lt (Nat.lt_of_lt_of_le lb (Nat.le_add_right _ _))) (Nat.ne_of_lt lb) (Nat.ne_of_lt (Nat.lt_of_lt_of_le lb (Nat.le_add_right _ _))), ⟨hz, hTI, ⟨_, _, hTO⟩, S1.st h1, S2.st h2⟩, fun c hcm => ?_, q⟩
  have hle : s1.heap.objs.size ≤ c := by
    simp only [List.mem_cons, List.not_mem_nil, or_false] at hcm
    rcases hcm with z | z | z | z | z
    · rw [z]; exact Nat.le_add_right _ _
    · rw [z]; exact Nat.le_add_right _ _
    · rw [z]; exact Nat.le_add_right _ _
    · rw [z]; exact Nat.le_refl _
    · rw [z]; exact Nat.le_add_right _ _
  exact I1.fpOk hle (I1.hok.fresh hle)
/-! ### in the typed layer -/
structure SqR {α : Type} {K : PySem.W.Frag} (S : SqK K) (rs : RT (List α)) (r : RT α) : Prop where
  ok : ∀ H v xs, rs.ok H v xs → ∃ a vs, v = .ref a ∧ (∀ H', Ex H H' → S.ok H' a vs) ∧ Paired (r.ok H) vs xs
theorem sqrL {α : Type} {K : PySem.W.Frag} {r : RT α} : SqR (sqL K) (rL r) r := ⟨fun H v xs ⟨a, vs, e, h, p⟩ => ⟨a, vs, e, fun H' x => sql_of (x _ _ h), p⟩⟩
theorem sqrT {α : Type} {K : PySem.W.Frag} {r : RT α} : SqR (sqT K) (rT r) r := ⟨fun H v xs ⟨a, vs, e, h, p⟩ => ⟨a, vs, e, fun H' x => sqt_of (x _ _ h), p⟩⟩
section
variable {X : Cx} {Γ : List SP} {α β : Type} {a b : Expr} {pos : Pos}
theorem xi_zipM {S1 S2 : SqK X.K} {Ma : Mp (List α)} {Mb : Mp (List β)} {sa : RT (List α)} {sb : RT (List β)} {ra : RT α} {rb : RT β} {p tpos : Pos} {elts : List Expr} {kk : Nat} (R1 : SqR S1 sa ra) (R2 : SqR S2 sb rb) (hm : X.mg "zip" = none) (ha : XP X Γ a Ma sa) (hb : XP X Γ b Mb sb)
    (hg : Gl X "zip" := by rfl) (h1 : starEach [a, b] X.env = (false, eval a X.env) :: starEach [b] X.env := by rfl) (h2 : starEach [b] X.env = (false, eval b X.env) :: starEach [] X.env := by rfl)
    (hpl : (backTo pos (starEach [b] X.env)).any (·.1) = false := by rfl) :
    XI X Γ (.Tuple elts kk tpos) (.Call (.Name "zip" p) [a, b] [] pos) (fun P => Ma fun xs => Mb fun ys => P (xs.zip ys)) (rP ra rb) := by
  obtain ⟨t, pp, q⟩ := ha
  obtain ⟨u, pp2, q2⟩ := hb
  refine ⟨_, pi_zipM S1 S2 hg hm (pa_cons pp (pa_cons pp2 pa_nil h2) h1) h1 hpl, fun σ W k g Q P m h => q σ W k g _ _ m fun xs v W1 m1 k1 s1 g1 r1 => ?_⟩
  refine q2 σ W1 k1 g1 _ _ m1 fun ys v2 W2 m2 k2 s2 g2 r2 => ?_
  obtain ⟨pa', vs, e1, hh1, pr1⟩ := R1.ok _ _ _ (sa.mono s2.hc r1)
  obtain ⟨pb', ws, e2, hh2, pr2⟩ := R2.ok _ _ _ r2
  subst e1 e2
  refine ⟨pa', pb', vs, ws, rfl, hh1 _ k2.ex, hh2 _ k2.ex, h _ _ W2 m2 k2 (s1.trans s2) g2 fun W3 k3 s3 => ?_⟩
  have ex3 : Ex W2.Hc W3.H := fun b o e => k3.ex b o (s3.hc b o e)
  have l1 := hh1 _ ex3
  have l2 := hh2 _ ex3
  have n1 := pr1.length
  have n2 := pr2.length
  have at_ : ∀ i, i < (xs.zip ys).length → ∃ x y x' y', vs[i]? = some x ∧ ws[i]? = some y ∧ (xs.zip ys)[i]? = some (x', y') ∧ ra.ok W2.Hc x x' ∧ rb.ok W2.Hc y y' := fun i hi => by
    rw [List.length_zip] at hi
    obtain ⟨x, x', a1, a2, a3⟩ := paired_get (i := i) pr1 (by omega)
    obtain ⟨y, y', b1, b2, b3⟩ := paired_get (i := i) pr2 (by omega)
    exact ⟨x, y, x', y', a1, b1, by rw [List.getElem?_zip_eq_some]; exact ⟨a2, b2⟩, a3, b3⟩
  refine ⟨fun i hi => ?_, fun i w H' hi y => ?_, ⟨vs, ws, l1, l2, ?_, ?_, ?_⟩⟩
  · obtain ⟨x, y, _, _, c1, c2, _⟩ := at_ i hi
    exact ⟨vs, ws, x, y, l1, l2, c1, c2⟩
  · obtain ⟨x, y', x2, y2, c1, c2, c3, c4, c5⟩ := at_ i hi
    obtain ⟨T, x0, y0, rfl, nT, rfl, d1, d2⟩ := y
    have f1 := (d1 vs l1).symm.trans c1
    have f2 := (d2 ws l2).symm.trans c2
    cases f1
    cases f2
    have gg := grow_add (o := .tup [x, y']) k3 nT
    exact ⟨W3.add T (.tup [x, y']), (x2, y2), c3, rfl, k3.add nT, gg, T, x, y', rfl, upd_same, ra.mono gg.hc (ra.mono s3.hc c4), rb.mono gg.hc (rb.mono s3.hc c5)⟩
  · rw [List.length_zip]; omega
  · rw [List.length_zip]; omega
  · rw [List.length_zip]; omega
end
end TM
set_option Elab.async false
set_option linter.all false
set_option maxRecDepth 100000
/-! One's own dicts that change: keys that are ints, texts or tuples. -/
namespace TM
open PySem PySem.Spec PyProof.Rows L2
/-- a kind of dict: what stands at its address -/
structure DKd (κ : Type) where
  k : RT κ
  ob : Addr → List (κ × V) → Hp → HO → Prop
  up : ∀ {a : Addr} {kvs : List (κ × V)} {H H' : Hp} {o : HO}, Ex H H' → ob a kvs H o → ob a kvs H' o
/-- what may be done with it in a context -/
structure DKo (X : Cx) {κ : Type} [DecidableEq κ] (D : DKd κ) where
  rin : R2
  rnin : R2
  rget : R2
  rset : V → V → V → Hp → (Hp → Prop) → Prop
  hin : OpR X (compareOp .In) rin
  hnin : OpR X (compareOp .NotIn) rnin
  hget : IxR X rget
  hset : ∀ {o i value : Expr} {pos pos' : Pos} {td ty tv : TE}, PE X o td → PE X i ty → PE X value tv → swapsWith value (some (.Subscript o i pos')) pos.line X.env = pure false →
    PS X (.Assign [.Subscript o i pos'] value pos) (fun E σ H => tv σ H fun v H1 => td σ H1 fun x H2 => ty σ H2 fun y H3 => rset x y v H3 fun H4 => E.nx σ H4)
  hnew : ∀ {pos : Pos}, ∃ t, PE X (.Dict [] [] pos) t ∧ ∀ σ H Q, (∀ p o, H p = none → (∀ H', D.ob p [] H' o) → Q (.ref p) (upd H p o)) → t σ H Q
  in_ : ∀ {W : Wd} {a : Addr} {kvs : List (κ × V)} {o : HO} {u : V} {x : κ} {Q : VK}, W.Ok → W.H a = some o → D.ob a kvs W.Hc o → D.k.ok W.Hc u x → Q (.bl (lookA kvs x).isSome) W.H → rin u (.ref a) W.H Q
  nin_ : ∀ {W : Wd} {a : Addr} {kvs : List (κ × V)} {o : HO} {u : V} {x : κ} {Q : VK}, W.Ok → W.H a = some o → D.ob a kvs W.Hc o → D.k.ok W.Hc u x → Q (.bl (!(lookA kvs x).isSome)) W.H → rnin u (.ref a) W.H Q
  get_ : ∀ {W : Wd} {a : Addr} {kvs : List (κ × V)} {o : HO} {u v : V} {x : κ} {Q : VK}, W.Ok → W.H a = some o → D.ob a kvs W.Hc o → D.k.ok W.Hc u x → lookA kvs x = some v → Q v W.H → rget (.ref a) u W.H Q
  set_ : ∀ {W : Wd} {a : Addr} {kvs : List (κ × V)} {o : HO} {u v : V} {x : κ} {Q : Hp → Prop}, W.Ok → W.H a = some o → D.ob a kvs W.Hc o → D.k.ok W.Hc u x → kvs.length < sizeLine → (∀ o', D.ob a (putA kvs x v) W.Hc o' → Q (upd W.H a o')) → rset (.ref a) u v W.H Q
section
variable {κ β : Type}
abbrev DRel (r : RT β) (H : Hp) : κ × V → κ × β → Prop := fun p q => p.1 = q.1 ∧ r.ok H p.2 q.2
/-- one's own dict -/
def gDic (D : DKd κ) (r : RT β) (d : List (κ × β)) : GS where
  ok := fun i o W => ∃ a ob kvs, o = some (.ref a) ∧ W.B a = none ∧ W.O a = some i ∧ W.H a = some ob ∧ D.ob a kvs W.Hc ob ∧ Paired (DRel r W.Hc) kvs d
  st := fun ⟨a, ob, kvs, e, b, o, h, q, p⟩ kp => ⟨a, ob, kvs, e, by rw [kp.B]; exact b, (kp.own a o).1, by rw [(kp.own a o).2]; exact h, D.up kp.hc q, pmap p fun _ _ ⟨x, y⟩ => ⟨x, r.mono kp.hc y⟩⟩
theorem drel_look [DecidableEq κ] {r : RT β} {H : Hp} {kvs : List (κ × V)} {d : List (κ × β)} (h : Paired (DRel r H) kvs d) (x : κ) : (lookA kvs x).isSome = (lookA d x).isSome := look_some (F := r.ok H) h x
theorem drel_get [DecidableEq κ] {r : RT β} {H : Hp} {kvs : List (κ × V)} {d : List (κ × β)} (h : Paired (DRel r H) kvs d) {x : κ} {y : β} (e : lookA d x = some y) : ∃ v, lookA kvs x = some v ∧ r.ok H v y := by
  have q := look_pair (F := r.ok H) h x
  rw [e] at q
  cases z : lookA kvs x with
  | none => rw [z] at q; exact q.elim
  | some v => rw [z] at q; exact ⟨v, rfl, q⟩
theorem drel_put [DecidableEq κ] {r : RT β} {H : Hp} {kvs : List (κ × V)} {d : List (κ × β)} (h : Paired (DRel r H) kvs d) {x : κ} {v : V} {y : β} (rv : r.ok H v y) : Paired (DRel r H) (putA kvs x v) (putA d x y) := by
  unfold putA
  rw [drel_look h x]
  by_cases q : (lookA d x).isSome = true
  · rw [if_pos q, if_pos q]
    clear q
    induction h with
    | nil => exact .nil
    | @cons p z ps zs e t ih =>
      rw [List.map_cons, List.map_cons]
      refine .cons ?_ ih
      by_cases w : z.1 = x
      · rw [if_pos (e.1.trans w), if_pos w]; exact ⟨e.1, rv⟩
      · rw [if_neg fun u => w (e.1.symm.trans u), if_neg w]; exact e
  · rw [if_neg q, if_neg q]; exact Paired.snoc h ⟨rfl, rv⟩
end
/-! ### keys that are ints or texts -/
structure KF (κ : Type) where
  r : RT κ
  enc : κ → Key
  inj : ∀ x y, enc x = enc y → x = y
  ok : ∀ H v x, r.ok H v x → v = kV (enc x)
def kfInt : KF Int := ⟨rInt, .inl, fun x y e => by injection e, fun _ _ _ h => h⟩
def kfStr : KF Str := ⟨rStr, .inr, fun x y e => by injection e, fun _ _ _ h => h⟩
section
variable {κ : Type} [DecidableEq κ]
def encF (F : KF κ) (kvs : List (κ × V)) : List (Key × V) := kvs.map fun p => (F.enc p.1, p.2)
def dkF (F : KF κ) : DKd κ := ⟨F.r, fun _ kvs _ o => o = .dK (encF F kvs), fun _ h => h⟩
theorem encF_look (F : KF κ) (x : κ) : ∀ kvs : List (κ × V), valV (encF F kvs) (F.enc x) = lookA kvs x
  | [] => rfl
  | p :: kvs => by
    rw [lookA_cons]
    show valV ((F.enc p.1, p.2) :: encF F kvs) (F.enc x) = _
    by_cases e : p.1 = x
    · rw [if_pos e]; exact valV_pos (p := (F.enc p.1, p.2)) (by rw [e])
    · rw [if_neg e, valV_neg (p := (F.enc p.1, p.2)) (fun z => e (F.inj _ _ z))]; exact encF_look F x kvs
theorem encF_put (F : KF κ) (x : κ) (v : V) (kvs : List (κ × V)) : putK (encF F kvs) (F.enc x) v = encF F (putA kvs x v) := by
  unfold putK putA
  rw [valV_any, encF_look]
  by_cases q : (lookA kvs x).isSome = true
  · rw [if_pos q, if_pos q]
    unfold encF
    rw [List.map_map, List.map_map]
    apply List.map_congr_left
    intro p _
    show (if F.enc p.1 = F.enc x then (F.enc p.1, v) else (F.enc p.1, p.2)) = _
    by_cases e : p.1 = x
    · rw [if_pos (by rw [e])]; simp [e]
    · rw [if_neg fun z => e (F.inj _ _ z)]; simp [e]
  · rw [if_neg q, if_neg q]
    unfold encF; simp
def rInK : R2 := fun y x H Q => ∃ a o, x = .ref a ∧ DGet H a y o ∧ Q (.bl o.isSome) H
def rNotInK : R2 := fun y x H Q => ∃ a o, x = .ref a ∧ DGet H a y o ∧ Q (.bl (!o.isSome)) H
def rGetK : R2 := fun x y H Q => ∃ a v, x = .ref a ∧ DGet H a y (some v) ∧ Q v H
def rSetK : V → V → V → Hp → (Hp → Prop) → Prop := fun x y v H Q => ∃ a H4, x = .ref a ∧ DPut H a y v H4 ∧ Q H4
theorem op_inK {X : Cx} (hu : X.A.units + 64 < cLine) : OpR X (compareOp .In) rInK := by
  intro pins s σ H y x u v Q I ry rx ⟨a, o, e, g, q⟩
  subst e
  obtain rfl : v = Value.ref a := rx
  exact d_in (by omega) I g ry fun s' I' => ⟨.bl _, H, I', rfl, q⟩
theorem op_notInK {X : Cx} (hu : X.A.units + 64 < cLine) : OpR X (compareOp .NotIn) rNotInK := by
  intro pins s σ H y x u v Q I ry rx ⟨a, o, e, g, q⟩
  subst e
  obtain rfl : v = Value.ref a := rx
  exact d_notIn (by omega) I g ry fun s' I' => ⟨.bl _, H, I', rfl, q⟩
theorem ix_getK {X : Cx} (hu : X.A.units + 64 < cLine) : IxR X rGetK := by
  intro value slice pins s σ H x y v u Q I rx ry ⟨a, z, e, g, q⟩ hs
  subst e
  obtain rfl : v = Value.ref a := rx
  unfold subscriptTail
  refine wpAny_bind ?_
  have hT := dict_typeIs I g
  rw [getitemInPython_of_ne hT.not_modules]
  refine wpAny_bind (wpAny_specialOf hT PySem.F.slot_dict_getitem.lookup ?_)
  have body : wpAny (model X.prog X.w) X.A (subscripted slice false (.ref a) u) (fun r s₃ => wpAny (model X.prog X.w) X.A (letTemporaryGo value (.ref a) r >>= fun _ => pure r) (EP X pins σ Q) X.xe s₃) X.xe s := by
    rw [hs]
    exact wpAny_operating (d_getItem (by omega) I g ry fun w' s' I' rw' => wpAny_bind (wpAny_letTemporaryGo (wpAny_pure ⟨z, H, I', rw', q⟩)))
  exact wpAny_pure (wpAny_bind body)
/-- dicts with int or text keys -/
def dkoF {X : Cx} (F : KF κ) (hu : X.A.units + 64 < cLine) : DKo X (dkF F) where
  rin := rInK
  rnin := rNotInK
  rget := rGetK
  rset := rSetK
  hin := op_inK hu
  hnin := op_notInK hu
  hget := ix_getK hu
  hset := fun ho hi hv hs => ⟨fun pins s σ H D I h => (ps_dput (by omega) ho hi hv hs).run pins s σ H D I h⟩
  hnew := ⟨_, pe_dnewK, fun σ H Q h p np => h p (.dK []) np fun _ => rfl⟩
  in_ := fun {W a kvs o u x Q} _ h e k q => by
    rw [F.ok _ _ _ k]
    rw [show o = .dK (encF F kvs) from e] at h
    exact ⟨a, _, rfl, DGet.k h, by rw [encF_look]; exact q⟩
  nin_ := fun {W a kvs o u x Q} _ h e k q => by
    rw [F.ok _ _ _ k]
    rw [show o = .dK (encF F kvs) from e] at h
    exact ⟨a, _, rfl, DGet.k h, by rw [encF_look]; exact q⟩
  get_ := fun {W a kvs o u v x Q} _ h e k l q => by
    rw [F.ok _ _ _ k]
    rw [show o = .dK (encF F kvs) from e] at h
    refine ⟨a, v, rfl, ?_, q⟩
    rw [← l, ← encF_look F]; exact DGet.k h
  set_ := fun {W a kvs o u v x Q} _ h e k l q => by
    rw [F.ok _ _ _ k]
    rw [show o = .dK (encF F kvs) from e] at h
    refine ⟨a, _, rfl, DPut.k h (by unfold encF; rw [List.length_map]; exact l), ?_⟩
    rw [encF_put]; exact q _ rfl
end
end TM
set_option Elab.async false
set_option linter.all false
set_option maxRecDepth 100000
/-! One's own dicts in the text: made, asked, read, written. -/
namespace TM
open PySem PySem.Spec PyProof.Rows L2
/-! ### keys that are tuples -/
section
variable {κ : Type} [DecidableEq κ]
def dkN (P : Program) (w : World) (k : KN κ) : DKd κ where
  k := k.r
  ob := fun a kvs H o => ∃ ks, o = nD P w a ks ∧ Paired (NRel k ⟨fun _ v u => v = u, fun _ h => h⟩ H) ks kvs
  up := fun e ⟨ks, h1, h2⟩ => ⟨ks, h1, NRel.up e h2⟩
def rSetN (P : Program) (w : World) : V → V → V → Hp → (Hp → Prop) → Prop := fun x y v H Q => ∃ a b k ks, x = .ref a ∧ y = .ref b ∧ H a = some (nD P w a ks) ∧ NKey P w H k b ∧ (∀ p ∈ ks, NKey P w H p.1 p.2.1) ∧ ks.length < sizeLine ∧ Q (upd H a (nD P w a (putN ks k b v)))
theorem ps_nput {X : Cx} {o i value : Expr} {pos pos' : Pos} {td ty tv : TE} (hu : X.A.units + 64 < cLine) (ho : PE X o td) (hi : PE X i ty) (hv : PE X value tv) (hs : swapsWith value (some (.Subscript o i pos')) pos.line X.env = pure false) :
    PS X (.Assign [.Subscript o i pos'] value pos) (fun E σ H => tv σ H fun v H1 => td σ H1 fun x H2 => ty σ H2 fun y H3 => rSetN X.prog X.w x y v H3 fun H4 => E.nx σ H4) := by
  refine ⟨fun pins s σ H D I h => ?_⟩
  refine wpAny_Assign_Subscript (thn (hv.run pins s σ H _ I h) fun r s1 ⟨v, H1, I1, rv, q1⟩ => thn (ho.run pins s1 σ H1 _ I1 q1) fun u s2 ⟨x, H2, I2, rx, q2⟩ => thn (hi.run pins s2 σ H2 _ I2 q2) fun iv s3 ⟨y, H3, I3, ry, a, b, k, ks, e1, e2, hd, hk, hks, hl, q3⟩ => ?_) hs
  subst e1 e2
  obtain rfl : u = Value.ref a := rx
  obtain rfl : iv = Value.ref b := ry
  have raw := nd_at I3.hok hd
  obtain ⟨xs, pr, dd⟩ := nd_dict raw I3.hok hks
  have hz : xs.length ≤ sizeLine := by rw [← pr.length]; omega
  have hle : (putN ks k b v).length ≤ sizeLine := by have := length_putN ks k b v; omega
  refine wpAny_setItem_heap (knd := nestedKind X.prog X.w) (hsz := hz) (show X.A.units + 1 + 8 < cLine by omega) (hk _ I3.hok) dd fun h' dd' sb => ?_
  obtain ⟨ob, es, ep, g1, g2, g3, g4, _, g5⟩ := dd'
  have J := d_write (t' := s3.toks + (nestedKind X.prog X.w).draws k) I3 (by rw [hd]; exact True.intro) sb ⟨ob, g1⟩ (nd_ok (H := upd H3 a (nD X.prog X.w a (putN ks k b v))) ⟨hle, raw.2.1, _, paired_put pr rv, ob, es, ep, g1, g2, g3, g4, g5⟩)
  exact ⟨σ, _, J, q3⟩
theorem pe_dnewN {X : Cx} {pos : Pos} : PE X (.Dict [] [] pos) (fun _ H Q => ∀ p, H p = none → Q (.ref p) (upd H p (nD X.prog X.w p []))) := by
  refine ⟨fun pins s σ H Q I h => wpAny_Dict_empty ?_⟩
  have hf := h s.heap.objs.size (I.hok.fresh (Nat.le_refl _))
  have no : ObjOk X.prog X.w (upd H s.heap.objs.size (nD X.prog X.w s.heap.objs.size [])) (s.heap.push { cls := .type "dict", data := .dict #[] }) s.heap.objs.size (nD X.prog X.w s.heap.objs.size []) :=
    nd_ok ⟨Nat.zero_le _, beq_eq_false_iff_ne.mpr (Ne.symm (Nat.ne_of_lt I.big)), [], .nil, _, #[], 0, Heap.get?_push_size _ rfl, ⟨rfl, rfl, rfl⟩, rfl, rfl, List.nodup_nil⟩
  exact ⟨.ref s.heap.objs.size, _, I.laid (t' := s.toks) (fun _ _ q => Heap.get?_push_of_some _ q) (Nat.le_refl _) no, rfl, hf⟩
def dkoN {X : Cx} (k : KN κ) (hd : k.d ≤ 8) (hR : IsR k) (hu : X.A.units + 64 < cLine) : DKo X (dkN X.prog X.w k) where
  rin := rInN X.prog X.w
  rnin := rNotInN X.prog X.w
  rget := rGetN X.prog X.w
  rset := rSetN X.prog X.w
  hin := op_inN hu
  hnin := op_notInN hu
  hget := ix_getN hu
  hset := fun ho hi hv hs => ps_nput hu ho hi hv hs
  hnew := ⟨_, pe_dnewN, fun σ H Q h p np => h p _ np fun _ => ⟨[], rfl, .nil⟩⟩
  in_ := fun {W a kvs o u x Q} ok h ⟨ks, e, pr⟩ kx q => by
    subst e
    obtain ⟨b, rfl⟩ := hR _ _ _ kx
    exact ⟨a, b, k.enc x, ks, rfl, rfl, h, nkey_of ok hd kx, nrel_keys ok hd pr, by rw [nrel_some pr x]; exact q⟩
  nin_ := fun {W a kvs o u x Q} ok h ⟨ks, e, pr⟩ kx q => by
    subst e
    obtain ⟨b, rfl⟩ := hR _ _ _ kx
    exact ⟨a, b, k.enc x, ks, rfl, rfl, h, nkey_of ok hd kx, nrel_keys ok hd pr, by rw [nrel_some pr x]; exact q⟩
  get_ := fun {W a kvs o u v x Q} ok h ⟨ks, e, pr⟩ kx l q => by
    subst e
    obtain ⟨b, rfl⟩ := hR _ _ _ kx
    have g := nrel_look pr x
    rw [l] at g
    cases z : lookA ks (k.enc x) with
    | none => rw [z] at g; exact g.elim
    | some y =>
      rw [z] at g
      refine ⟨a, b, k.enc x, ks, y.1, y.2, rfl, rfl, h, nkey_of ok hd kx, nrel_keys ok hd pr, z, ?_⟩
      rw [show y.2 = v from g.2]; exact q
  set_ := fun {W a kvs o u v x Q} ok h ⟨ks, e, pr⟩ kx l q => by
    subst e
    obtain ⟨b, rfl⟩ := hR _ _ _ kx
    exact ⟨a, b, k.enc x, ks, rfl, rfl, h, nkey_of ok hd kx, nrel_keys ok hd pr, by rw [pr.length]; exact l, q _ ⟨_, rfl, nrel_put pr kx rfl⟩⟩
end
/-! ### the text -/
section
variable {X : Cx} {Γ Δ : List SP} {α β γ δ τ S S' B R κ : Type} [DecidableEq κ] {e a b c tg iter elt : Expr} {es : List Expr} {pos p2 : Pos} {x : Str} {Γb : B → List SP} {RR : R → V → Wd → Prop} {D : DKd κ} {r : RT β} {d : List (κ × β)}
/-- x = {} -/
theorem xt_dnew (DO : DKo X D) (r : RT β) (i : Nat) {p' : Pos} (hl : i < Γ.length) (hnd : X.N.Nodup) (hN : X.N[i]? = some x := by rfl) (hx : Loc X.env.scope x := by first | exact .inl rfl | exact .inr rfl) (hs : swapsWith (.Dict [] [] p2) (some (.Name x p')) pos.line X.env = pure false := by rfl) (hf : X.fn x = true ∨ X.env.scope.names.lookup x = some .local := by first | exact .inl rfl | exact .inr rfl) :
    XSt X Γ (.Assign [.Name x p'] (.Dict [] [] p2) pos) (fun κ' : Kn (List (κ × β)) B R => κ'.nx []) (fun d => Γ.set i (.gen (gDic D r d))) Γb RR := by
  obtain ⟨t, p, q⟩ := DO.hnew (pos := p2)
  refine ⟨_, ps_set hnd hN hx p hs hf, fun σ W k g κ' D' m h1 _ _ _ => ?_⟩
  refine q σ W.H _ fun u o nu ho => ?_
  have nc := k.none_of nu
  have no := k.free nu
  have nb : W.B u = none := by
    cases z : W.B u with
    | none => rfl
    | some y => exact absurd nu (k.bas u (by rw [z]; simp)).1
  have uH : ∀ c w, W.H c = some w → upd W.H u o c = some w := fun c w z => by rw [upd_ne (ne_of_none z nu)]; exact z
  refine h1 [] _ ⟨W.Hc, upd W.H u o, fun c => if c = u then some i else W.O c, W.B⟩ m ⟨fun c w z => uH c w (k.ex c w z), fun c j z => ?_, k.basTo (fun c z => upd_dom z) (fun c w _ _ z => uH c w z) fun c z n => ?_⟩ ⟨fun c w z _ => uH c w z, fun c z => upd_dom z, fun _ _ z => z, fun c z n => ⟨rfl, ?_⟩, rfl⟩ (SatL.set g (fun j o' nj ej z => ?_) ⟨u, o, [], rfl, nb, ?_, upd_same, ho _, .nil⟩)
  · have z : (if c = u then some i else W.O c) = some j := z
    show W.Hc c = none ∧ upd W.H u o c ≠ none
    by_cases w : c = u
    · rw [w, upd_same]; exact ⟨nc, by simp⟩
    · rw [if_neg w] at z
      exact ⟨(k.own c j z).1, upd_dom (k.own c j z).2⟩
  · have n : (if c = u then some i else W.O c) = none := n
    by_cases w : c = u
    · rw [if_pos w] at n; cases n
    · rw [if_neg w] at n; exact n
  · show (if c = u then some i else W.O c) = none
    rw [if_neg fun w => z (by rw [w]; exact nu)]; exact n
  · refine z.kp ⟨fun _ _ e => e, fun c w => ⟨?_, ?_⟩, rfl, fun c w n => ?_⟩
    · show (if c = u then some i else W.O c) = _
      rw [if_neg fun y => by rw [y, no] at w; cases w]; exact w
    · show upd W.H u o c = W.H c
      exact upd_ne fun y => by rw [y, no] at w; cases w
    · show (if c = u then some i else W.O c) = none
      rw [if_neg fun y => w (by rw [y]; exact nb)]; exact n
  · show (if u = u then some i else W.O u) = some (0 + i)
    rw [if_pos rfl, Nat.zero_add]
/-- the dict in a slot -/
theorem dic_look {σ : St} {W : Wd} {i : Nat} (g : Sat Γ σ W) (h : look Γ i = .gen (gDic D r d)) : ∃ a ob kvs, σ[i]? = some (some (.ref a)) ∧ W.B a = none ∧ W.O a = some i ∧ W.H a = some ob ∧ D.ob a kvs W.Hc ob ∧ Paired (DRel r W.Hc) kvs d := by
  obtain ⟨o, eo, a, ob, kvs, e, q⟩ := g.look h (by simp)
  rw [e] at eo
  exact ⟨a, ob, kvs, eo, q⟩
theorem xp_dget (DO : DKo X D) (i : Nat) (h : look Γ i = .gen (gDic D r d)) {M : Mp κ} (hb : XP X Γ b M D.k) (hN : X.N[i]? = some x := by rfl) (hv : Vis X.env.scope x := by first | exact Or.inl rfl | exact Or.inr (Or.inl rfl) | exact Or.inr (Or.inr rfl)) (hd : (x == ("__debug__" : Str)) = false := by decide) (hcd : (x == ("__classdict__" : Str)) = false := by decide) (hs : PlainIx b := by exact fun _ _ => rfl) :
    XP X Γ (.Subscript (.Name x p2) b pos) (fun P => M fun k => ∃ y, lookA d k = some y ∧ P y) r := by
  obtain ⟨t, p, q⟩ := hb
  refine ⟨_, pe_ix DO.hget (pe_var hN hv hd hcd) p hs, fun σ W k g Q P m hh => ?_⟩
  obtain ⟨a, _, _, eo, _⟩ := dic_look g h
  refine ⟨.ref a, eo, ?_⟩
  refine q σ W k g _ _ m fun z v W1 ⟨y, m1, m2⟩ k1 s1 g1 r1 => ?_
  obtain ⟨a', ob, kvs, eo', _, _, hh1, hob, pr⟩ := dic_look g1 h
  rw [eo] at eo'
  cases eo'
  obtain ⟨w, l, rw'⟩ := drel_get pr m1
  exact DO.get_ k1 hh1 hob r1 l (hh y w W1 m2 k1 s1 g1 rw')
theorem xp_din (DO : DKo X D) (i : Nat) (h : look Γ i = .gen (gDic D r d)) {M : Mp κ} (hb : XP X Γ b M D.k) (hm : behindInMarks .In (.Name x p2) = false := by rfl) (hN : X.N[i]? = some x := by rfl) (hv : Vis X.env.scope x := by first | exact Or.inl rfl | exact Or.inr (Or.inl rfl) | exact Or.inr (Or.inr rfl)) (hd : (x == ("__debug__" : Str)) = false := by decide) (hcd : (x == ("__classdict__" : Str)) = false := by decide) :
    XP X Γ (.Compare b [.In] [.Name x p2] pos) (fun P => M fun k => P (lookA d k).isSome) rBl := by
  obtain ⟨t, p, q⟩ := hb
  refine ⟨_, pe_cmpR DO.hin p (pe_var hN hv hd hcd) hm, fun σ W k g Q P m hh => ?_⟩
  refine q σ W k g _ _ m fun z v W1 m1 k1 s1 g1 r1 => ?_
  obtain ⟨a, ob, kvs, eo, _, _, hh1, hob, pr⟩ := dic_look g1 h
  refine ⟨.ref a, eo, DO.in_ k1 hh1 hob r1 (hh _ _ W1 m1 k1 s1 g1 ?_)⟩
  show V.bl _ = V.bl _
  rw [drel_look pr z]
theorem xp_dnin (DO : DKo X D) (i : Nat) (h : look Γ i = .gen (gDic D r d)) {M : Mp κ} (hb : XP X Γ b M D.k) (hm : behindInMarks .NotIn (.Name x p2) = false := by rfl) (hN : X.N[i]? = some x := by rfl) (hv : Vis X.env.scope x := by first | exact Or.inl rfl | exact Or.inr (Or.inl rfl) | exact Or.inr (Or.inr rfl)) (hd : (x == ("__debug__" : Str)) = false := by decide) (hcd : (x == ("__classdict__" : Str)) = false := by decide) :
    XP X Γ (.Compare b [.NotIn] [.Name x p2] pos) (fun P => M fun k => P (!(lookA d k).isSome)) rBl := by
  obtain ⟨t, p, q⟩ := hb
  refine ⟨_, pe_cmpR DO.hnin p (pe_var hN hv hd hcd) hm, fun σ W k g Q P m hh => ?_⟩
  refine q σ W k g _ _ m fun z v W1 m1 k1 s1 g1 r1 => ?_
  obtain ⟨a, ob, kvs, eo, _, _, hh1, hob, pr⟩ := dic_look g1 h
  refine ⟨.ref a, eo, DO.nin_ k1 hh1 hob r1 (hh _ _ W1 m1 k1 s1 g1 ?_)⟩
  show V.bl _ = V.bl _
  rw [drel_look pr z]
/-- x[k] = v -/
theorem xt_dput (DO : DKo X D) (i : Nat) (h : look Γ i = .gen (gDic D r d)) {M : Mp β} {N : Mp κ} (hv : XP X Γ e M r) (hk : XP X Γ b N D.k) (hN : X.N[i]? = some x := by rfl) (hvi : Vis X.env.scope x := by first | exact Or.inl rfl | exact Or.inr (Or.inl rfl) | exact Or.inr (Or.inr rfl)) (hd : (x == ("__debug__" : Str)) = false := by decide) (hcd : (x == ("__classdict__" : Str)) = false := by decide)
    {p3 : Pos} (hs : swapsWith e (some (.Subscript (.Name x p2) b p3)) pos.line X.env = pure false := by rfl) :
    XSt X Γ (.Assign [.Subscript (.Name x p2) b p3] e pos) (fun κ' : Kn (List (κ × β)) B R => M fun y => N fun k => d.length < sizeLine ∧ κ'.nx (putA d k y)) (fun d' => Γ.set i (.gen (gDic D r d'))) Γb RR := by
  obtain ⟨t, p, q⟩ := hv
  obtain ⟨t2, pp2, q2⟩ := hk
  refine ⟨_, DO.hset (pe_var hN hvi hd hcd) pp2 p hs, fun σ W k g κ' D' m h1 _ _ _ => ?_⟩
  refine q σ W k g _ _ m fun y v W1 m1 k1 s1 g1 r1 => ?_
  obtain ⟨a, _, _, eo, _⟩ := dic_look g1 h
  refine ⟨.ref a, eo, ?_⟩
  refine q2 σ W1 k1 g1 _ _ m1 fun z u W2 ⟨m2, m3⟩ k2 s2 g2 r2 => ?_
  obtain ⟨a', ob, kvs, eo', hB, hO, hh, hob, pr⟩ := dic_look g2 h
  rw [eo] at eo'
  cases eo'
  refine DO.set_ k2 hh hob r2 (by rw [pr.length]; exact m2) fun o' ho' => ?_
  exact h1 _ σ (W2.mut a o') m3 (k2.mut hO) ((s1.trans s2).trans (step_mut hO)) (g2.mut hO eo ⟨a, o', _, rfl, hB, hO, upd_same, ho', drel_put pr (r.mono s2.hc r1)⟩)
end
end TM
set_option Elab.async false
set_option linter.all false
set_option maxRecDepth 100000
/-! sorted(..) of ints, in a tuple, lists of clean things lent to a constructor that keeps a copy. -/
namespace TM
open PySem PySem.Spec PyProof.Rows L2
section
variable {X : Cx} {Γ Δ Λ : List SP} {α β γ δ τ S S' B R : Type} {e a b c o : Expr} {es : List Expr} {pos p2 : Pos} {x : Str}
theorem drel_keys {κ : Type} {r : RT β} {H : Hp} {kvs : List (κ × V)} {d : List (κ × β)} (h : Paired (DRel r H) kvs d) : kvs.map (·.1) = d.map (·.1) := by
  induction h with
  | nil => rfl
  | cons q t ih => rw [List.map_cons, List.map_cons, ih, q.1]
theorem ints_lst {H : Hp} : ∀ {xs : List Int}, Paired (rInt.ok H) (xs.map V.int) xs
  | [] => .nil
  | _ :: _ => .cons rfl ints_lst
/-- sorted(ints) -/
theorem xn_sorted {p : Pos} {M : Mp (List Int)} (hm : X.mg "sorted" = none) (ha : XB X Γ e M rInt) (hg : Gl X "sorted" := by rfl) (h1 : starEach [e] X.env = (false, eval e X.env) :: starEach [] X.env := by rfl) :
    XN X Γ (.Call (.Name "sorted" p) [e] [] pos) (fun P => M fun xs => xs.length < 64 ∧ ∀ ys : List Int, ys.Perm xs → ys.Pairwise (· ≤ ·) → P ys) rInt := by
  obtain ⟨t, pp, q⟩ := ha
  refine ⟨_, pe_callB cr_sorted hg hm (by with_unfolding_all rfl) (pa_cons pp pa_nil h1) (by decide) (by decide) h1, fun σ W k s Q P m h => ?_⟩
  refine q σ W k s _ _ m fun xs v W1 ⟨m1, m2⟩ k1 s1 g1 r1 => ?_
  obtain ⟨u, vs, ev, hh, pr⟩ := r1 W1 k1 (Step.refl W1) g1
  refine ⟨u, xs, by rw [ev], by rw [← vs_int pr]; exact sql_of hh, m1, fun ys l hp hs nl => ?_⟩
  have g := grow_lay (W := W1) (o := .lst (ys.map V.int)) nl
  exact h ys l _ (W1.lay l (.lst (ys.map V.int))) (m2 ys hp hs) (k1.lay nl) (s1.trans g.step) (g1.up (g.up k1)) (fresh_of s1 nl) (k1.none_of nl) (k1.free nl) upd_same ints_lst
/-- sorted(d), d one's own dict with int keys -/
theorem xn_sortedD {p p3 : Pos} {r : RT β} {d : List (Int × β)} (i : Nat) (h : look Γ i = .gen (gDic (dkF kfInt) r d)) (hcalm : X.calm = true) (hm : X.mg "sorted" = none) (hN : X.N[i]? = some x := by rfl) (hv : Vis X.env.scope x := by first | exact Or.inl rfl | exact Or.inr (Or.inl rfl) | exact Or.inr (Or.inr rfl)) (hd : (x == ("__debug__" : Str)) = false := by decide) (hcd : (x == ("__classdict__" : Str)) = false := by decide)
    (hg : Gl X "sorted" := by rfl) (h1 : starEach [.Name x p3] X.env = (false, eval (.Name x p3) X.env) :: starEach [] X.env := by rfl) :
    XN X Γ (.Call (.Name "sorted" p) [.Name x p3] [] pos) (fun P => d.length < 64 ∧ ∀ ys : List Int, ys.Perm (d.map (·.1)) → ys.Pairwise (· ≤ ·) → P ys) rInt := by
  refine ⟨_, pe_callB (call_sortedDI hcalm) hg hm (by with_unfolding_all rfl) (pa_cons (pe_var hN hv hd hcd) pa_nil h1) (by decide) (by decide) h1, fun σ W k s Q P ⟨m1, m2⟩ hh => ?_⟩
  obtain ⟨u, ob, kvs, eo, hB, hO, hu, hob, pr⟩ := dic_look s h
  rw [show ob = .dK (encF kfInt kvs) from hob] at hu
  have ek := drel_keys pr
  refine ⟨.ref u, eo, u, encF kfInt kvs, d.map (·.1), rfl, .inl hu, ?_, by rw [List.length_map]; exact m1, fun ys l hp hs nl => ?_⟩
  · rw [← ek]
    unfold encF
    rw [List.map_map, List.map_map]
    exact List.map_congr_left fun _ _ => rfl
  · have g := grow_lay (W := W) (o := .lst (ys.map V.int)) nl
    exact hh ys l _ (W.lay l (.lst (ys.map V.int))) (m2 ys hp hs) (k.lay nl) g.step (s.up (g.up k)) nl (k.none_of nl) (k.free nl) upd_same ints_lst
/-- x in t, t a tuple -/
theorem os_inT {K : PySem.W.Frag} {r : RT α} [DecidableEq α] (F : Flat r) : OpS (rIn K false) r (rT r) rBl (fun x xs P => P (decide (x ∈ xs))) := fun W k v x u xs e1 ⟨a, vs, e2, hh, pr⟩ Q P m q => by
  have e1 := (F.ok _ _ _).mp e1
  have e3 := F.vs pr
  subst e1 e3
  refine ⟨a, _, e2, .inr (sqt_of (k.ex _ _ hh)), F.flat x, F.all xs, q _ _ W m k (Grow.refl W) ?_⟩
  show V.bl _ = V.bl _
  rw [F.inV]; rfl
theorem os_notInT {K : PySem.W.Frag} {r : RT α} [DecidableEq α] (F : Flat r) : OpS (rIn K true) r (rT r) rBl (fun x xs P => P (!decide (x ∈ xs))) := fun W k v x u xs e1 ⟨a, vs, e2, hh, pr⟩ Q P m q => by
  have e1 := (F.ok _ _ _).mp e1
  have e3 := F.vs pr
  subst e1 e3
  refine ⟨a, _, e2, .inr (sqt_of (k.ex _ _ hh)), F.flat x, F.all xs, q _ _ W m k (Grow.refl W) ?_⟩
  show V.bl _ = V.bl _
  rw [F.inV]; rfl
/-! ### a list of clean things, lent -/
/-- the things are clean -/
def rIt (vs : List V) (r : RT α) : RT (List α) := ⟨fun H _ xs => Paired (r.ok H) vs xs, fun e h => pmap h fun _ _ => r.mono e⟩
/-- the list of just these values -/
def rLv (vs : List V) (r : RT α) : RT (List α) := ⟨fun H v xs => ∃ a, v = .ref a ∧ H a = some (.lst vs) ∧ Paired (r.ok H) vs xs, fun e ⟨a, h1, h2, h3⟩ => ⟨a, h1, e _ _ h2, pmap h3 fun _ _ => r.mono e⟩⟩
theorem rLv_L {vs : List V} {r : RT α} {H : Hp} {v : V} {xs : List α} (h : (rLv vs r).ok H v xs) : (rL r).ok H v xs := let ⟨a, h1, h2, h3⟩ := h; ⟨a, vs, h1, h2, h3⟩
theorem xp_lv (i : Nat) {x : Str} {vs : List V} {r : RT α} {xs : List α} (h : look Γ i = .cl (rLv vs r) xs) (hN : X.N[i]? = some x := by rfl) (hv : Vis X.env.scope x := by first | exact Or.inl rfl | exact Or.inr (Or.inl rfl) | exact Or.inr (Or.inr rfl)) (hd : (x == ("__debug__" : Str)) = false := by decide) (hcd : (x == ("__classdict__" : Str)) = false := by decide) :
    XP X Γ (.Name x pos) (fun P => P xs) (rL r) := XP.map (fun z => z) (fun _ _ _ h => rLv_L h) (xp_var i h hN hv hd hcd)
def jLendO (r : RT α) (Rj : Hp → Hp → List V → τ → Prop) : Hp → Hp → List V → (List V × List α) × τ → Prop := fun Hc Hb vs x => ∃ v ws, vs = v :: ws ∧ ((rLv x.1.1 r).ok Hb v x.1.2 ∧ (rIt x.1.1 r).ok Hc v x.1.2) ∧ Rj Hc Hb ws x.2
theorem xm_lendO (i : Nat) {x : Str} {pp : Pos} {r : RT α} {xs : List α} {N : Mp τ} {Rj : Hp → Hp → List V → τ → Prop} (hl : look Γ i = .own r xs) (hr : XM X Γ es N Rj) (hN : X.N[i]? = some x := by rfl) (hv : Vis X.env.scope x := by first | exact Or.inl rfl | exact Or.inr (Or.inl rfl) | exact Or.inr (Or.inr rfl)) (hd : (x == ("__debug__" : Str)) = false := by decide) (hcd : (x == ("__classdict__" : Str)) = false := by decide) (hs : starEach (.Name x pp :: es) X.env = (false, eval (.Name x pp) X.env) :: starEach es X.env := by rfl) :
    XM X Γ (.Name x pp :: es) (fun P => ∀ vs : List V, N fun z => P ((vs, xs), z)) (jLendO r Rj) := by
  obtain ⟨t, p, q⟩ := hr
  refine ⟨_, pa_cons (pe_var hN hv hd hcd) p hs, fun σ W k g Q P m h => ?_⟩
  obtain ⟨o, eo, u, vs, rfl, n, ho, hh, pr⟩ := g.look hl (by simp)
  refine ⟨.ref u, eo, q σ W k g _ _ (m vs) fun z ws H' pz e rj => h ((vs, xs), z) (.ref u :: ws) H' pz e ⟨.ref u, ws, rfl, ⟨⟨u, rfl, e _ _ hh, pmap pr fun _ _ => r.mono fun b w y => e b w (k.ex b w y)⟩, pr⟩, rj⟩⟩
variable {C : Addr} {J : Addr → Hp → Prop} {FF : Hp → List (Str × V) → Prop} {FF' : S → Hp → List (Str × V) → Prop} {f sf : Str} {p1 pq : Pos} {rest : List Stmt}
/-- self.f = list(x), x lent, of clean things -/
theorem xk_setLst (i : Nat) {vs : List V} {r : RT α} {xs : List α} {N : (S → Prop) → Prop} {p3 p4 p5 : Pos} (c : Cls X.K C) (nf : NoAttr X.K C f) (ff : FFok FF f) (cg : clus Γ) (hΓ : look Γ i = .cl (rIt vs r) xs) (hΛ : look Λ i = .cl (rLv vs r) xs) (hm : X.mg "list" = none) (hr : XCt X C J Γ Λ (ffAdd FF f (rL r) xs) rest N FF')
    (hNi : X.N[i]? = some x := by rfl) (hvi : Vis X.env.scope x := by first | exact Or.inl rfl | exact Or.inr (Or.inl rfl) | exact Or.inr (Or.inr rfl)) (hdi : (x == ("__debug__" : Str)) = false := by decide) (hcdi : (x == ("__classdict__" : Str)) = false := by decide) (hg : Gl X "list" := by rfl) (h1 : starEach [.Name x p3] X.env = (false, eval (.Name x p3) X.env) :: starEach [] X.env := by rfl)
    (hN : X.N[0]? = some sf := by rfl) (hv : Vis X.env.scope sf := by first | exact Or.inl rfl | exact Or.inr (Or.inl rfl) | exact Or.inr (Or.inr rfl)) (hd : (sf == ("__debug__" : Str)) = false := by decide) (hcd : (sf == ("__classdict__" : Str)) = false := by decide) (hs : swapsWith (.Call (.Name "list" p4) [.Name x p3] [] p5) (some (.Attribute (.Name sf p1) f pq)) pos.line X.env = pure false := by rfl) :
    XCt X C J Γ Λ FF (.Assign [.Attribute (.Name sf p1) f pq] (.Call (.Name "list" p4) [.Name x p3] [] p5) pos :: rest) N FF' := by
  obtain ⟨t2, pt2, q2⟩ := hr
  refine ⟨_, pss_cons (ps_fld (pe_var hN hv hd hcd) (pe_callTy call_list_of hg hm (by decide +kernel) (pa_cons (pe_var hNi hvi hdi hcdi) pa_nil h1) (by decide) (by decide) h1) hs) pt2, fun σ p H0 Hc0 Hb fs H jj k hs' g l hf P D m hh => ?_⟩
  obtain ⟨o, eo, v, ev, u, eu, hu, pr⟩ := l.look hΛ (by simp)
  obtain ⟨o', eo', v', ev', pr'⟩ := g.look hΓ (by simp)
  subst ev eu
  refine ⟨.ref u, eo, u, vs, rfl, .inl (sql_of (k.nb hu)), fun w nw => ?_⟩
  have e1 : Ex H (upd H w (.lst vs)) := fun b z q => by rw [upd_ne (ne_of_none q nw)]; exact q
  have k1 := k.grow e1
  obtain ⟨dx, hp⟩ := k1.me
  obtain ⟨hput, hlen⟩ := ff.put (.ref w) hf
  refine ⟨_, hs', p, C, dx, fs, rfl, hp, c, nf, hlen, ?_⟩
  have k2 := k1.put (dx := dx) (putF f (.ref w) fs)
  have en : nwH H0 Hc0 (upd (upd H w (.lst vs)) p (.ins C dx (putF f (.ref w) fs))) = nwH H0 Hc0 (upd H w (.lst vs)) := k1.nwput
  have w0 : H0 w = none := by
    cases z : H0 w with
    | none => rfl
    | some y => exact absurd nw (k.dom (by rw [z]; simp))
  refine q2 σ p H0 Hc0 Hb _ _ jj k2 hs' (by rw [en]; exact clu_up cg (KI.nwm e1) g) l ?_ P D m fun s fs' H' ps k3 f3 oo => hh s fs' H' ps k3 f3 fun b z n q => oo b z n (by rw [upd_ne n]; exact e1 b z q)
  rw [en, hput]
  exact ⟨fs, .ref w, rfl, ff.mono (KI.nwm e1) hf, w, vs, rfl, by rw [nw_new w0]; exact upd_same, pmap pr' fun _ _ => r.mono (KI.nwm e1)⟩
end
end TM
set_option Elab.async false
set_option linter.all false
set_option maxRecDepth 100000
set_option maxHeartbeats 1000000
namespace TM
open PySem PySem.Spec PyProof.Rows L2 PySem.W PySem.SeqAt
/-! ## the order of data: numbers, pairs, tuples, at any depth -/
section
variable {X : Cx}
def rLtD (K : PySem.W.Frag) : R2 := fun x y H Q => ∃ d e, Dp K H x d ∧ Dp K H y e ∧ alike d e = true ∧ d ≠ .none ∧ d.depth ≤ 64 ∧ Q (.bl (dataLt d e)) H
def rGtD (K : PySem.W.Frag) : R2 := fun x y H Q => ∃ d e, Dp K H x d ∧ Dp K H y e ∧ alike d e = true ∧ d ≠ .none ∧ d.depth ≤ 64 ∧ Q (.bl (dataLt e d)) H
theorem op_ltD (hu : X.A.units + 64 < cLine) : OpR X (compareOp .Lt) (rLtD X.K) := by
  intro pins s σ H x y v u Q I rx ry h
  obtain ⟨d, e, hd, he, al, nn, dp, q⟩ := h
  obtain ⟨as, r1⟩ := Dp.reads I d x v hd rx
  obtain ⟨bs, r2⟩ := Dp.reads I e y u he ry
  exact lt_data r1 r2 al nn (by omega) ⟨.bl _, H, I, rfl, q⟩
theorem op_gtD (hu : X.A.units + 64 < cLine) : OpR X (compareOp .Gt) (rGtD X.K) := by
  intro pins s σ H x y v u Q I rx ry h
  obtain ⟨d, e, hd, he, al, nn, dp, q⟩ := h
  obtain ⟨as, r1⟩ := Dp.reads I d x v hd rx
  obtain ⟨bs, r2⟩ := Dp.reads I e y u he ry
  exact gt_data r1 r2 al nn (by omega) ⟨.bl _, H, I, rfl, q⟩
end
structure OrdR {α : Type} {r : RT α} (D : DatR r) where
  lt : α → α → Bool
  al : ∀ x y, alike (D.d x) (D.d y) = true
  nn : ∀ x, D.d x ≠ .none
  eq : ∀ x y, dataLt (D.d x) (D.d y) = lt x y
def oInt : OrdR dInt := ⟨fun x y => decide (x < y), fun x y => by simp [dInt, alike], fun x => by simp [dInt], fun x y => dataLt_int x y⟩
def lexB {α : Type} [DecidableEq α] (lt : α → α → Bool) : List α → List α → Bool
  | [], [] => false
  | [], _ :: _ => true
  | _ :: _, [] => false
  | x :: xs, y :: ys => if x = y then lexB lt xs ys else lt x y
section
variable {α β : Type} {r : RT α} {q : RT β} {D : DatR r} {E : DatR q}
theorem lexAll_eq [DecidableEq α] (O : OrdR D) : ∀ xs ys : List α, alikeAll (xs.map D.d) (ys.map D.d) = true ∧ PyProof.Rows.lexLt itemOrd (keyToksAll (xs.map D.d)) (keyToksAll (ys.map D.d)) = lexB O.lt xs ys
  | [], [] => ⟨by simp [alikeAll], by rw [List.map_nil]; exact dataLt_tuple [] [] ▸ by simp [dataLt, lexB, keyToks]; decide⟩
  | [], y :: ys => ⟨by simp [alikeAll], by
    rw [List.map_nil, List.map_cons, toks_all_cons]
    show PyProof.Rows.lexLt itemOrd (keyToksAll []) _ = true
    rw [keyToksAll]; rfl⟩
  | x :: xs, [] => ⟨by simp [alikeAll], by
    rw [List.map_nil, List.map_cons, toks_all_cons]
    show PyProof.Rows.lexLt itemOrd _ (keyToksAll []) = false
    rw [keyToksAll]; rfl⟩
  | x :: xs, y :: ys => by
    obtain ⟨a, b⟩ := lexAll_eq O xs ys
    refine ⟨by rw [List.map_cons, List.map_cons, alikeAll, O.al, a]; rfl, ?_⟩
    rw [List.map_cons, List.map_cons]
    show _ = if x = y then lexB O.lt xs ys else O.lt x y
    by_cases e : x = y
    · rw [if_pos e, dataLt_all_yes (O.al x y) ((D.inj x y).mpr e), b]
    · rw [if_neg e, dataLt_all_no (O.al x y) (Bool.eq_false_iff.mpr fun z => e ((D.inj x y).mp z)), O.eq]
def oT [DecidableEq α] (O : OrdR D) : OrdR (dT D) := ⟨lexB O.lt, fun x y => by show alike (.tuple _) (.tuple _) = true; rw [alike]; exact (lexAll_eq O x y).1, fun x => by show PyData.tuple _ ≠ _; simp, fun x y => by
  show dataLt (.tuple _) (.tuple _) = _
  rw [dataLt_tuple]; exact (lexAll_eq O x y).2⟩
def oL [DecidableEq α] (O : OrdR D) : OrdR (dL D) := ⟨lexB O.lt, fun x y => by show alike (.list _) (.list _) = true; rw [alike]; exact (lexAll_eq O x y).1, fun x => by show PyData.list _ ≠ _; simp, fun x y => by
  show dataLt (.list _) (.list _) = _
  rw [dataLt_list]; exact (lexAll_eq O x y).2⟩
def oP [DecidableEq α] [DecidableEq β] (O : OrdR D) (O2 : OrdR E) : OrdR (dP D E) := ⟨fun p q => if p.1 = q.1 then (if p.2 = q.2 then false else O2.lt p.2 q.2) else O.lt p.1 q.1, fun x y => by
    show alike (.tuple _) (.tuple _) = true
    rw [alike, alikeAll, alikeAll, alikeAll, O.al, O2.al]; rfl, fun x => by show PyData.tuple _ ≠ _; simp, fun x y => by
  show dataLt (.tuple _) (.tuple _) = _
  rw [dataLt_tuple]
  by_cases e : x.1 = y.1
  · rw [if_pos e, dataLt_all_yes (O.al _ _) ((D.inj _ _).mpr e)]
    by_cases e2 : x.2 = y.2
    · rw [if_pos e2, dataLt_all_yes (O2.al _ _) ((E.inj _ _).mpr e2), keyToksAll]; decide
    · rw [if_neg e2, dataLt_all_no (O2.al _ _) (Bool.eq_false_iff.mpr fun z => e2 ((E.inj _ _).mp z)), O2.eq]
  · rw [if_neg e, dataLt_all_no (O.al _ _) (Bool.eq_false_iff.mpr fun z => e ((D.inj _ _).mp z)), O.eq]⟩
theorem os_ltD {K : PySem.W.Frag} (O : OrdR D) (hn : D.n ≤ 64) : OpS (rLtD K) r r rBl (fun x y P => P (O.lt x y)) := fun W k v x u y e1 e2 Q P m q =>
  ⟨D.d x, D.d y, D.ok K _ _ _ (r.mono k.ex e1), D.ok K _ _ _ (r.mono k.ex e2), O.al x y, O.nn x, Nat.le_trans (D.dep x) hn, q _ _ W m k (Grow.refl W) (by show V.bl _ = V.bl _; rw [O.eq])⟩
theorem os_gtD {K : PySem.W.Frag} (O : OrdR D) (hn : D.n ≤ 64) : OpS (rGtD K) r r rBl (fun x y P => P (O.lt y x)) := fun W k v x u y e1 e2 Q P m q =>
  ⟨D.d x, D.d y, D.ok K _ _ _ (r.mono k.ex e1), D.ok K _ _ _ (r.mono k.ex e2), O.al x y, O.nn x, Nat.le_trans (D.dep x) hn, q _ _ W m k (Grow.refl W) (by show V.bl _ = V.bl _; rw [O.eq])⟩
/-- xs * n, new -/
theorem paired_rep {F : V → α → Prop} {vs : List V} {xs : List α} (h : Paired F vs xs) : ∀ n : Nat, Paired F (List.replicate n vs).flatten (List.replicate n xs).flatten
  | 0 => .nil
  | n + 1 => by rw [List.replicate_succ, List.replicate_succ, List.flatten_cons, List.flatten_cons]; exact paired_app h (paired_rep h n)
end
section
variable {α β : Type} {X : Cx} {Γ : List SP} {a b : Expr} {pos : Pos}
theorem xn_rep {M : Mp (List α)} {N : Mp Int} {r : RT α} (ha : XB X Γ a M r) (hb : XP X Γ b N rInt) : XN X Γ (.BinOp a .Mult b pos) (fun P => M fun xs => N fun n => (n ≤ 1000 ∧ xs.length ≤ 1000 ∧ -1000 ≤ n) ∧ P (List.replicate n.toNat xs).flatten) r := by
  obtain ⟨t, p, q⟩ := ha
  obtain ⟨u, p2, q2⟩ := hb
  refine ⟨_, pe_op op_rep p p2, fun σ W k s Q P m h => q σ W k s _ _ m fun xs v W1 m1 k1 s1 g1 r1 => ?_⟩
  refine q2 σ W1 k1 g1 _ _ m1 fun n v2 W2 ⟨⟨mz, mz2, mz3⟩, m2⟩ k2 s2 g2 r2 => ?_
  obtain ⟨a, vs, e, hh, pr⟩ := r1 W2 k2 s2 g2
  have r2 : v2 = .int n := r2
  refine ⟨a, n, vs, e, r2, hh, by omega, by omega, ?_, fun l nl => ?_⟩
  · have h1 : vs.length * n.toNat ≤ 1000 * 1000 := Nat.mul_le_mul (by rw [pr.length]; exact mz2) (by omega)
    exact Nat.le_trans h1 (by decide)
  · have g := grow_lay (W := W2) (o := .lst (List.replicate n.toNat vs).flatten) nl
    exact h _ l _ (W2.lay l _) m2 (k2.lay nl) ((s1.trans s2).trans g.step) (g2.up (g.up k2)) (fresh_of (s1.trans s2) nl) (k2.none_of nl) (k2.free nl) upd_same (paired_rep pr _)
end
end TM
set_option Elab.async false
set_option linter.all false
set_option maxRecDepth 100000
set_option maxHeartbeats 1000000
namespace TM
open PySem PySem.Spec PyProof.Rows L2
/-! ## one's own list lent to a call: it joins the clean part and leaves it again -/
def er (H : Hp) (u : Addr) : Hp := fun b => if b = u then none else H b
theorem er_ne {H : Hp} {u b : Addr} (h : b ≠ u) : er H u b = H b := if_neg h
theorem er_ex {H H' : Hp} {u : Addr} (e : Ex H H') (n : H u = none) : Ex H (er H' u) := fun b o h => by
  rw [er_ne (ne_of_none h n)]; exact e b o h
/-- values in which no list stands -/
def NoL {α : Type} (r : RT α) : Prop := ∀ {H : Hp} {u : Addr} {vs : List V} {v : V} {x : α}, H u = some (.lst vs) → r.ok H v x → r.ok (er H u) v x
theorem nl_int : NoL rInt := fun _ h => h
theorem nl_str : NoL rStr := fun _ h => h
theorem nl_bl : NoL rBl := fun _ h => h
section
variable {α β γ : Type}
theorem tup_ne {H : Hp} {u a : Addr} {vs ws : List V} (h : H u = some (.lst vs)) (h2 : H a = some (.tup ws)) : er H u a = some (.tup ws) := by
  rw [er_ne]; exact h2
  intro z; rw [z, h] at h2; cases h2
theorem nl_T {r : RT α} (n : NoL r) : NoL (rT r) := fun hu ⟨a, vs, e, h, p⟩ => ⟨a, vs, e, tup_ne hu h, pmap p fun _ _ => n hu⟩
theorem nl_P {r : RT α} {q : RT β} (n : NoL r) (n2 : NoL q) : NoL (rP r q) := fun hu ⟨a, x, y, e, h, p, p2⟩ => ⟨a, x, y, e, tup_ne hu h, n hu p, n2 hu p2⟩
theorem nl_P3 {r : RT α} {q : RT β} {z : RT γ} (n : NoL r) (n2 : NoL q) (n3 : NoL z) : NoL (rP3 r q z) := fun hu ⟨a, x, y, w, e, h, p, p2, p3⟩ => ⟨a, x, y, w, e, tup_ne hu h, n hu p, n2 hu p2, n3 hu p3⟩
/-- all slots but one -/
def ThS : SP → Prop
  | .own r _ => NoL r
  | .ownA _ r _ => NoL r
  | .gen _ => False
  | _ => True
def ThA : List SP → Prop
  | [] => True
  | p :: ps => ThS p ∧ ThA ps
def ThB : Nat → List SP → Prop
  | _, [] => True
  | 0, _ :: ps => ThA ps
  | i + 1, p :: ps => ThS p ∧ ThB i ps
theorem thA : ∀ {Γ : List SP}, ThA Γ → ∀ j, ThS (look Γ j)
  | [], _, _ => trivial
  | _ :: _, h, 0 => h.1
  | _ :: _, h, j + 1 => thA h.2 j
theorem thB : ∀ {i : Nat} {Γ : List SP}, ThB i Γ → ∀ j, j ≠ i → ThS (look Γ j)
  | _, [], _, _, _ => trivial
  | 0, _ :: _, _, 0, n => absurd rfl n
  | 0, _ :: _, h, j + 1, _ => thA h j
  | i + 1, _ :: _, h, 0, _ => h.1
  | i + 1, _ :: _, h, j + 1, n => thB h.2 j (by omega)
theorem satMap {W W' : Wd} : ∀ {Γ : List SP} {m : Nat} {σ : St}, SatL m Γ σ W → (∀ k o', σ[k]? = some o' → SPok (TM.look Γ k) (m + k) o' W → SPok (TM.look Γ k) (m + k) o' W') → SatL m Γ σ W'
  | [], _, [], _, _ => trivial
  | [], _, _ :: _, h, _ => h
  | _ :: _, _, [], h, _ => h
  | p :: ps, m, o :: σ, h, hk => ⟨hk 0 o rfl h.1, satMap h.2 fun k o' e z => by
      have := hk (k + 1) o' e (by show SPok (TM.look ps k) (m + (k + 1)) o' W; rw [show m + (k + 1) = m + 1 + k by omega]; exact z)
      rw [show m + 1 + k = m + (k + 1) by omega]
      exact this⟩
theorem thaw {Γ : List SP} {σ : St} {W : Wd} {i : Nat} {r : RT α} {xs : List α} (k : W.Ok) (g : Sat Γ σ W) (h : look Γ i = .own r xs) (hΓ : ∀ j, j ≠ i → ThS (look Γ j)) :
    ∃ u, W.H u ≠ none ∧ ∃ W', W'.Ok ∧ W'.H = W.H ∧ Sat (Γ.set i (.cl (rL r) xs)) σ W' ∧ ∀ W2, W2.Ok → Step W' W2 → Sat (Γ.set i (.cl (rL r) xs)) σ W2 →
      ∃ vs W3, W2.Hc u = some (.lst vs) ∧ W3.Ok ∧ W3.H = W2.H ∧ W3.Hc = er W2.Hc u ∧ (∀ b, b ≠ u → W3.O b = W2.O b) ∧ Step W W3 ∧ Sat Γ σ W3 := by
  obtain ⟨o, e, u, vs, rfl, n, ho, hh, pr⟩ := g.look h (by simp)
  have nc := (k.own u i ho).1
  have up : Ex W.Hc (upd W.Hc u (.lst vs)) := fun b o e => by rw [upd_ne (ne_of_none e nc)]; exact e
  refine ⟨u, ne_none_of hh, ⟨upd W.Hc u (.lst vs), W.H, fun b => if b = u then none else W.O b, W.B⟩, ⟨fun b o q => ?_, fun b j q => ?_, k.basTo (fun _ q => q) (fun _ _ _ _ q => q) fun b e q => by
    have q : (if b = u then none else W.O b) = none := q
    by_cases z : b = u
    · rw [z, n] at e; exact absurd rfl e
    · rw [if_neg z] at q; exact q⟩, rfl, ?_, fun W2 k2 s2 g2 => ?_⟩
  · have q : upd W.Hc u (.lst vs) b = some o := q
    by_cases z : b = u
    · rw [z] at q ⊢; rw [upd_same] at q; show W.H u = some o; rw [hh]; exact q
    · rw [upd_ne z] at q; exact k.ex b o q
  · have q : (if b = u then none else W.O b) = some j := q
    show upd W.Hc u (.lst vs) b = none ∧ _
    by_cases z : b = u
    · rw [if_pos z] at q; cases q
    · rw [if_neg z] at q; rw [upd_ne z]; exact k.own b j q
  · have h1 : Sat (Γ.set i (.cl (rL r) xs)) (σ.set i (some (.ref u))) ⟨upd W.Hc u (.lst vs), W.H, fun b => if b = u then none else W.O b, W.B⟩ := SatL.set g (fun j o' nj ej z => by
      rw [Nat.zero_add] at z ⊢
      have ne : ∀ b, W.O b = some j → b ≠ u := fun b q w => by
        rw [w, ho] at q
        exact nj (Option.some.inj q).symm
      have oo : ∀ b, W.O b = some j → (if b = u then none else W.O b) = some j := fun b q => by rw [if_neg (ne b q)]; exact q
      exact z.kp ⟨up, fun b q => ⟨oo b q, rfl⟩, rfl, fun b _ q => by
        show (if b = u then none else W.O b) = none
        by_cases w : b = u
        · rw [if_pos w]
        · rw [if_neg w]; exact q⟩) ⟨.ref u, rfl, u, vs, rfl, upd_same, pmap pr fun _ _ => r.mono up⟩
    rw [set_same e] at h1
    exact h1
  · have hc2 : W2.Hc u = some (.lst vs) := s2.hc u _ (upd_same)
    have hu2 : W2.H u = some (.lst vs) := k2.ex u _ hc2
    have ou2 : W2.O u = none := (s2.old u (ne_none_of hh) (by show (if u = u then none else W.O u) = none; rw [if_pos rfl])).2
    have hcE : Ex W.Hc W2.Hc := fun b o q => s2.hc b o (up b o q)
    have hc3 : Ex W.Hc (er W2.Hc u) := er_ex hcE nc
    have B2 : W2.B = W.B := s2.B
    have o3 : ∀ b, b ≠ u → (if b = u then some i else W2.O b) = W2.O b := fun b q => if_neg q
    refine ⟨vs, ⟨er W2.Hc u, W2.H, fun b => if b = u then some i else W2.O b, W2.B⟩, hc2, ⟨fun b o q => ?_, fun b j q => ?_, fun b q => ?_⟩, rfl, rfl, o3, ⟨fun b o q w => ?_, fun b q => s2.dom b q, hc3, fun b q w => ?_, s2.B⟩, ?_⟩
    · have q : er W2.Hc u b = some o := q
      by_cases z : b = u
      · rw [z] at q; unfold er at q; rw [if_pos rfl] at q; cases q
      · rw [er_ne z] at q; exact k2.ex b o q
    · have q : (if b = u then some i else W2.O b) = some j := q
      show er W2.Hc u b = none ∧ W2.H b ≠ none
      by_cases z : b = u
      · rw [z]; exact ⟨if_pos rfl, ne_none_of hu2⟩
      · rw [if_neg z] at q; rw [er_ne z]; exact k2.own b j q
    · refine ⟨(k2.bas b q).1, fun w => ?_⟩
      have w : (if b = u then some i else W2.O b) = none := w
      by_cases z : b = u
      · rw [if_pos z] at w; cases w
      · rw [if_neg z] at w; exact (k2.bas b q).2 w
    · have z : b ≠ u := fun z => by rw [z, ho] at w; cases w
      exact s2.keep b o q (by show (if b = u then none else W.O b) = none; rw [if_neg z]; exact w)
    · have z : b ≠ u := fun z => by rw [z, ho] at w; cases w
      obtain ⟨a1, a2⟩ := s2.old b q (by show (if b = u then none else W.O b) = none; rw [if_neg z]; exact w)
      refine ⟨?_, (if_neg z).trans a2⟩
      show er W2.Hc u b = W.Hc b
      rw [er_ne z, a1]; exact upd_ne z
    · refine satMap g fun j o' ej z => ?_
      rw [Nat.zero_add] at z ⊢
      by_cases ji : j = i
      · subst ji
        rw [h] at z ⊢
        rw [e] at ej
        cases ej
        exact ⟨u, vs, rfl, by rw [show W2.B = W.B from B2]; exact n, if_pos rfl, hu2, pmap pr fun _ _ => r.mono hc3⟩
      · have lt : j < Γ.length := by
          have := (List.getElem?_eq_some_iff.mp ej).1
          rw [SatL.len g] at this; exact this
        obtain ⟨o2, e2, z2⟩ := SatL.get (i := j) g2 (by rw [List.length_set]; exact lt)
        rw [ej] at e2
        cases e2
        rw [Nat.zero_add, look_set_ne ji] at z2
        have th := hΓ j ji
        have ne : ∀ b, W2.O b = some j → b ≠ u := fun b q w => by rw [w, ou2] at q; cases q
        cases hl : look Γ j with
        | unk => trivial
        | bot => rw [hl] at z; exact z
        | cl q x => rw [hl] at z; obtain ⟨v, e1, w⟩ := z; exact ⟨v, e1, q.mono hc3 w⟩
        | own q ys => rw [hl] at z2 th; obtain ⟨a, ws, e1, n1, o1, h1, p1⟩ := z2; exact ⟨a, ws, e1, n1, (if_neg (ne a o1)).trans o1, h1, pmap p1 fun _ _ => th hc2⟩
        | ownA a q ys => rw [hl] at z2 th; obtain ⟨ws, e1, o1, h1, p1⟩ := z2; exact ⟨ws, e1, (if_neg (ne a o1)).trans o1, h1, pmap p1 fun _ _ => th hc2⟩
        | bx a => rw [hl] at z2; obtain ⟨e1, o1, b1⟩ := z2; exact ⟨e1, (if_neg (ne a o1)).trans o1, b1⟩
        | dp q x => rw [hl] at z2; obtain ⟨v, Hr, e1, w, w2⟩ := z2; exact ⟨v, Hr, e1, fun b y hb => ⟨(if_neg (ne b (w b y hb).1)).trans (w b y hb).1, (w b y hb).2⟩, w2⟩
        | gen gs => rw [hl] at th; exact th.elim
end
section
variable {α β : Type} {X : Cx} {Γ : List SP} {e : Expr}
theorem xn_thaw (i : Nat) {r : RT α} {q : RT β} {xs : List α} {M : Mp (List β)} (h : look Γ i = .own r xs) (hΓ : ∀ j, j ≠ i → ThS (look Γ j)) (hq : NoL q) (hx : XN X (Γ.set i (.cl (rL r) xs)) e M q) : XN X Γ e M q := by
  obtain ⟨t, p, f⟩ := hx
  refine ⟨t, p, fun σ W k g Q P m c => ?_⟩
  obtain ⟨u, nu, W', k', eH, g', T⟩ := thaw k g h hΓ
  rw [← eH]
  refine f σ W' k' g' Q P m fun ys l vs W2 m2 k2 s2 g2 n2 nc2 no2 hh2 pr2 => ?_
  obtain ⟨ws, W3, hu, k3, e3, ec3, o3, s3, g3⟩ := T W2 k2 s2 g2
  rw [eH] at n2
  have ne : l ≠ u := fun z => nu (by rw [← z]; exact n2)
  have := c ys l vs W3 m2 k3 s3 g3 n2 (by rw [ec3, er_ne ne]; exact nc2) ((o3 l ne).trans no2) (by rw [e3]; exact hh2) (by rw [ec3]; exact pmap pr2 fun _ _ => hq hu)
  rw [e3] at this
  exact this
theorem xp_thaw (i : Nat) {r : RT α} {q : RT β} {xs : List α} {M : Mp β} (h : look Γ i = .own r xs) (hΓ : ∀ j, j ≠ i → ThS (look Γ j)) (hq : NoL q) (hx : XP X (Γ.set i (.cl (rL r) xs)) e M q) : XP X Γ e M q := by
  obtain ⟨t, p, f⟩ := hx
  refine ⟨t, p, fun σ W k g Q P m c => ?_⟩
  obtain ⟨u, nu, W', k', eH, g', T⟩ := thaw k g h hΓ
  rw [← eH]
  refine f σ W' k' g' Q P m fun y v W2 m2 k2 s2 g2 r2 => ?_
  obtain ⟨ws, W3, hu, k3, e3, ec3, o3, s3, g3⟩ := T W2 k2 s2 g2
  have := c y v W3 m2 k3 s3 g3 (by rw [ec3]; exact hq hu r2)
  rw [e3] at this
  exact this
end
end TM
set_option Elab.async false
set_option linter.all false
set_option maxRecDepth 100000
set_option maxHeartbeats 1000000
namespace TM
open PySem PySem.Spec PyProof.Rows L2
open Sem (wp)
/-! ## zip(reversed(a list), a tuple): what a list_reverseiterator draws -/
section
variable {prog : Program} {w : World} {A : Around} {E : Value → Shared → Prop} {s : Shared}
theorem nextOf_rev_item {it l : Addr} {i : Nat} {items : Array Value} {x : Value} {Q : Value → Shared → Prop} (hit : s.heap.IsRevIter it l (i : Int)) (hl : s.heap.IsList l items) (hx : items[i]? = some x)
    (hQ : ∀ h', h'.IsRevIter it l ((i : Int) - 1) → Heap.SameBut it s.heap h' → Q x { s with heap := h' }) : wpAny (model prog w) A (Builtin.SmallTypes.nextOf (.ref it)) Q E s := by
  obtain ⟨o, ho, hc, hd⟩ := id hit
  obtain ⟨ol, hol, _, nl, hdl⟩ := hl
  unfold Builtin.SmallTypes.nextOf
  refine wpAny_bind (wpAny_callSpecial?_slot (name := Str.ofString "__next__") hit.typeIs PySem.F.slot_lri_next
    (wpAny_call_entry PySem.F.slot_lri_next hit.typeIs PySem.F.entry_lri_next ?_ (PySem.F.args_lri_next_1 _)))
  unfold Builtin.«list_reverseiterator.__next__»
  refine wpAny_bind (wpAny_of_eq (a := (Value.ref it, [])) rfl ?_)
  try dsimp only
  refine wpAny_bind (wpAny_field ho hd (x := rawInt (i : Int)) rfl ?_)
  show wpAny _ _ (if (i : Int) < 0 then _ else _) _ _ s
  rw [if_neg (by omega)]
  show wpAny _ _ (field (.ref it) 0 >>= _) _ _ s
  refine wpAny_bind (wpAny_field ho hd (x := .ref l) rfl ?_)
  show wpAny _ _ (seqItems? (.ref l) >>= _) _ _ s
  refine wpAny_bind (wpAny_seqItems hol hdl ?_)
  simp only [Int.toNat_natCast, hx]
  refine wpAny_bind (wpAny_setField ho hd (by simp) ?_)
  refine wpAny_pure ⟨x, rfl, wpAny_pure (hQ _ ?_ (Heap.SameBut.update ..))⟩
  exact ⟨_, Heap.get?_update_self _ ho (Obj.isFreed_of_fields (Obj.data_mapFields hd _)), (Obj.cls_mapFields ..).trans hc, by
    rw [Obj.data_mapFields hd]; simp⟩
theorem nextOf_rev_end {it l : Addr} {Q : Value → Shared → Prop} (hh : A.handled = none) (hit : s.heap.IsRevIter it l (-1))
    (hE : ∀ h' e, Heap.ExtBut it s.heap h' → (∃ o, h'.get? e = some o ∧ o.cls = .type "StopIteration") → E (.ref e) { s with heap := h' }) : wpAny (model prog w) A (Builtin.SmallTypes.nextOf (.ref it)) Q E s := by
  obtain ⟨o, ho, hc, hd⟩ := id hit
  unfold Builtin.SmallTypes.nextOf
  refine wpAny_bind (wpAny_callSpecial?_slot (name := Str.ofString "__next__") hit.typeIs PySem.F.slot_lri_next
    (wpAny_call_entry PySem.F.slot_lri_next hit.typeIs PySem.F.entry_lri_next ?_ (PySem.F.args_lri_next_1 _)))
  unfold Builtin.«list_reverseiterator.__next__»
  refine wpAny_bind (wpAny_of_eq (a := (Value.ref it, [])) rfl ?_)
  try dsimp only
  refine wpAny_bind (wpAny_field ho hd (x := rawInt (-1)) rfl ?_)
  show wpAny _ _ (if (-1 : Int) < 0 then _ else _) _ _ s
  rw [if_pos (by decide)]
  refine wpAny_bind (wpAny_rule ?_)
  first
  | show wpAny _ _ (newExc (.type "StopIteration") [] >>= _) _ _ _
  | (refine wpAny_bind ?_; show wpAny _ _ (newExc (.type "StopIteration") [] >>= _) _ _ _)
  refine wpAny_bind ?_
  simp only [newExc, newTuple]
  refine wpAny_bind (wpAny_newObj_type ?_ (by size_fits))
  refine wpAny_bind (m := firstArgMember _ _) (wpAny_of_eq (a := Value.none) (by first | rfl | (simp only [firstArgMember]; rfl)) ?_)
  refine wpAny_newObj_type ?_ (by size_fits)
  simp only [raiseNew]
  refine wpAny_bind (wpAny_handled ?_)
  first | rw [show A.in1.handled = none from hh] | rw [hh]
  refine wpAny_bind (wpAny_pure (wpAny_throw ?_))
  exact hE _ _ (((Heap.ExtBut.refl _ _).push _).push _) ⟨_, Heap.get?_push_size _ rfl, rfl⟩
end
theorem draws_listRev {prog : Program} {w : World} {A : Around} (hh : A.handled = none) (it l : Addr) (hne : l ≠ it) (items : Array Value) :
    Draws prog w A it [it, l] items.size (fun i v => items[items.size - 1 - i]? = some v) (fun i h => i ≤ items.size ∧ h.IsRevIter it l ((items.size : Int) - 1 - (i : Int)) ∧ h.IsList l items) where
  live := fun _ _ st => let ⟨o, ho, _⟩ := st.2.1; ⟨o, ho⟩
  frame := fun _ _ _ x hk => ⟨x.1, x.2.1.at fun o e => hk it (by simp) o e, x.2.2.at fun o e => hk l (by simp) o e⟩
  item := fun i s Q E hi x hQ => by
    have e : (items.size : Int) - 1 - (i : Int) = ((items.size - 1 - i : Nat) : Int) := by omega
    have hit := x.2.1
    rw [e] at hit
    have hx : items[items.size - 1 - i]? = some (items[items.size - 1 - i]'(by omega)) := Array.getElem?_eq_getElem (by omega)
    refine nextOf_rev_item hit x.2.2 hx fun h' hit' hs' => ?_
    have e2 : ((items.size - 1 - i : Nat) : Int) - 1 = (items.size : Int) - 1 - ((i + 1 : Nat) : Int) := by omega
    rw [e2] at hit'
    exact hQ _ h' s.toks hx ⟨hi, hit', x.2.2.at fun o eo => (hs'.2 l hne).trans eo⟩ hs'
  done := fun s Q E x hE => by
    have e : (items.size : Int) - 1 - (items.size : Int) = -1 := by omega
    have hit := x.2.1
    rw [e] at hit
    exact nextOf_rev_end hh hit hE
/-- a kind of sequence that is being walked -/
structure SqW (K : PySem.W.Frag) where
  ok : Hp → Addr → List V → Prop
  it : Heap → Addr → Addr → Nat → Prop
  raw : Heap → Addr → Array Value → Prop
  dr : ∀ {P : Program} {w : World} {A : Around}, A.handled = none → ∀ (i a : Addr), a ≠ i → ∀ its : Array Value, Draws P w A i [i, a] its.size (fun j v => its[j]? = some v) (fun j h => it h i a j ∧ raw h a its)
  go : ∀ {X : Cx} {pins : List (Addr × Obj)} {σ : St} {H : Hp} {s : Shared} {a : Addr} {xs : List V}, X.K = K → Inv X pins σ H s → ok H a xs → ∃ its : List Value, Vals xs its ∧ raw s.heap a its.toArray
  one : ∀ {X : Cx} {pins : List (Addr × Obj)} {σ : St} {H : Hp} {s : Shared} {a : Addr} {xs ys : List V}, X.K = K → Inv X pins σ H s → ok H a xs → ok H a ys → xs = ys
  at' : ∀ {h h' : Heap} {i a : Addr} {j : Nat}, it h i a j → (∀ o, h.get? i = some o → h'.get? i = some o) → it h' i a j
  lt : ∀ {h : Heap} {a : Addr} {its : Array Value}, raw h a its → a < h.objs.size
  nc : ∀ {h : Heap} {i a : Addr} {j : Nat}, it h i a j → ∃ o, h.get? i = some o ∧ ∀ v, o.data ≠ .cell v
theorem vals_reverse {xs : List V} {its : List Value} (r : Vals xs its) : Vals xs.reverse its.reverse := by
  have app : ∀ {xs ys : List V} {us vs : List Value}, Vals xs us → Vals ys vs → Vals (xs ++ ys) (us ++ vs) := fun a b => a.append b
  induction r with
  | nil => exact .nil
  | cons a r ih =>
    rw [List.reverse_cons, List.reverse_cons]
    exact app ih (.cons a .nil)
/-- reversed(a list of n things), under way -/
def sqRev (K : PySem.W.Frag) (n : Nat) : SqW K where
  ok := fun H a xs => xs.length = n ∧ SqL K H a xs.reverse
  it := fun h i a j => j ≤ n ∧ h.IsRevIter i a ((n : Int) - 1 - (j : Int))
  raw := fun h a its => its.size = n ∧ h.IsList a its.reverse
  dr := fun {P w A} hh i a ne its => by
    have D := draws_listRev (prog := P) (w := w) (A := A) hh i a ne its.reverse
    rw [Array.size_reverse] at D
    refine ⟨fun j h q => ?_, fun j h h' q k => ⟨⟨q.1.1, q.1.2.at fun o e => k i (by simp) o e⟩, q.2.1, q.2.2.at fun o e => k a (by simp) o e⟩, fun j s Q E hj q hQ => ?_, fun s Q E q hE => ?_⟩
    · obtain ⟨o, e, _⟩ := q.1.2; exact ⟨o, e⟩
    · obtain ⟨⟨q1, q2⟩, q3, q4⟩ := q
      refine D.item j s Q E hj ⟨by omega, by rw [q3]; exact q2, q4⟩ fun x h' tk hx st sb => hQ x h' tk ?_ ⟨⟨by omega, by have := st.2.1; rw [q3] at this; exact this⟩, q3, st.2.2⟩ sb
      rw [Array.getElem?_reverse (by omega)] at hx
      rw [show its.size - 1 - (its.size - 1 - j) = j by omega] at hx
      exact hx
    · obtain ⟨⟨q1, q2⟩, q3, q4⟩ := q
      exact D.done s Q E ⟨Nat.le_refl _, by rw [q3] at q2 ⊢; exact q2, q4⟩ hE
  go := fun hK I ⟨q0, q⟩ => by
    subst hK
    obtain ⟨its, r, p, _⟩ := I.list q
    have r2 := vals_reverse r
    rw [List.reverse_reverse] at r2
    refine ⟨its.reverse, r2, ?_, ?_⟩
    · have := r2.length
      rw [List.size_toArray]; omega
    · rw [List.reverse_toArray, List.reverse_reverse]; exact p.isList
  one := fun hK I q q' => by subst hK; have := I.list_inj q.2 q'.2; exact List.reverse_inj.mp this
  at' := fun q k => ⟨q.1, q.2.at k⟩
  lt := fun ⟨_, _, e, _⟩ => Heap.lt_size e
  nc := fun ⟨_, o, e, _, d⟩ => ⟨o, e, fun v q => by rw [d] at q; cases q⟩
def ItzW {K : PySem.W.Frag} (S1 : SqW K) (S2 : SqK K) (a b : Addr) : It where
  go := fun i H => ∃ (xs ys : List V) (x y : V), S1.ok H a xs ∧ S2.ok H b ys ∧ xs[i]? = some x ∧ ys[i]? = some y
  yld := fun i H v H' => ∃ T x y, v = .ref T ∧ H T = none ∧ H' = upd H T (.tup [x, y]) ∧ (∀ xs, S1.ok H a xs → xs[i]? = some x) ∧ ∀ ys, S2.ok H b ys → ys[i]? = some y
  stop := fun i H => ∃ xs ys : List V, S1.ok H a xs ∧ S2.ok H b ys ∧ i ≤ xs.length ∧ i ≤ ys.length ∧ (i = xs.length ∨ i = ys.length)
theorem turn_zipW {P : Program} {w : World} {K : PySem.W.Frag} (S1 : SqW K) (S2 : SqK K) {elts : List Expr} {kk : Nat} {tpos : Pos} {a b z TI TO i1 i2 : Addr} (D : ZipApart z TI TO i1 i2 a b) (e1 : b ≠ z) (e2 : b ≠ TO) (e3 : b ≠ i1) (e4 : b ≠ i2) :
    Turn P w K (.Tuple elts kk tpos) (ItzW S1 S2 a b) [z, TI, TO, i1, i2] z (fun i h => IsZip h z TI TO .none ∧ IsPair h TI (.ref i1) (.ref i2) ∧ (∃ x y, IsPair h TO x y) ∧ S1.it h i1 a i ∧ S2.it h i2 b i) where
  mem := by simp
  obj := fun i h q c hc => by
    obtain ⟨q1, q2, ⟨x, y, q3⟩, q4, q5⟩ := q
    simp only [List.mem_cons, List.not_mem_nil, or_false] at hc
    rcases hc with e | e | e | e | e
    · rw [e]; exact ⟨_, q1, fun v r => nomatch r⟩
    · rw [e]; exact ⟨_, q2, fun v r => nomatch r⟩
    · rw [e]; exact ⟨_, q3, fun v r => nomatch r⟩
    · rw [e]; exact S1.nc q4
    · rw [e]; exact S2.nc q5
  keep := fun i h h' q k => by
    obtain ⟨q1, q2, ⟨x, y, q3⟩, q4, q5⟩ := q
    exact ⟨k z (by simp) _ q1, k TI (by simp) _ q2, ⟨x, y, k TO (by simp) _ q3⟩, S1.at' q4 fun o q => k i1 (by simp) o q, S2.at' q5 fun o q => k i2 (by simp) o q⟩
  item := by
    intro X hP hw hK hc i pins s σ H E I hf q hg
    subst hP hw
    obtain ⟨q1, q2, ⟨x0, y0, q3⟩, q4, q5⟩ := q
    obtain ⟨xs, ys, x, y, hx, hy, ex, ey⟩ := hg
    obtain ⟨us, ru, pu⟩ := S1.go hK I hx
    obtain ⟨vs, rv, pv⟩ := S2.go hK I hy
    obtain ⟨u, eu, wu⟩ := ru.get ex
    obtain ⟨v, ev, wv⟩ := rv.get ey
    have hh : X.A.in1.handled = none := I.ok.hd hc
    have l1 : i < us.toArray.size := by rw [List.size_toArray]; exact (List.getElem?_eq_some_iff.mp eu).1
    have l2 : i < vs.toArray.size := by rw [List.size_toArray]; exact (List.getElem?_eq_some_iff.mp ev).1
    have zl : z < s.heap.objs.size := Heap.lt_size q1
    refine wpAny_pyNext_zipD2_item (zipSep D e1 e2 e3) (S1.dr hh i1 a D.l1i1 us.toArray) (S2.dr hh i2 b e4 vs.toArray) q1 q2 q3 ⟨q4, pu⟩ ⟨q5, pv⟩ l1 l2 fun u' v' h' tk hu hv z' TO' st1 st2 hT hsz hk => ?_
    have eu' : u' = u := by
      have : us[i]? = some u' := by simpa using hu
      rw [eu] at this; exact (Option.some.inj this).symm
    have ev' : v' = v := by
      have : vs[i]? = some v' := by simpa using hv
      rw [ev] at this; exact (Option.some.inj this).symm
    subst eu' ev'
    refine ⟨_, rfl, wpAny_letOwnedTupleGo_zip (s := { s with heap := h', toks := tk }) z' fun h2 z2 sb => ?_⟩
    have hT2 : h2.get? s.heap.objs.size = some { cls := .type "tuple", data := .seq #[u', v'] } := (sb.2 _ (Nat.ne_of_gt zl)).trans hT
    have new : ObjOk X.prog X.w (upd H s.heap.objs.size (.tup [x, y])) h2 s.heap.objs.size (.tup [x, y]) :=
      ⟨by show 2 ≤ sizeLine; decide, [u', v'], .cons wu (.cons wv .nil), ⟨_, hT2, rfl, _, rfl⟩⟩
    have I1 : Inv X pins σ (upd H s.heap.objs.size (.tup [x, y])) { s with heap := h2, toks := tk } :=
      I.turnedNew (ch := [z, TI, TO, i1, i2]) (fun c o hb q => (sb.2 c fun q' => hb (by simp [q'])).trans (hk c o (fun q' => hb (by simp [q'])) (fun q' => hb (by simp [q'])) (fun q' => hb (by simp [q'])) (fun q' => hb (by simp [q'])) q)) hf (Nat.le_refl _) new
    refine ⟨.ref s.heap.objs.size, _, I1, rfl, ⟨_, x, y, rfl, I.hok.fresh (Nat.le_refl _), rfl, fun l hl => by rw [S1.one hK I hl hx]; exact ex, fun l hl => by rw [S2.one hK I hl hy]; exact ey⟩, ⟨z2, ?_, ⟨u', v', ?_⟩, ?_, ?_⟩, fun c hcm => ?_⟩
    · exact (sb.2 _ D.TIz).trans (hk _ _ D.TIz D.TITO D.TIi1 D.TIi2 q2)
    · exact (sb.2 _ D.TOz).trans TO'
    · exact S1.at' st1.1 fun o q => (sb.2 _ D.i1z).trans q
    · exact S2.at' st2.1 fun o q => (sb.2 _ D.i2z).trans q
    · have hlt : c < s.heap.objs.size := by
        simp only [List.mem_cons, List.not_mem_nil, or_false] at hcm
        rcases hcm with e | e | e | e | e
        · rw [e]; exact zl
        · rw [e]; exact Heap.lt_size q2
        · rw [e]; exact Heap.lt_size q3
        · rw [e]; obtain ⟨_, g, _⟩ := S1.nc q4; exact Heap.lt_size g
        · rw [e]; obtain ⟨_, g, _⟩ := S2.nc q5; exact Heap.lt_size g
      rw [upd_ne (Nat.ne_of_lt hlt)]
      exact (hf c hcm).1
  done := by
    intro X hP hw hK hc i pins s σ H E I hf q hg
    subst hP hw
    obtain ⟨q1, q2, ⟨x0, y0, q3⟩, q4, q5⟩ := q
    obtain ⟨xs, ys, hx, hy, n1, n2, hend⟩ := hg
    obtain ⟨us, ru, pu⟩ := S1.go hK I hx
    obtain ⟨vs, rv, pv⟩ := S2.go hK I hy
    have l1 := ru.length
    have l2 := rv.length
    have hh : X.A.in1.handled = none := I.ok.hd hc
    exact wpAny_pyNext_zipD2_end (zipSep D e1 e2 e3) (S1.dr hh i1 a D.l1i1 us.toArray) (S2.dr hh i2 b e4 vs.toArray) q1 q2 q3 ⟨q4, pu⟩ ⟨q5, pv⟩ (by rw [List.size_toArray]; omega) (by rw [List.size_toArray]; omega) (by rw [List.size_toArray, List.size_toArray]; omega) fun h' tk hk => ⟨rfl, I.turnedL (t' := tk) (ch := [z, TI, TO, i1, i2]) (fun c o hb q =>
      hk c o (fun q' => hb (by simp [q'])) (fun q' => hb (by simp [q'])) (fun q' => hb (by simp [q'])) (fun q' => hb (by simp [q'])) q) hf⟩
  self := fun A i s Q E st h => wpAny_pyIter_zip st.1 h
end TM
set_option Elab.async false
set_option linter.all false
set_option maxRecDepth 100000
set_option maxHeartbeats 1000000
namespace TM
open PySem PySem.Spec PyProof.Rows L2
open Sem (wp)
open AutoSeq1 (wpAny_loadPart')
/-! ## zip(reversed(a list), a tuple) -/
abbrev gwT (h : Heap) (I0 : Addr) (o2 : Obj) : Heap := (h.push o2).push { cls := .type "tuple", data := .seq #[.ref I0, .ref h.objs.size] }
abbrev gwO (h : Heap) (I0 : Addr) (o2 : Obj) : Heap := (gwT h I0 o2).push { cls := .type "tuple", data := .seq #[.none, .none] }
abbrev gwZ (h : Heap) (I0 : Addr) (o2 : Obj) : Heap := (gwO h I0 o2).push { cls := .type "zip", data := .fields #[.none, .bool false, .bool false, .ref (h.push o2).objs.size, .ref (gwT h I0 o2).objs.size] }
theorem meets_zip_newW {I0 l : Addr} {i : Int} {v2 : Value} {o2 : Obj} {H2 : Heap → Prop} (B2 : Begins v2 o2 H2) :
    Meets (Builtin.«zip.__new__» ⟨[.type "zip", .ref I0, v2], []⟩) (fun _ R s => (s.heap.IsRevIter I0 l i ∧ H2 s.heap) ∧
      R (.ok (.ret (.ref (gwO s.heap I0 o2).objs.size))) { s with heap := gwZ s.heap I0 o2 }) :=
  .of_wp fun prog w A R s h => by
    obtain ⟨hp, g, d, tk, os⟩ := s; obtain ⟨⟨h1, h2⟩, h⟩ := h
    have hsub := sub_zip
    have q1 : ∀ {A' : Around} {E : Value → Shared → Prop} {Q : Value → Shared → Prop}, Q (.ref I0) ⟨hp, g, d, tk, os⟩ → wpAny (model prog w) A' (pyIter (.ref I0)) Q E ⟨hp, g, d, tk, os⟩ :=
      fun q => wpAny_pyIter_revIter h1 q
    have q2 : ∀ {A' : Around} {E : Value → Shared → Prop} {Q : Value → Shared → Prop}, Q (.ref hp.objs.size) ⟨(hp.push o2), g, d, tk, os⟩ → wpAny (model prog w) A' (pyIter v2) Q E ⟨hp, g, d, tk, os⟩ :=
      fun q => B2.iter prog w _ _ ⟨hp, g, d, tk, os⟩ _ h2 q
    wp_walk using q1, q2
    exact ⟨_, rfl, h⟩
section
variable {prog : Program} {w : World} {A : Around} {E : Value → Shared → Prop} {s : Shared}
theorem zip_beginsW {I0 l : Addr} {i : Int} {v2 : Value} {o2 : Obj} {H2 : Heap → Prop} {Q : Value → Shared → Prop} (B2 : Begins v2 o2 H2) (h1 : s.heap.IsRevIter I0 l i) (h2 : H2 s.heap)
    (h : ∀ h', IsZip h' (s.heap.objs.size + 3) (s.heap.objs.size + 1) (s.heap.objs.size + 2) .none → IsTupOf2 h' (s.heap.objs.size + 1) (.ref I0) (.ref s.heap.objs.size) →
      IsTupOf2 h' (s.heap.objs.size + 2) .none .none → h'.get? s.heap.objs.size = some o2 → h'.objs.size = s.heap.objs.size + 4 →
      (∀ c o, s.heap.get? c = some o → h'.get? c = some o) → Q (.ref (s.heap.objs.size + 3)) { s with heap := h' }) :
    wpAny (model prog w) A (call (.type "zip") [.ref I0, v2]) Q E s := by
  refine callType_new F.called_zip (by decide) (F.typeCall_zip_2 _ _) (F.newCall_zip_2 _ _) (fun obj => F.args_object_init_3 obj _ _) F.entry_zip_new
    (meets_zip_newW B2) ⟨⟨h1, h2⟩, ?_⟩
  have z2 : (s.heap.push o2).objs.size = s.heap.objs.size + 1 := by rw [Heap.size_push]
  have zT : (gwT s.heap I0 o2).objs.size = s.heap.objs.size + 2 := by rw [Heap.size_push, z2]
  have zO : (gwO s.heap I0 o2).objs.size = s.heap.objs.size + 3 := by rw [Heap.size_push, zT]
  have zZ : (gwZ s.heap I0 o2).objs.size = s.heap.objs.size + 4 := by rw [Heap.size_push, zO]
  have gZ : (gwZ s.heap I0 o2).get? (gwO s.heap I0 o2).objs.size = some { cls := .type "zip", data := .fields #[.none, .bool false, .bool false, .ref (s.heap.push o2).objs.size, .ref (gwT s.heap I0 o2).objs.size] } := Heap.get?_push_size _ rfl
  have gO : (gwZ s.heap I0 o2).get? (gwT s.heap I0 o2).objs.size = some { cls := .type "tuple", data := .seq #[.none, .none] } := Heap.get?_push_of_some _ (Heap.get?_push_size _ rfl)
  have gT : (gwZ s.heap I0 o2).get? (s.heap.push o2).objs.size = some { cls := .type "tuple", data := .seq #[.ref I0, .ref s.heap.objs.size] } := Heap.get?_push_of_some _ (Heap.get?_push_of_some _ (Heap.get?_push_size _ rfl))
  have g2 : (gwZ s.heap I0 o2).get? s.heap.objs.size = some o2 := Heap.get?_push_of_some _ (Heap.get?_push_of_some _ (Heap.get?_push_of_some _ (Heap.get?_push_size _ B2.free)))
  rw [zO, zT, z2] at gZ
  rw [zT] at gO
  rw [z2] at gT
  show _ ∧ _
  rw [zO]
  exact ⟨⟨_, gZ, rfl⟩, h _ gZ gT gO g2 zZ fun c o e => Heap.get?_push_of_some _ (Heap.get?_push_of_some _ (Heap.get?_push_of_some _ (Heap.get?_push_of_some _ e)))⟩
end
theorem zipApartW (N M a b : Nat) (hM : M < N) (ha : a < N) (hb : b < N) (na : a ≠ M) (nb : b ≠ M) : ZipApart (N + 3) (N + 1) (N + 2) M N a b := by
  have ne : ∀ {x y : Nat}, x ≠ y → @Ne Addr x y := fun h => h
  exact ⟨ne (by omega), ne (by omega), ne (by omega), ne (by omega), ne (by omega), ne (by omega), ne (by omega), ne (by omega), ne (by omega), ne (by omega), ne (by omega), ne (by omega), ne (by omega), ne (by omega), ne (by omega), ne (by omega), ne (by omega), ne (by omega)⟩
def iZipRev (K : PySem.W.Frag) (te tu : TE) : TI := fun σ H R => te σ H fun v H1 => ∃ (a : Addr) (xs : List V), v = .ref a ∧ SqL K H1 a xs.reverse ∧ tu σ H1 fun v2 H2 => ∃ (b : Addr) (ys : List V), v2 = .ref b ∧ SqL K H2 a xs.reverse ∧ SqT K H2 b ys ∧ R (ItzW (sqRev K xs.length) (sqT K) a b) H2
theorem pi_zipRev {X : Cx} {e e2 : Expr} {te tu : TE} {p p2 pos pos2 tpos : Pos} {elts : List Expr} {kk : Nat} (hg : Gl X "zip") (hm : X.mg "zip" = none) (hgr : Gl X "reversed") (hmr : X.mg "reversed" = none) (he : PE X e te) (he2 : PE X e2 tu)
    (hs : starEach [.Call (.Name "reversed" p2) [e] [] pos2, e2] X.env = (false, eval (.Call (.Name "reversed" p2) [e] [] pos2) X.env) :: starEach [e2] X.env := by rfl) (hs2 : starEach [e2] X.env = (false, eval e2 X.env) :: starEach [] X.env := by rfl) (hs3 : starEach [e] X.env = (false, eval e X.env) :: starEach [] X.env := by rfl)
    (hpl : (backTo pos (starEach [e2] X.env)).any (·.1) = false := by rfl) :
    PI X (.Tuple elts kk tpos) (.Call (.Name "zip" p) [.Call (.Name "reversed" p2) [e] [] pos2, e2] [] pos) (iZipRev X.K te tu) := by
  refine ⟨fun pins s σ H R I h => ?_⟩
  refine Call_ (ld_blt I hg hm PyProof.Rows.boot_zip (PyProof.Rows.callWith_type1 (args_cons ?_ hs) hs hpl))
  refine Call_ (ld_blt I hgr hmr PyProof.Rows.boot_reversed (PyProof.Rows.callWith_type1 (args_cons (thn (he.run pins s σ H _ I h) fun u s1 ⟨v, H1, I1, r1, q1⟩ => args_nil ?_) hs3) hs3 rfl))
  obtain ⟨a, xs, ev, hq, q⟩ := q1
  subst ev
  obtain rfl : u = Value.ref a := r1
  obtain ⟨its, rv, p', hz⟩ := I1.list hq
  refine call_reversed_list p'.isList ?_
  have I2 := ClX.pin_new (o := revObj a ((its.toArray.size : Int) - 1)) (t' := s1.toks) I1 (fun b u e => Heap.get?_push_of_some _ e) (Nat.le_refl _) (Heap.get?_push_size _ rfl) (fun v z => by cases z)
  refine args_cons (thn (he2.run _ _ σ H1 _ I2 q) fun u2 s2 ⟨v2, H2, I3, r2, q2⟩ => args_nil ?_) hs2
  obtain ⟨b, ys, ev2, hqa, hqb, q3⟩ := q2
  subst ev2
  obtain rfl : u2 = Value.ref b := r2
  have pg := ClX.pin_at I3
  have pu := ClX.pin_un I3
  have I4 := ClX.unpin I3
  obtain ⟨its2, rv2, p2', hz2⟩ := I4.list hqa
  obtain ⟨ws, _, pw⟩ := (sqT X.K).go rfl I4 hqb
  have lit : its.toArray.size = xs.length := by rw [List.size_toArray, ← rv.length, List.length_reverse]
  have hit : s2.heap.IsRevIter s1.heap.objs.size a ((its.toArray.size : Int) - 1) := ⟨_, pg, rfl, rfl⟩
  have n0 : s1.heap.objs.size < s2.heap.objs.size := Heap.lt_size pg
  have la : a < s2.heap.objs.size := by obtain ⟨o, ho, _⟩ := p2'.isList; exact Heap.lt_size ho
  have lb := (sqT X.K).lt pw
  have na : a ≠ s1.heap.objs.size := fun z => by
    obtain ⟨o, ho, hc, _⟩ := p2'.isList
    rw [z, pg] at ho
    cases ho
    exact absurd hc (by show ¬ (Value.type "list_reverseiterator" = Value.type "list"); simp)
  have nb : b ≠ s1.heap.objs.size := fun z => by
    have pw : s2.heap.IsTuple b ws.toArray := pw
    obtain ⟨o, ho, hc, _⟩ := pw
    rw [z, pg] at ho
    cases ho
    exact absurd hc (by show ¬ (Value.type "list_reverseiterator" = Value.type "tuple"); simp)
  refine zip_beginsW (begins_tuple b ws.toArray) hit pw fun h' hz hTI hTO h2 hsz hk => wpAny_pyIter_zip hz ?_
  have I5 : Inv X pins σ H2 { s2 with heap := h' } := I4.kept (t' := s2.toks) hk
  generalize hN : s2.heap.objs.size = N at *
  generalize hM : s1.heap.objs.size = M at *
  have D : ZipApart (N + 3) (N + 1) (N + 2) M N a b := zipApartW N M a b n0 la lb na nb
  refine ⟨N + 3, [N + 3, N + 1, N + 2, M, N], _, _, H2, rfl, I5, turn_zipW (sqRev X.K xs.length) (sqT X.K) D D.l2z D.l2TO D.l2i1 D.l2i2, ⟨hz, hTI, ⟨_, _, hTO⟩, ⟨Nat.zero_le _, ?_⟩, (sqT X.K).st h2⟩, fun c hcm => ?_, q3⟩
  · have := hit.at (h' := h') fun o e => hk _ _ e
    rw [lit] at this
    simpa using this
  · by_cases z : c = M
    · rw [z]; exact I1.fpOk (Nat.le_of_eq hM) pu
    · have hle : N ≤ c := by
        simp only [List.mem_cons, List.not_mem_nil, or_false] at hcm
        rcases hcm with w | w | w | w | w
        · rw [w]; exact Nat.le_add_right _ _
        · rw [w]; exact Nat.le_add_right _ _
        · rw [w]; exact Nat.le_add_right _ _
        · exact absurd w z
        · rw [w]; exact Nat.le_refl _
      exact I4.fpOk (by rw [hN]; exact hle) (I4.hok.fresh (by rw [hN]; exact hle))
/-! ### in the typed layer -/
theorem paired_rv {α : Type} {F : V → α → Prop} {vs : List V} {xs : List α} (h : Paired F vs xs) : Paired F vs.reverse xs.reverse := by
  induction h with
  | nil => exact .nil
  | cons a r ih => rw [List.reverse_cons, List.reverse_cons]; exact paired_app ih (.cons a .nil)
section
variable {X : Cx} {Γ : List SP} {α β : Type} {a b : Expr} {pos : Pos}
theorem xi_zipRev {Ma : Mp (List α)} {Mb : Mp (List β)} {ra : RT α} {rb : RT β} {p p2 pos2 tpos : Pos} {elts : List Expr} {kk : Nat} (hm : X.mg "zip" = none) (hmr : X.mg "reversed" = none) (ha : XP X Γ a Ma (rL ra)) (hb : XP X Γ b Mb (rT rb))
    (hg : Gl X "zip" := by rfl) (hgr : Gl X "reversed" := by rfl) (h1 : starEach [.Call (.Name "reversed" p2) [a] [] pos2, b] X.env = (false, eval (.Call (.Name "reversed" p2) [a] [] pos2) X.env) :: starEach [b] X.env := by rfl) (h2 : starEach [b] X.env = (false, eval b X.env) :: starEach [] X.env := by rfl)
    (h3 : starEach [a] X.env = (false, eval a X.env) :: starEach [] X.env := by rfl) (hpl : (backTo pos (starEach [b] X.env)).any (·.1) = false := by rfl) :
    XI X Γ (.Tuple elts kk tpos) (.Call (.Name "zip" p) [.Call (.Name "reversed" p2) [a] [] pos2, b] [] pos) (fun P => Ma fun xs => Mb fun ys => P (xs.reverse.zip ys)) (rP ra rb) := by
  obtain ⟨t, pp, q⟩ := ha
  obtain ⟨u, pp2, q2⟩ := hb
  refine ⟨_, pi_zipRev hg hm hgr hmr pp pp2 h1 h2 h3 hpl, fun σ W k g Q P m h => q σ W k g _ _ m fun xs v W1 m1 k1 s1 g1 ⟨pa', vs0, e1, hh1, pr0⟩ => ?_⟩
  have pr1 := paired_rv pr0
  obtain ⟨vs, hv⟩ : ∃ vs : List V, vs0 = vs.reverse := ⟨vs0.reverse, (List.reverse_reverse _).symm⟩
  subst hv
  rw [List.reverse_reverse] at pr1
  refine ⟨pa', vs, e1, sql_of (k1.ex _ _ hh1), ?_⟩
  refine q2 σ W1 k1 g1 _ _ m1 fun ys v2 W2 m2 k2 s2 g2 ⟨pb', ws, e2, hh2, pr2⟩ => ?_
  have hh1' := s2.hc _ _ hh1
  have pr1 := pmap pr1 fun _ _ => ra.mono s2.hc
  have n0 := pr1.length
  refine ⟨pb', ws, e2, sql_of (k2.ex _ _ hh1'), sqt_of (k2.ex _ _ hh2), h _ _ W2 m2 k2 (s1.trans s2) g2 fun W3 k3 s3 => ?_⟩
  have l1 : (sqRev X.K vs.length).ok W3.H pa' vs := ⟨rfl, sql_of (k3.ex _ _ (s3.hc _ _ hh1'))⟩
  have l2 : (sqT X.K).ok W3.H pb' ws := sqt_of (k3.ex _ _ (s3.hc _ _ hh2))
  generalize xs.reverse = zs at *
  have n1 := pr1.length
  have n2 := pr2.length
  have at_ : ∀ i, i < (zs.zip ys).length → ∃ x y x' y', vs[i]? = some x ∧ ws[i]? = some y ∧ (zs.zip ys)[i]? = some (x', y') ∧ ra.ok W2.Hc x x' ∧ rb.ok W2.Hc y y' := fun i hi => by
    rw [List.length_zip] at hi
    obtain ⟨x, x', a1, a2, a3⟩ := paired_get (i := i) pr1 (by omega)
    obtain ⟨y, y', b1, b2, b3⟩ := paired_get (i := i) pr2 (by omega)
    exact ⟨x, y, x', y', a1, b1, by rw [List.getElem?_zip_eq_some]; exact ⟨a2, b2⟩, a3, b3⟩
  refine ⟨fun i hi => ?_, fun i w H' hi y => ?_, ⟨vs, ws, l1, l2, ?_, ?_, ?_⟩⟩
  · obtain ⟨x, y, _, _, c1, c2, _⟩ := at_ i hi
    exact ⟨vs, ws, x, y, l1, l2, c1, c2⟩
  · obtain ⟨x, y', x2, y2, c1, c2, c3, c4, c5⟩ := at_ i hi
    obtain ⟨T, x0, y0, rfl, nT, rfl, d1, d2⟩ := y
    have f1 := (d1 vs l1).symm.trans c1
    have f2 := (d2 ws l2).symm.trans c2
    cases f1
    cases f2
    have gg := grow_add (o := .tup [x, y']) k3 nT
    exact ⟨W3.add T (.tup [x, y']), (x2, y2), c3, rfl, k3.add nT, gg, T, x, y', rfl, upd_same, ra.mono gg.hc (ra.mono s3.hc c4), rb.mono gg.hc (rb.mono s3.hc c5)⟩
  · rw [List.length_zip]; omega
  · rw [List.length_zip]; omega
  · rw [List.length_zip]; omega
end
end TM
set_option Elab.async false
set_option linter.all false
set_option maxRecDepth 100000
set_option maxHeartbeats 1000000
namespace TM
open PySem PySem.Spec PyProof.Rows L2 PySem.W PySem.SeqAt
/-! ## sorted(..) of lists of data, of sets of tuples of ints -/
section
variable {α β : Type}
theorem each_vals {ps : List (V × α)} {out : List Value} (h : EachIs (fun (u : Value) (p : V × α) => RelV p.1 u) out ps) : Vals (ps.map (·.1)) out := by
  induction h with
  | nil => exact .nil
  | cons h1 _ ih => exact .cons h1 ih
theorem vals_each : ∀ {ps : List (V × α)} {out : List Value}, Vals (ps.map (·.1)) out → EachIs (fun (u : Value) (p : V × α) => RelV p.1 u) out ps
  | [], _, .nil => .nil
  | _ :: _, _, .cons h t => .cons h (vals_each t)
/-- sorted(xs), xs a list of things that stand for data -/
def rSortD (K : PySem.W.Frag) (dd : α → PyData) : List V → Hp → VK → Prop := fun vs H Q => ∃ (a : Addr) (ps : List (V × α)), vs = [V.ref a] ∧ SqL K H a (ps.map (·.1)) ∧ (∀ p ∈ ps, Dp K H p.1 (dd p.2)) ∧ (∀ x y, alike (dd x) (dd y) = true) ∧ Sortable (ps.map fun p => dd p.2) ∧ (∀ x, (dd x).depth ≤ 60) ∧
  ∀ p, H p = none → Q (.ref p) (upd H p (.lst ((ps.mergeSort (dataLe false fun q : V × α => dd q.2)).map (·.1))))
theorem cr_sortD {X : Cx} {dd : α → PyData} (hu : X.A.units + 64 < cLine) : CallR X (.builtin "sorted") (rSortD X.K dd) := by
  intro pins s σ H vs us Q I r h
  obtain ⟨a, ps, rfl, hs, hd, hal, hk, hdp, q⟩ := h
  obtain ⟨its, rv, hl, hz⟩ := I.list hs
  rw [Vals.ref1 r]
  have e := vals_each rv
  have el : its.length = ps.length := e.length
  have er : ∀ {ps : List (V × α)} {its : List Value}, (∀ p ∈ ps, Dp X.K H p.1 (dd p.2)) → EachIs (fun (u : Value) (p : V × α) => RelV p.1 u) its ps → EachIs (fun v (b : V × α) => ∃ as, Reads s.heap v (dd b.2) as) its ps := by
    intro ps its hd e
    induction e with
    | nil => exact .nil
    | @cons u p us ps h1 _ ih => exact .cons (Dp.reads I _ _ _ (hd p List.mem_cons_self) h1) (ih fun z m => hd z (List.mem_cons_of_mem _ m))
  refine sorted_data (R := fun (u : Value) (p : V × α) => RelV p.1 u) (enc := fun p : V × α => dd p.2) hl.isList e (er hd e) (AllAlike.of fun b b' => hal _ _) hk (by rw [List.length_map] at hz; exact hz) (fun b _ => by have := hdp b.2; omega) fun out ho eo => ?_
  obtain ⟨ep, he'⟩ := PyProof.Rows.sortedAll_at s.heap its out.toArray
  have hlen : ((ps.mergeSort (dataLe false fun q : V × α => dd q.2)).map (·.1)).length ≤ sizeLine := by rw [List.length_map, List.length_mergeSort]; rw [List.length_map] at hz; exact hz
  exact ⟨.ref _, upd H (s.heap.objs.size + 1) (.lst ((ps.mergeSort (dataLe false fun q : V × α => dd q.2)).map (·.1))), I.laid (t' := s.toks) (fun _ _ => PyProof.Rows.sortedAll_old) (Nat.le_succ _) ⟨hlen, out, ep, each_vals eo, he'⟩, rfl, q _ (I.hok.fresh (Nat.le_succ _))⟩
theorem zip_pair {F : V → α → Prop} : ∀ {vs : List V} {xs : List α}, Paired F vs xs → ∃ ps : List (V × α), ps.map (·.1) = vs ∧ ps.map (·.2) = xs ∧ ∀ p ∈ ps, F p.1 p.2
  | _, _, .nil => ⟨[], rfl, rfl, fun p m => by cases m⟩
  | _, _, .cons (a := v) (b := x) h t => by
    obtain ⟨ps, e1, e2, e3⟩ := zip_pair t
    refine ⟨(v, x) :: ps, by rw [List.map_cons, e1], by rw [List.map_cons, e2], fun p m => ?_⟩
    rcases List.mem_cons.mp m with rfl | m
    · exact h
    · exact e3 p m
theorem pair_zip {F : V → α → Prop} : ∀ {ps : List (V × α)}, (∀ p ∈ ps, F p.1 p.2) → Paired F (ps.map (·.1)) (ps.map (·.2))
  | [], _ => .nil
  | p :: ps, h => .cons (h p List.mem_cons_self) (pair_zip fun q m => h q (List.mem_cons_of_mem _ m))
theorem dle {r : RT α} {D : DatR r} (O : OrdR D) (x y : α) : (dataLe false D.d) x y = !O.lt y x := by
  show (!dataLt (D.d y) (D.d x)) = _
  rw [O.eq]
variable {X : Cx} {Γ Δ : List SP} {e : Expr} {pos : Pos}
theorem merge_srt {r : RT α} {D : DatR r} (O : OrdR D) (ps : List (V × α)) : ((ps.mergeSort (dataLe false fun q : V × α => D.d q.2)).map (·.2)).Pairwise (fun x y => O.lt y x = false) := by
  rw [List.pairwise_map]
  have T := sortLe_total (listOrd itemOrd) false fun q : V × α => keyToks (D.d q.2)
  refine (List.pairwise_mergeSort (le := dataLe false fun q : V × α => D.d q.2) (fun a b c h1 h2 => T.trans a b c h1 h2) (fun a b => by
    have := T.total a b
    rcases this with h | h
    · rw [show (dataLe false fun q : V × α => D.d q.2) a b = true from h]; rfl
    · rw [show (dataLe false fun q : V × α => D.d q.2) b a = true from h, Bool.or_true]) ps).imp fun {a b} h => ?_
  have h : (!dataLt (D.d b.2) (D.d a.2)) = true := h
  rw [O.eq] at h
  cases z : O.lt b.2 a.2 with
  | false => rfl
  | true => rw [z] at h; cases h
theorem xn_sortD {p : Pos} {M : Mp (List α)} {r : RT α} {D : DatR r} (O : OrdR D) (hn : D.n ≤ 60) (hu : X.A.units + 64 < cLine) (hm : X.mg "sorted" = none) (ha : XB X Γ e M r) (hg : Gl X "sorted" := by rfl) (h1 : starEach [e] X.env = (false, eval e X.env) :: starEach [] X.env := by rfl) :
    XN X Γ (.Call (.Name "sorted" p) [e] [] pos) (fun P => M fun xs => Sortable (xs.map D.d) ∧ ∀ ys : List α, ys.Perm xs → ys.Pairwise (fun x y => O.lt y x = false) → P ys) r := by
  obtain ⟨t, pp, q⟩ := ha
  refine ⟨_, pe_callB (cr_sortD (dd := D.d) hu) hg hm (by with_unfolding_all rfl) (pa_cons pp pa_nil h1) (by decide) (by decide) h1, fun σ W k s Q P m h => ?_⟩
  refine q σ W k s _ _ m fun xs v W1 ⟨m1, m2⟩ k1 s1 g1 r1 => ?_
  obtain ⟨u, vs, ev, hh, pr⟩ := r1 W1 k1 (Step.refl W1) g1
  obtain ⟨ps, e1, e2, e3⟩ := zip_pair pr
  refine ⟨u, ps, by rw [ev], by rw [e1]; exact sql_of hh, fun p mp => D.ok X.K _ _ _ (r.mono k1.ex (e3 p mp)), O.al, by rw [← e2, List.map_map] at m1; exact m1, fun x => Nat.le_trans (D.dep x) hn, fun l nl => ?_⟩
  have g := grow_lay (W := W1) (o := .lst ((ps.mergeSort (dataLe false fun q : V × α => D.d q.2)).map (·.1))) nl
  have prm : ((ps.mergeSort (dataLe false fun q : V × α => D.d q.2)).map fun p : V × α => p.2).Perm xs := by
    rw [← e2]
    exact (List.mergeSort_perm _ _).map _
  have prd : Paired (r.ok W1.Hc) ((ps.mergeSort (dataLe false fun q : V × α => D.d q.2)).map fun p : V × α => p.1) ((ps.mergeSort (dataLe false fun q : V × α => D.d q.2)).map fun p : V × α => p.2) := pair_zip fun p mp => e3 p (List.mem_mergeSort.mp mp)
  exact h _ l _ (W1.lay l _) (m2 _ prm (merge_srt O ps)) (k1.lay nl) (s1.trans g.step) (g1.up (g.up k1)) (fresh_of s1 nl) (k1.none_of nl) (k1.free nl) upd_same prd
end
end TM
set_option Elab.async false
set_option linter.all false
set_option maxRecDepth 100000
set_option maxHeartbeats 1000000
namespace TM
open PySem PySem.Spec PyProof.Rows L2 PySem.W PySem.SeqAt
/-! ## sorted(set(xs)), xs a list of tuples of ints -/
abbrev tI (k : List Int) : PyData := .tuple (k.map .int)
theorem ra_ints {P : Program} {w : World} {h : Heap} {k : List Int} {vs : List Value} (x : ItemsAre (intKind P w) k vs) : ReadsAll h vs (k.map .int) [] := by
  induction x with
  | nil => exact .nil
  | @cons k0 v ks vs h1 _ ih =>
    obtain ⟨t, rfl⟩ := Value.isInt_shape h1
    exact .cons (.int _ _) ih
theorem reads_isT {P : Program} {w : World} {h : Heap} {k : List Int} {b : Addr} (x : IsT P w h k b) : Reads h (.ref b) (tI k) [] := by
  obtain ⟨o, items, n, ho, hc, hd, hi⟩ := x
  exact .tuple ho hc hd (ra_ints hi)
theorem dep_tI (k : List Int) : (tI k).depth = 1 := by
  show (PyData.tuple _).depth = 1
  rw [PyData.depth, depth_ints]
theorem refs_list {P : Program} {w : World} {h : Heap} {L : List (Addr × List Int)} : ∀ vs : List Value, (∀ v ∈ vs, ∃ q ∈ L, v = Value.ref q.1) → ∃ L1 : List (Addr × List Int), vs = L1.map (fun q => Value.ref q.1) ∧ ∀ q ∈ L1, q ∈ L
  | [], _ => ⟨[], rfl, fun q hq => by cases hq⟩
  | v :: vs, hv => by
    obtain ⟨q, hq, e⟩ := hv v List.mem_cons_self
    obtain ⟨L1, e1, hs⟩ := refs_list (P := P) (w := w) (h := h) vs fun u hu => hv u (List.mem_cons_of_mem _ hu)
    refine ⟨q :: L1, by rw [List.map_cons, e, e1], fun r hr => ?_⟩
    rcases List.mem_cons.mp hr with z | z
    · rw [z]; exact hq
    · exact hs r z
section
variable {P : Program} {w : World} {A : Around} {E : Value → Shared → Prop} {s : Shared}
theorem sorted_setO {a : Addr} {L : List (Addr × List Int)} {es : Array (Int × Value)} {ep : Nat} {t : SetTable} {Q : Value → Shared → Prop} (R : SetTR P w s.heap a L es ep t) (hh : A.handled = none) (hu : A.units + 64 < cLine) (hk : Sortable (L.map fun q => tI q.2))
    (hQ : ∀ s' p (out : Array Value) (c : Nat) (L' : List (Addr × List Int)), (∀ b o, s.heap.get? b = some o → s'.heap.get? b = some o) → s'.gens = s.gens → s'.os = s.os → s.heap.objs.size ≤ p →
      s'.heap.get? p = some (seqObj "list" out c) → out.toList = L'.map (fun q => Value.ref q.1) → L'.Perm L → L'.Pairwise (fun q r => dataLt (tI r.2) (tI q.2) = false) → Q (.ref p) s') :
    wpAny (model P w) A (call (.builtin "sorted") [.ref a]) Q E s := by
  obtain ⟨o, ho, hex, hd⟩ := R.ob
  have hsz := R.size
  have hfew := R.few
  refine Calls.call_function_entry kind_sorted plain_sorted entry_sorted (args_sorted1 _) ?_
  unfold Builtin.«sorted»
  refine wpAny_bind (m := checkCount "sorted" 1 1 _) (wpAny_pure ?_)
  refine wpAny_bind (collect_set (A := A.in1) hh ⟨o, ho, hex.1, hd⟩ R.fits (by unfold scanBound; omega) R.tab.ris R.led fun s1 vs k1 hz g1 o1 pm => ?_)
  have hes : es.toList.map (·.2) = L.map fun q => Value.ref q.1 := by
    rw [R.rows]
    unfold L2.rowsOf
    rw [List.map_map] <;> rfl
  rw [hes] at pm
  have one : ∀ q ∈ L, ∀ r ∈ L, q.1 = r.1 → q = r := fun q hq r hr e => by
    have a1 := R.tup q hq
    have a2 := R.tup r hr
    rw [e] at a1
    have e2 : q.2 = r.2 := a1.inj a2
    exact Prod.ext e e2
  have perm_of : ∀ L1 : List (Addr × List Int), (∀ q ∈ L1, q ∈ L) → (L1.map (fun q => Value.ref q.1)).Perm (L.map fun q => Value.ref q.1) → L1.Perm L := by
    intro L1 hs pm1
    have nL : L.Nodup := nodup_of_map R.nd
    have nref : (L.map fun q => Value.ref q.1).Nodup := by
      refine List.pairwise_map.mpr (List.Pairwise.imp_of_mem (fun {q r} hq hr hne e => ?_) nL)
      injection e with e
      exact hne (one q hq r hr e)
    have n1 : L1.Nodup := nodup_of_map (pm1.nodup_iff.mpr nref)
    refine (List.perm_ext_iff_of_nodup n1 nL).mpr fun q => ⟨hs q, fun hq => ?_⟩
    have hm : Value.ref q.1 ∈ L1.map (fun q => Value.ref q.1) := pm1.mem_iff.mpr (List.mem_map.mpr ⟨q, hq, rfl⟩)
    obtain ⟨r, hr, e⟩ := List.mem_map.mp hm
    injection e with e
    rw [← one r (hs r hr) q hq e]
    exact hr
  have hvl : vs.length < 64 := by rw [pm.length_eq, List.length_map]; exact hfew
  refine wpAny_bind (wpAny_newList ?_ (by rw [sizeLine_eq]; omega))
  have hoL : (s1.heap.push (seqObj "list" vs.toArray 0)).get? s1.heap.objs.size = some (seqObj "list" vs.toArray 0) := Heap.get?_push_size _ rfl
  obtain ⟨L1, e1, hs1⟩ := refs_list (P := P) (w := w) (h := s1.heap) (L := L) vs fun v hv => by
    obtain ⟨q, hq, e⟩ := List.mem_map.mp (pm.mem_iff.mp hv)
    exact ⟨q, hq, e.symm⟩
  have pL1 : L1.Perm L := perm_of L1 hs1 (by rw [← e1]; exact pm)
  have ei : ∀ {L1 : List (Addr × List Int)}, EachIs (fun (v : Value) (q : Addr × List Int) => v = Value.ref q.1) (L1.map fun q => Value.ref q.1) L1 := by
    intro L1
    induction L1 with
    | nil => exact .nil
    | cons q L1 ih => exact .cons rfl ih
  have er : ∀ {L1 : List (Addr × List Int)}, (∀ q ∈ L1, q ∈ L) → EachIs (fun (v : Value) (q : Addr × List Int) => ∃ as, Reads (s1.heap.push (seqObj "list" vs.toArray 0)) v (tI q.2) as ∧ s1.heap.objs.size ∉ as) (L1.map fun q => Value.ref q.1) L1 := by
    intro L1 hs
    induction L1 with
    | nil => exact .nil
    | cons q L1 ih =>
      refine .cons ⟨[], reads_isT (P := P) (w := w) (isT_keep (R.tup q (hs q List.mem_cons_self)) fun b u e => Heap.get?_push_of_some _ (k1 b u e)), by simp⟩ (ih fun r hr => hs r (List.mem_cons_of_mem _ hr))
  have eiv : vs = L1.map (fun q => Value.ref q.1) → EachIs (fun (v : Value) (q : Addr × List Int) => v = Value.ref q.1) vs L1 := fun e => by
    have := ei (L1 := L1)
    rw [← e] at this; exact this
  have erv : vs = L1.map (fun q => Value.ref q.1) → EachIs (fun (v : Value) (q : Addr × List Int) => ∃ as, Reads (s1.heap.push (seqObj "list" vs.toArray 0)) v (tI q.2) as ∧ s1.heap.objs.size ∉ as) vs L1 := fun e => by
    have h := er hs1
    revert h
    generalize s1.heap.push (seqObj "list" vs.toArray 0) = hp
    rw [← e]
    exact fun h => h
  have hk1 : Sortable (L1.map fun q => tI q.2) := by
    rcases hk with hk | hk
    · refine .inl fun d hd => ?_
      obtain ⟨q, hq, rfl⟩ := List.mem_map.mp hd
      exact hk _ (List.mem_map.mpr ⟨q, hs1 q hq, rfl⟩)
    · refine .inr fun d hd => ?_
      obtain ⟨q, hq, rfl⟩ := List.mem_map.mp hd
      exact hk _ (List.mem_map.mpr ⟨q, hs1 q hq, rfl⟩)
  refine wpAny_bind (wpAny_holding (list_sort_data (s := { s1 with heap := s1.heap.push (seqObj "list" vs.toArray 0) }) (R := fun (v : Value) (q : Addr × List Int) => v = Value.ref q.1) (enc := fun q : Addr × List Int => tI q.2) (bs := L1) hoL (eiv e1) (erv e1) (AllAlike.of fun b b' => by show alike (.tuple _) (.tuple _) = true; rw [alike]; exact alike_ints _ _) hk1 (by
      have : L1.length = vs.length := by rw [e1, List.length_map]
      rw [sizeLine_eq]; omega) (fun b _ => by rw [dep_tI]; show A.units + 1 + 1 + 1 < cLine; omega) fun out a1 a2 => ?_))
  obtain ⟨c, hc⟩ := sortedHeap_at (vs := vs) (out := out.toArray) hoL
  have eo : ∀ {out : List Value} {M : List (Addr × List Int)}, EachIs (fun (v : Value) (q : Addr × List Int) => v = Value.ref q.1) out M → out = M.map fun q => Value.ref q.1 := by
    intro out M h
    induction h with
    | nil => rfl
    | cons h _ ih => rw [List.map_cons, ← ih, h]
  have pw : (L1.mergeSort (dataLe false fun q : Addr × List Int => tI q.2)).Pairwise (fun q r => dataLt (tI r.2) (tI q.2) = false) := by
    have T := sortLe_total (listOrd itemOrd) false fun q : Addr × List Int => keyToks (tI q.2)
    refine (List.pairwise_mergeSort (le := dataLe false fun q : Addr × List Int => tI q.2) (fun a b c h1 h2 => T.trans a b c h1 h2) (fun a b => by
      rcases T.total a b with h | h
      · rw [show (dataLe false fun q : Addr × List Int => tI q.2) a b = true from h]; rfl
      · rw [show (dataLe false fun q : Addr × List Int => tI q.2) b a = true from h, Bool.or_true]) L1).imp fun {a b} h => ?_
    have h : (!dataLt (tI b.2) (tI a.2)) = true := h
    cases z : dataLt (tI b.2) (tI a.2) with
    | false => rfl
    | true => rw [z] at h; cases h
  refine wpAny_pure ⟨_, rfl, hQ _ s1.heap.objs.size out.toArray c (L1.mergeSort (dataLe false fun q : Addr × List Int => tI q.2)) (fun b u e => ?_) g1 o1 hz hc (eo a2) ((List.mergeSort_perm _ _).trans pL1) pw⟩
  have q := k1 b u e
  have hlt := Heap.lt_size q
  show (sortedHeap (s1.heap.push (seqObj "list" vs.toArray 0)) s1.heap.objs.size vs out.toArray).get? b = some u
  rw [sortedHeap_old (Nat.ne_of_lt hlt) (by rw [size_push']; exact Nat.lt_succ_of_lt hlt)]
  exact Heap.get?_push_of_some _ q
end
def rSortSet (K : PySem.W.Frag) (P : Program) (w : World) : List V → Hp → VK → Prop := fun vs H Q => ∃ (a : Addr) (L : List (Addr × List Int)), vs = [V.ref a] ∧ H a = some (SetTO P w a L) ∧ (∀ p ∈ L, SqT K H p.1 (p.2.map V.int)) ∧ Sortable (L.map fun q => tI q.2) ∧
  ∀ (L' : List (Addr × List Int)) (p : Addr), L'.Perm L → (L'.map (·.2)).Nodup → L'.Pairwise (fun q r => dataLt (tI r.2) (tI q.2) = false) → H p = none → Q (.ref p) (upd H p (.lst (L'.map fun q => V.ref q.1)))
theorem cr_sortSet {X : Cx} (hc : X.calm = true) (hu : X.A.units + 64 < cLine) : CallR X (.builtin "sorted") (rSortSet X.K X.prog X.w) := by
  intro pins s σ H vs us Q I r h
  obtain ⟨a, L, rfl, ha, hk, hB, q⟩ := h
  have R0 : SetT0 X.prog X.w s.heap a L := (I.hok a _ ha).1
  obtain ⟨es, ep, t, R⟩ := R0.full fun p hp => I.isT (hk p hp)
  rw [Vals.ref1 r]
  refine sorted_setO R (I.ok.hd hc) hu hB fun s' p out c L' k g o hp hg hout pm pw => ?_
  have hfew : L'.length < 64 := by rw [pm.length_eq]; exact R.few
  have hlen : (L'.map fun q => V.ref q.1).length ≤ sizeLine := by rw [List.length_map, sizeLine_eq]; omega
  have hn : H p = none := I.hok.fresh hp
  have hv : Vals (L'.map fun q => V.ref q.1) out.toList := by rw [hout]; exact vals_of_refs L'
  have J : Inv X pins σ (upd H p (.lst (L'.map fun q => V.ref q.1))) { s with heap := s'.heap, gens := s'.gens, drawn := s'.drawn, toks := s'.toks } :=
    I.call (ch := []) (Un.laid k hp hn) (I.hok.laid k hp ⟨hlen, out.toList, c, hv, hg⟩) (by rw [g]; exact I.bare) (fun _ z => nomatch z)
  have e : s' = { s with heap := s'.heap, gens := s'.gens, drawn := s'.drawn, toks := s'.toks } := by
    cases s'
    cases s
    cases o
    rfl
  rw [e]
  exact ⟨.ref p, _, J, rfl, q L' p pm ((pm.map (·.2)).nodup_iff.mpr R.nd) pw hn⟩
/-- things that are tuples of ints -/
structure IvR {α : Type} {r : RT α} (D : DatR r) where
  iv : α → List Int
  inj : ∀ x y, iv x = iv y → x = y
  ok : ∀ {K : PySem.W.Frag} {H : Hp} {v : V} {x : α}, r.ok H v x → ∃ b, v = .ref b ∧ SqT K H b ((iv x).map V.int)
  dd : ∀ x, D.d x = tI (iv x)
def ivT : IvR (dT dInt) := ⟨fun x => x, fun _ _ e => e, fun {K H v x} ⟨b, vs, e, h, pr⟩ => ⟨b, e, by rw [← vs_int pr]; exact sqt_of h⟩, fun x => rfl⟩
def ivP : IvR (dP dInt dInt) := ⟨fun x => [x.1, x.2], fun x y e => by
  injection e with e1 e2
  injection e2 with e2 _
  exact Prod.ext e1 e2, fun {K H v x} ⟨b, u, w, e, h, h1, h2⟩ => ⟨b, e, by
    have h1 : u = .int x.1 := h1
    have h2 : w = .int x.2 := h2
    subst h1 h2
    exact sqt_of h⟩, fun x => rfl⟩
section
variable {X : Cx} {Γ : List SP} {α : Type} {e : Expr} {pos : Pos}
theorem ivs_of {r : RT α} {D : DatR r} (V' : IvR D) {K : PySem.W.Frag} {H : Hp} : ∀ {vs : List V} {xs : List α}, Paired (r.ok H) vs xs → ∃ qs : List (Addr × α), vs = qs.map (fun q => V.ref q.1) ∧ xs = qs.map (·.2) ∧ ∀ q ∈ qs, SqT K H q.1 ((V'.iv q.2).map V.int) ∧ r.ok H (.ref q.1) q.2
  | _, _, .nil => ⟨[], rfl, rfl, fun q m => by cases m⟩
  | _, _, .cons (b := x) h t => by
    obtain ⟨b, rfl, hb⟩ := V'.ok (K := K) h
    obtain ⟨qs, e1, e2, e3⟩ := ivs_of V' t
    refine ⟨(b, x) :: qs, by rw [List.map_cons, e1], by rw [List.map_cons, e2], fun q m => ?_⟩
    rcases List.mem_cons.mp m with rfl | m
    · exact ⟨hb, h⟩
    · exact e3 q m
theorem pick_of {β γ : Type} {f : β → γ} {qs : List β} : ∀ (L : List γ), (∀ p ∈ L, p ∈ qs.map f) → ∃ qs' : List β, L = qs'.map f ∧ ∀ q ∈ qs', q ∈ qs
  | [], _ => ⟨[], rfl, fun q m => by cases m⟩
  | p :: L, h => by
    obtain ⟨q, hq, e⟩ := List.mem_map.mp (h p List.mem_cons_self)
    obtain ⟨qs', e1, e2⟩ := pick_of L fun z m => h z (List.mem_cons_of_mem _ m)
    refine ⟨q :: qs', by rw [List.map_cons, e, e1], fun z m => ?_⟩
    rcases List.mem_cons.mp m with rfl | m
    · exact hq
    · exact e2 z m
/-- sorted(set(xs)) -/
theorem xn_sortSet {p p2 pos2 : Pos} {M : Mp (List α)} {r : RT α} {D : DatR r} (O : OrdR D) (V' : IvR D) (hcalm : X.calm = true) (hu : X.A.units + 64 < cLine) (hm : X.mg "sorted" = none) (hm2 : X.mg "set" = none) (ha : XB X Γ e M r) (hg : Gl X "sorted" := by rfl) (hg2 : Gl X "set" := by rfl) (h1 : starEach [e] X.env = (false, eval e X.env) :: starEach [] X.env := by rfl)
    (h2 : starEach [.Call (.Name "set" p2) [e] [] pos2] X.env = (false, eval (.Call (.Name "set" p2) [e] [] pos2) X.env) :: starEach [] X.env := by rfl) :
    XN X Γ (.Call (.Name "sorted" p) [.Call (.Name "set" p2) [e] [] pos2] [] pos) (fun P => M fun xs => (xs.length < 64 ∧ Sortable (xs.map D.d)) ∧ ∀ ys : List α, ys.Nodup → (∀ x, x ∈ ys ↔ x ∈ xs) → ys.Pairwise (fun x y => O.lt y x = false) → P ys) r := by
  obtain ⟨t, pp, q⟩ := ha
  refine ⟨_, pe_callB (cr_sortSet hcalm hu) hg hm (by with_unfolding_all rfl) (pa_cons (pe_callTy (cr_setOfT hcalm hu) hg2 hm2 (by with_unfolding_all rfl) (pa_cons pp pa_nil h1) (by decide) (by decide) h1) pa_nil h2) (by decide) (by decide) h2, fun σ W k s Q P m h => ?_⟩
  refine q σ W k s _ _ m fun xs v W1 ⟨⟨m1, m2⟩, m3⟩ k1 s1 g1 r1 => ?_
  obtain ⟨u, vs, ev, hh, pr⟩ := r1 W1 k1 (Step.refl W1) g1
  obtain ⟨qs, e1, e2, e3⟩ := ivs_of V' (K := X.K) pr
  have ek : (qs.map fun q : Addr × α => (q.1, V'.iv q.2)).map (fun p : Addr × List Int => V.ref p.1) = vs := by rw [e1, List.map_map]; rfl
  refine ⟨u, qs.map fun q => (q.1, V'.iv q.2), by rw [ev], by rw [ek]; exact sql_of hh, fun p mp => ?_, by rw [List.length_map]; rw [e2, List.length_map] at m1; exact m1, fun a L na hL1 hL2 => ?_⟩
  · obtain ⟨z, hz, rfl⟩ := List.mem_map.mp mp
    exact ex_sqt k1.ex (e3 z hz).1
  · have ga := grow_lay (W := W1) (o := SetTO X.prog X.w a L) na
    obtain ⟨ps, ep, hps⟩ := pick_of L hL1
    refine ⟨a, L, rfl, upd_same, fun p mp => ?_, ?_, fun L' l pm nd pw nl => ?_⟩
    · obtain ⟨z, hz, rfl⟩ := List.mem_map.mp (hL1 p mp)
      exact ex_sqt (ga.keep) (ex_sqt k1.ex (e3 z hz).1)
    · rcases m2 with hk | hk
      · refine .inl fun d hd => ?_
        obtain ⟨z, hz, rfl⟩ := List.mem_map.mp hd
        obtain ⟨y, hy, rfl⟩ := List.mem_map.mp (hL1 z hz)
        have := hk (D.d y.2) (List.mem_map.mpr ⟨y.2, by rw [e2]; exact List.mem_map.mpr ⟨y, hy, rfl⟩, rfl⟩)
        rw [V'.dd] at this
        exact this
      · refine .inr fun d hd => ?_
        obtain ⟨z, hz, rfl⟩ := List.mem_map.mp hd
        obtain ⟨y, hy, rfl⟩ := List.mem_map.mp (hL1 z hz)
        have := hk (D.d y.2) (List.mem_map.mpr ⟨y.2, by rw [e2]; exact List.mem_map.mpr ⟨y, hy, rfl⟩, rfl⟩)
        rw [V'.dd] at this
        exact this
    · obtain ⟨ps', ep', hps'⟩ := pick_of L' fun p mp => hL1 p (pm.mem_iff.mp mp)
      have ka := k1.lay (o := SetTO X.prog X.w a L) na
      have gl := grow_lay (W := W1.lay a (SetTO X.prog X.w a L)) (o := .lst (L'.map fun q => V.ref q.1)) nl
      have eh : L'.map (fun q => V.ref q.1) = ps'.map fun q => V.ref q.1 := by rw [ep', List.map_map]; rfl
      have prd : Paired (r.ok W1.Hc) (L'.map fun q => V.ref q.1) (ps'.map fun q : Addr × α => q.2) := by
        rw [eh]
        have gen : ∀ l : List (Addr × α), (∀ q ∈ l, r.ok W1.Hc (.ref q.1) q.2) → Paired (r.ok W1.Hc) (l.map fun q => V.ref q.1) (l.map (·.2)) := by
          intro l
          induction l with
          | nil => intro _; exact .nil
          | cons q l ih => intro hq; exact .cons (hq q List.mem_cons_self) (ih fun z m => hq z (List.mem_cons_of_mem _ m))
        exact gen ps' fun q hq => (e3 q (hps' q hq)).2
      refine h (ps'.map fun q : Addr × α => q.2) l _ ((W1.lay a _).lay l _) (m3 _ ?_ ?_ ?_) (ka.lay nl) (s1.trans (ga.step.trans gl.step)) ((g1.up (ga.up k1)).up (gl.up ka)) ?_ ?_ ?_ upd_same prd
      · rw [ep', List.map_map] at nd
        have nd : (ps'.map fun q => V'.iv q.2).Nodup := nd
        rw [show (ps'.map fun q => V'.iv q.2) = (ps'.map (·.2)).map V'.iv by rw [List.map_map]; rfl] at nd
        exact nodup_of_map nd
      · intro x
        constructor
        · intro hx
          obtain ⟨q, hq, rfl⟩ := List.mem_map.mp hx
          rw [e2]
          exact List.mem_map.mpr ⟨q, hps' q hq, rfl⟩
        · intro hx
          rw [e2] at hx
          obtain ⟨q, hq, rfl⟩ := List.mem_map.mp hx
          have h1 := hL2 (q.1, V'.iv q.2) (List.mem_map.mpr ⟨q, hq, rfl⟩)
          have h2 : V'.iv q.2 ∈ L'.map (·.2) := (pm.map (·.2)).mem_iff.mpr h1
          rw [ep', List.map_map] at h2
          obtain ⟨z, hz, e⟩ := List.mem_map.mp h2
          have e : V'.iv z.2 = V'.iv q.2 := e
          exact List.mem_map.mpr ⟨z, hz, V'.inj _ _ e⟩
      · rw [ep', List.pairwise_map] at pw
        rw [List.pairwise_map]
        refine pw.imp fun {a b} hab => ?_
        have hab : dataLt (tI (V'.iv b.2)) (tI (V'.iv a.2)) = false := hab
        rw [← V'.dd, ← V'.dd, O.eq] at hab
        exact hab
      · exact fresh_of (s1.trans ga.step) nl
      · exact ka.none_of nl
      · exact ka.free nl
end
end TM
set_option Elab.async false
set_option linter.all false
set_option maxRecDepth 100000
set_option maxHeartbeats 1000000
namespace TM
open PySem PySem.Spec PyProof.Rows L2
/-! ## x in a list of data -/
def memD {α : Type} [DecidableEq α] (x : α) (xs : List α) : Bool := decide (x ∈ xs)
theorem memD_iff {α : Type} [DecidableEq α] {x : α} {xs : List α} : memD x xs = true ↔ x ∈ xs := decide_eq_true_iff
theorem memD_no {α : Type} [DecidableEq α] {x : α} {xs : List α} : memD x xs = false ↔ x ∉ xs := decide_eq_false_iff_not
section
variable {X : Cx} {Γ : List SP} {α : Type} {a b : Expr} {pos : Pos}
theorem any_dat {r : RT α} [DecidableEq α] (D : DatR r) (x : α) : ∀ xs : List α, ((xs.map D.d).any fun z => PyData.eqv z (D.d x)) = decide (x ∈ xs)
  | [] => by simp
  | y :: ys => by
    rw [List.map_cons, List.any_cons, any_dat D x ys]
    by_cases e : y = x
    · subst e; simp [(D.inj y y).mpr rfl]
    · have h : PyData.eqv (D.d y) (D.d x) = false := Bool.eq_false_iff.mpr fun z => e ((D.inj y x).mp z)
      have e' : ¬ x = y := fun z => e z.symm
      rw [h]; simp [e']
theorem inD_core {r : RT α} [DecidableEq α] (D : DatR r) (hn : D.n ≤ 60) {R : R2} {neg : Bool} (hR : ∀ {x y : V} {H : Hp} {Q : VK} {d : PyData} {ds : List PyData}, Dp X.K H x d → Dp X.K H y (.list ds) → SeqAt.shaped d = true → SeqAt.shaped (.list ds) = true → Q (.bl (if neg then !(ds.any fun z => PyData.eqv z d) else ds.any fun z => PyData.eqv z d)) H → R x y H Q) {ta tb : TE} {Ma : Mp α} {Mb : Mp (List α)} {σ : St} {W : Wd}
    (q : ∀ (σ : St) (W : Wd), W.Ok → Sat Γ σ W → ∀ (Q : VK) (P : α → Prop), Ma P → (∀ x v W', P x → W'.Ok → Step W W' → Sat Γ σ W' → r.ok W'.Hc v x → Q v W'.H) → ta σ W.H Q)
    (q2 : ∀ (σ : St) (W : Wd), W.Ok → Sat Γ σ W → ∀ (Q : VK) (P : List α → Prop), Mb P → (∀ xs v W', P xs → W'.Ok → Step W W' → Sat Γ σ W' → (∀ W2 : Wd, W2.Ok → Step W' W2 → Sat Γ σ W2 → rBk r W2 v xs) → Q v W'.H) → tb σ W.H Q)
    (k : W.Ok) (s : Sat Γ σ W) (Q : VK) (P : Bool → Prop) (m : Ma fun x => Mb fun xs => (D.g x ∧ ∀ z ∈ xs, D.g z) ∧ P (if neg then !memD x xs else memD x xs)) (h : ∀ z v W', P z → W'.Ok → Step W W' → Sat Γ σ W' → rBl.ok W'.Hc v z → Q v W'.H) : tOp R ta tb σ W.H Q := by
  refine q σ W k s _ _ m fun x v W1 m1 k1 s1 g1 r1 => ?_
  refine q2 σ W1 k1 g1 _ _ m1 fun xs u W2 ⟨⟨m2, m3⟩, m4⟩ k2 s2 g2 r2 => ?_
  obtain ⟨p, vs, e, hh, pr⟩ := r2 W2 k2 (Step.refl W2) g2
  subst e
  refine hR (D.ok X.K _ _ _ (r.mono k2.ex (r.mono s2.hc r1))) (.lst (sql_of hh) (dpAll D (pmap pr fun _ _ => r.mono k2.ex))) (D.shaped (by omega) m2) ?_ (h _ _ W2 m4 k2 (s1.trans s2) g2 ?_)
  · exact (dL D).shaped (x := xs) (by show D.n + 1 ≤ 64; omega) m3
  · show V.bl _ = V.bl _
    rw [any_dat D x xs]; rfl
theorem xp_inLD {r : RT α} [DecidableEq α] (D : DatR r) (hn : D.n ≤ 60) (hu : X.A.units + 65 < cLine) {Ma : Mp α} {Mb : Mp (List α)} (ha : XP X Γ a Ma r) (hb : XB X Γ b Mb r) (hm : behindInMarks .In b = false := by rfl) : XP X Γ (.Compare a [.In] [b] pos) (fun P => Ma fun x => Mb fun xs => (D.g x ∧ ∀ z ∈ xs, D.g z) ∧ P (memD x xs)) rBl := by
  obtain ⟨t, p, q⟩ := ha
  obtain ⟨u, p2, q2⟩ := hb
  exact ⟨_, pe_cmpR (op_inD hu) p p2 hm, fun σ W k s Q P m h => inD_core (neg := false) D hn (fun h1 h2 h3 h4 h5 => ⟨_, _, h1, h2, h3, h4, h5⟩) q q2 k s Q P m h⟩
theorem xp_ninLD {r : RT α} [DecidableEq α] (D : DatR r) (hn : D.n ≤ 60) (hu : X.A.units + 65 < cLine) {Ma : Mp α} {Mb : Mp (List α)} (ha : XP X Γ a Ma r) (hb : XB X Γ b Mb r) (hm : behindInMarks .NotIn b = false := by rfl) : XP X Γ (.Compare a [.NotIn] [b] pos) (fun P => Ma fun x => Mb fun xs => (D.g x ∧ ∀ z ∈ xs, D.g z) ∧ P (!memD x xs)) rBl := by
  obtain ⟨t, p, q⟩ := ha
  obtain ⟨u, p2, q2⟩ := hb
  exact ⟨_, pe_cmpR (op_notInD hu) p p2 hm, fun σ W k s Q P m h => inD_core (neg := true) D hn (fun h1 h2 h3 h4 h5 => ⟨_, _, h1, h2, h3, h4, h5⟩) q q2 k s Q P m h⟩
end
/-! ## dicts that are locked: clean values -/
section
variable {P : Program} {w : World} {H : Hp} {h : Heap} {a : Addr} {ks : List NE}
theorem nd_rd (ok : HOk P w H h) (e : Rd H a (nD P w a ks)) : RawN P w a ks h := (show ObjOk P w H h a (nD P w a ks) from rd_of ok e).1
def rInN2 (P : Program) (w : World) : R2 := fun x y H Q => ∃ a b k ks, x = .ref b ∧ y = .ref a ∧ Rd H a (nD P w a ks) ∧ NKey P w H k b ∧ (∀ p ∈ ks, NKey P w H p.1 p.2.1) ∧ Q (.bl (lookA ks k).isSome) H
def rNotInN2 (P : Program) (w : World) : R2 := fun x y H Q => ∃ a b k ks, x = .ref b ∧ y = .ref a ∧ Rd H a (nD P w a ks) ∧ NKey P w H k b ∧ (∀ p ∈ ks, NKey P w H p.1 p.2.1) ∧ Q (.bl (!(lookA ks k).isSome)) H
def rGetN2 (P : Program) (w : World) : R2 := fun x y H Q => ∃ a b k ks c v, x = .ref a ∧ y = .ref b ∧ Rd H a (nD P w a ks) ∧ NKey P w H k b ∧ (∀ p ∈ ks, NKey P w H p.1 p.2.1) ∧ lookA ks k = some (c, v) ∧ Q v H
def rLenN (P : Program) (w : World) : List V → Hp → VK → Prop := fun xs H Q => ∃ a ks, xs = [V.ref a] ∧ Rd H a (nD P w a ks) ∧ (∀ p ∈ ks, NKey P w H p.1 p.2.1) ∧ Q (.int (ks.length : Nat)) H
def rListN (P : Program) (w : World) : List V → Hp → VK → Prop := fun xs H Q => ∃ a ks, xs = [V.ref a] ∧ Rd H a (nD P w a ks) ∧ ∀ p, H p = none → Q (.ref p) (upd H p (.lst (ks.map fun q => V.ref q.2.1)))
def Itn (P : Program) (w : World) (d : Addr) (o : Obj) (ks : List NE) : It :=
  ⟨fun i H => H d = some (.frz o (nD P w d ks)) ∧ i < ks.length, fun i H x H' => H' = H ∧ ∃ q, ks[i]? = some q ∧ x = .ref q.2.1, fun i H => H d = some (.frz o (nD P w d ks)) ∧ ks.length ≤ i⟩
end
section
variable {X : Cx}
theorem op_inN2 (hu : X.A.units + 64 < cLine) : OpR X (compareOp .In) (rInN2 X.prog X.w) := by
  intro pins s σ H x y v u Q I rx ry ⟨a, b, k, ks, e1, e2, hd, hk, hks, q⟩
  subst e1 e2
  obtain rfl : v = Value.ref b := rx
  obtain rfl : u = Value.ref a := ry
  have r := nd_rd I.hok hd
  obtain ⟨xs, pr, dd⟩ := nd_dict r I.hok hks
  have e : (lookA ks k).isSome = (atKey xs k).isSome := look_some (F := fun (x : Addr × V) (y : Addr × Value) => RelV x.2 y.2) (kv_of pr) k
  refine wpAny_in_heap (knd := nestedKind X.prog X.w) (show X.A.units + 1 + 8 < cLine by omega) (hk _ I.hok) r.2.1 dd ?_
  rw [← e]
  exact ⟨.bl _, H, I.tok _, rfl, q⟩
theorem op_notInN2 (hu : X.A.units + 64 < cLine) : OpR X (compareOp .NotIn) (rNotInN2 X.prog X.w) := by
  intro pins s σ H x y v u Q I rx ry ⟨a, b, k, ks, e1, e2, hd, hk, hks, q⟩
  subst e1 e2
  obtain rfl : v = Value.ref b := rx
  obtain rfl : u = Value.ref a := ry
  have r := nd_rd I.hok hd
  obtain ⟨xs, pr, dd⟩ := nd_dict r I.hok hks
  have e : (lookA ks k).isSome = (atKey xs k).isSome := look_some (F := fun (x : Addr × V) (y : Addr × Value) => RelV x.2 y.2) (kv_of pr) k
  refine wpAny_notIn_heap (knd := nestedKind X.prog X.w) (show X.A.units + 1 + 8 < cLine by omega) (hk _ I.hok) r.2.1 dd ?_
  rw [← e]
  exact ⟨.bl _, H, I.tok _, rfl, q⟩
theorem call_lenN : CallR X (.builtin "len") (rLenN X.prog X.w) := by
  intro pins s σ H xs us Q I r ⟨a, ks, e, hd, hks, q⟩
  subst e
  obtain ⟨u, rfl, rx⟩ := vals1 r
  obtain rfl : u = Value.ref a := rx
  have rr := nd_rd I.hok hd
  obtain ⟨ys, pr, dd⟩ := nd_dict rr I.hok hks
  have z := rr.1
  rw [sizeLine_eq] at z
  have hl : ks.length = ys.length := pr.length
  refine call_len_dictH rr.2.1 dd (by omega) ?_
  rw [← hl]
  exact ⟨.int ((ks.length : Nat) : Int), H, I.tok _, ⟨_, rfl⟩, q⟩
theorem raw_ent {P : Program} {w : World} {h : Heap} {a : Addr} {ks : List NE} (r : RawN P w a ks h) : ∃ (o : Obj) (es : Array DictEntry) (ep : Nat), h.get? a = some o ∧ o.ExactDict ∧ o.data = .dict es ep ∧ es.size = ks.length ∧ ∀ (i : Nat) (q : NE), ks[i]? = some q → ∃ en : DictEntry, es[i]? = some en ∧ en.key = Value.ref q.2.1 := by
  obtain ⟨z, y, xs, pr, o, es, ep, h1, h2, h3, h4, h5⟩ := r
  refine ⟨o, es, ep, h1, h2, h3, ?_, fun i q e => ?_⟩
  · have := congrArg List.length h4
    rw [Array.length_toList, List.length_map, ← pr.length] at this
    exact this
  · have hi := (List.getElem?_eq_some_iff.mp e).1
    obtain ⟨b, hb, e1, e2, _⟩ := L2.paired_get pr e
    refine ⟨entryOfKey (nestedKind P w) b, ?_, ?_⟩
    · rw [← Array.getElem?_toList, h4, List.getElem?_map, hb]; rfl
    · show Value.ref b.2.1 = _
      rw [e2]
theorem vals_ent : ∀ (ks : List NE) (l : List Value), l.length = ks.length → (∀ (i : Nat) (q : NE), ks[i]? = some q → l[i]? = some (Value.ref q.2.1)) → Vals (ks.map fun q => V.ref q.2.1) l
  | [], [], _, _ => .nil
  | [], _ :: _, hl, _ => by cases hl
  | _ :: _, [], hl, _ => by cases hl
  | p :: ks, u :: l, hl, at_ => by
    have h0 := at_ 0 p rfl
    have h0 : u = Value.ref p.2.1 := Option.some.inj h0
    subst h0
    exact .cons rfl (vals_ent ks l (by simpa using hl) fun i q e => by simpa using at_ (i + 1) q (by simpa using e))
theorem call_listN (hcalm : X.calm = true) : CallR X (.type "list") (rListN X.prog X.w) := by
  intro pins s σ H xs us Q I r ⟨a, ks, e, hd, q⟩
  subst e
  obtain ⟨u, rfl, rx⟩ := vals1 r
  obtain rfl : u = Value.ref a := rx
  have rr := nd_rd I.hok hd
  obtain ⟨o, es, ep, h1, h2, h3, h4, h5⟩ := raw_ent rr
  have hz := rr.1
  refine PySem.W.kdl_call (KdlSrc.rawDict (es := es) (ep := ep) rr.2.1) (I.ok.hd hcalm) ⟨o, h1, h2, h3⟩ (by rw [h4]; exact hz) fun h' tk acc c' hk hD hacc => ?_
  have hv : Vals (ks.map fun q => V.ref q.2.1) acc.toList := by
    have hl : acc.toList.length = ks.length := by rw [Array.length_toList, hacc.1, h4]
    have at_ : ∀ (i : Nat) (q : NE), ks[i]? = some q → acc.toList[i]? = some (Value.ref q.2.1) := fun i q e => by
      have hi := (List.getElem?_eq_some_iff.mp e).1
      have hi2 : i < acc.toList.length := by omega
      obtain ⟨hj, e2⟩ := hacc.2 i _ (by rw [← Array.getElem?_toList]; exact List.getElem?_eq_getElem hi2)
      obtain ⟨en, e3, e4⟩ := h5 i q e
      rw [Array.getElem?_eq_getElem hj] at e3
      cases e3
      rw [List.getElem?_eq_getElem hi2, e2, e4]
    exact vals_ent _ _ hl at_
  refine ⟨.ref s.heap.objs.size, upd H s.heap.objs.size (.lst (ks.map fun q => V.ref q.2.1)), I.laid (t' := tk) hk (Nat.le_refl _)
    (show ObjOk X.prog X.w _ _ _ (.lst (ks.map fun q => V.ref q.2.1)) from ⟨by rw [List.length_map]; exact hz, acc.toList, c', hv, by rw [Array.toArray_toList]; exact hD⟩), rfl, q _ (I.hok.fresh (Nat.le_refl _))⟩
end
end TM
set_option Elab.async false
set_option linter.all false
set_option maxRecDepth 100000
set_option maxHeartbeats 1000000
namespace TM
open PySem PySem.Spec PyProof.Rows L2
/-! ## reading locked dicts -/
section
variable {X : Cx}
theorem ix_getN2 (hu : X.A.units + 64 < cLine) : IxR X (rGetN2 X.prog X.w) := by
  intro value slice pins s σ H x y v u Q I rx ry ⟨a, b, k, ks, c, z, e1, e2, hd, hk, hks, hv, q⟩ hs
  subst e1 e2
  obtain rfl : v = Value.ref a := rx
  obtain rfl : u = Value.ref b := ry
  have r := nd_rd I.hok hd
  obtain ⟨xs, pr, dd⟩ := nd_dict r I.hok hks
  have e := look_pair (F := fun (x : Addr × V) (y : Addr × Value) => RelV x.2 y.2) (kv_of pr) k
  rw [hv] at e
  cases q2 : lookA xs k with
  | none => rw [q2] at e; exact e.elim
  | some y =>
    rw [q2] at e
    exact subscriptTail_builtinR (x := y.2) dd.typeIs PySem.F.slot_dict_getitem.lookup (wpAny_getItem_heap (knd := nestedKind X.prog X.w) (show X.A.units + 1 + 8 < cLine by omega) (hk _ I.hok) dd q2 ⟨rfl, z, H, I.tok _, e, q⟩) hs
theorem Inv.frzN {pins : List (Addr × Obj)} {σ : St} {H : Hp} {s : Shared} {d : Addr} {o : Obj} {ks : List NE} (I : Inv X pins σ H s) (h : H d = some (.frz o (nD X.prog X.w d ks))) :
    (d == sysModules) = false ∧ s.heap.get? d = some o ∧ o.ExactDict ∧ ∃ (es : Array DictEntry) (ep : Nat), o.data = .dict es ep ∧ es.size = ks.length ∧ ∀ (i : Nat) (q : NE), ks[i]? = some q → ∃ en : DictEntry, es[i]? = some en ∧ en.key = Value.ref q.2.1 := by
  obtain ⟨hd, x⟩ := (show ObjOk X.prog X.w H s.heap d (.frz o (nD X.prog X.w d ks)) from I.hok d _ h)
  have rr : RawN X.prog X.w d ks s.heap := (show ObjOk X.prog X.w H s.heap d (nD X.prog X.w d ks) from x).1
  obtain ⟨o', es, ep, h1, h2, h3, h4, h5⟩ := raw_ent rr
  rw [hd] at h1
  cases h1
  exact ⟨rr.2.1, hd, h2, es, ep, h3, h4, h5⟩
theorem turn_keysN {P : Program} {w : World} {K : PySem.W.Frag} {tg : Expr} {d : Addr} {o : Obj} {es : Array DictEntry} {ep : Nat} {ks : List NE} (it : Addr) (hod : o.data = .dict es ep) : Turn P w K tg (Itn P w d o ks) [it] it (fun i h => h.IsKeyIter it d i ks.length ep) where
  mem := by simp
  obj := fun i h st b hb => by
    have e : b = it := by simpa using hb
    subst e
    obtain ⟨oi, e, c, dd⟩ := st
    exact ⟨oi, e, fun v z => by rw [dd] at z; cases z⟩
  keep := fun i h h' st k => st.at fun oi e => k it (by simp) oi e
  item := by
    intro X hP hw hK hc i pins s σ H E I hf st hg
    subst hP hw hK
    obtain ⟨hd, hi⟩ := hg
    obtain ⟨f0, f1, f2, f3, f4, f5⟩ := hf it (by simp)
    obtain ⟨hs, hgd, hx, es', ep', hdt, hsz, ent⟩ := Inv.frzN I hd
    obtain ⟨rfl, rfl⟩ := dict_ep hod hdt
    obtain ⟨q, hq⟩ : ∃ p, ks[i]? = some p := ⟨ks[i], List.getElem?_eq_getElem hi⟩
    obtain ⟨en, hen, hkey⟩ := ent i q hq
    refine next_key_item st hgd hdt hsz hen fun h' st' sb => ?_
    have I1 : Inv X pins σ H { s with heap := h' } := I.turned (t' := s.toks) (fun b ob hb e => (sb.2 b hb).trans e) f0 f1 f3 f4 f5
    obtain ⟨oi, e, c, dd⟩ := id st'
    exact ⟨en.key, rfl, go_of (s := { s with heap := h' }) e c dd (by decide) ⟨.ref q.2.1, H, I1, hkey, ⟨rfl, q, hq, rfl⟩, st', fun b hb => (hf b hb).1⟩⟩
  done := by
    intro X hP hw hK hc i pins s σ H E I hf st hg
    subst hP hw hK
    obtain ⟨hd, hi⟩ := hg
    obtain ⟨f0, f1, f2, f3, f4, f5⟩ := hf it (by simp)
    obtain ⟨hs, hgd, hx, es', ep', hdt, hsz, ent⟩ := Inv.frzN I hd
    obtain ⟨rfl, rfl⟩ := dict_ep hod hdt
    exact next_key_end (I.ok.hd hc) st hgd hdt hsz hi fun h' eb => ⟨rfl, I.turned (t' := s.toks) (fun b ob hb e => eb b ob hb e) f0 f1 f3 f4 f5⟩
  self := fun A i s Q E st h => by
    refine wpAny_pyIter_slot st.typeIs PySem.F.slot_dict_keyiterator_iter (wpAny_call_entry PySem.F.slot_dict_keyiterator_iter st.typeIs PySem.F.entry_dict_keyiterator_iter ?_ (PySem.F.args_dict_keyiterator_iter_1 _))
    show wpAny _ _ (ret (.ref it)) _ _ s
    exact wpAny_pure ⟨_, rfl, "dict_keyiterator", _, st.typeIs, PySem.F.slot_dict_keyiterator_next.lookup, h⟩
theorem pi_keysN {tg e : Expr} {td : TE} (he : PE X e td) : PI X tg e (fun σ H R => td σ H fun x H1 => ∃ d o ks, x = .ref d ∧ H1 d = some (.frz o (nD X.prog X.w d ks)) ∧ R (Itn X.prog X.w d o ks) H1) := by
  refine ⟨fun pins s σ H R I h => ?_⟩
  refine thn (he.run pins s σ H _ I h) fun u s1 ⟨x, H1, I1, rx, d, o, ks, ex, hd, q⟩ => ?_
  subst ex
  obtain rfl : u = Value.ref d := rx
  obtain ⟨hs, hgd, hx, es, ep, hdt, hsz, ent⟩ := Inv.frzN I1 hd
  refine iter_keys hs hgd hx hdt (pi_one (tk := s1.toks) I1 _ (turn_keysN _ hdt) ⟨_, Heap.get?_push_size _ rfl, rfl, ?_⟩ q)
  rw [hsz] <;> rfl
theorem call_lenD2 : CallR X (.builtin "len") (fun xs H Q => ∃ a kvs, xs = [V.ref a] ∧ Rd H a (.dK kvs) ∧ Q (.int kvs.length) H) := by
  intro pins s σ H xs us Q I r h
  obtain ⟨a, kvs, rfl, ha, q⟩ := h
  obtain ⟨u, rfl, ru⟩ := vals1 r
  cases ru
  exact d_len I ha fun t s' I' => ⟨.int kvs.length, H, I', ⟨t, rfl⟩, q⟩
end
/-- the locked dicts of a kind -/
structure DKz (X : Cx) {κ : Type} [DecidableEq κ] (D : DKd κ) where
  rin : R2
  rnin : R2
  rget : R2
  rlen : List V → Hp → VK → Prop
  rlst : List V → Hp → VK → Prop
  rit : V → Hp → (It → Hp → Prop) → Prop
  hin : OpR X (compareOp .In) rin
  hnin : OpR X (compareOp .NotIn) rnin
  hget : IxR X rget
  hlen : CallR X (.builtin "len") rlen
  hlst : CallR X (.type "list") rlst
  hit : ∀ {tg e : Expr} {td : TE}, PE X e td → PI X tg e (fun σ H R => td σ H fun x H1 => rit x H1 R)
  in_ : ∀ {W : Wd} {a : Addr} {od : Obj} {kvs : List (κ × V)} {o : HO} {u : V} {x : κ} {Q : VK}, W.Ok → W.Hc a = some (.frz od o) → D.ob a kvs W.Hc o → D.k.ok W.Hc u x → Q (.bl (lookA kvs x).isSome) W.H → rin u (.ref a) W.H Q
  nin_ : ∀ {W : Wd} {a : Addr} {od : Obj} {kvs : List (κ × V)} {o : HO} {u : V} {x : κ} {Q : VK}, W.Ok → W.Hc a = some (.frz od o) → D.ob a kvs W.Hc o → D.k.ok W.Hc u x → Q (.bl (!(lookA kvs x).isSome)) W.H → rnin u (.ref a) W.H Q
  get_ : ∀ {W : Wd} {a : Addr} {od : Obj} {kvs : List (κ × V)} {o : HO} {u v : V} {x : κ} {Q : VK}, W.Ok → W.Hc a = some (.frz od o) → D.ob a kvs W.Hc o → D.k.ok W.Hc u x → lookA kvs x = some v → Q v W.H → rget (.ref a) u W.H Q
  len_ : ∀ {W : Wd} {a : Addr} {kvs : List (κ × V)} {o : HO} {Q : VK}, W.Ok → Rd W.H a o → D.ob a kvs W.Hc o → Q (.int (kvs.length : Int)) W.H → rlen [.ref a] W.H Q
  lst_ : ∀ {W : Wd} {a : Addr} {od : Obj} {kvs : List (κ × V)} {o : HO} {Q : VK}, W.Ok → W.Hc a = some (.frz od o) → D.ob a kvs W.Hc o → (∀ p vs, W.H p = none → Paired (D.k.ok W.Hc) vs (kvs.map (·.1)) → Q (.ref p) (upd W.H p (.lst vs))) → rlst [.ref a] W.H Q
  it_ : ∀ {W : Wd} {a : Addr} {od : Obj} {kvs : List (κ × V)} {o : HO} {R : It → Hp → Prop}, W.Ok → W.Hc a = some (.frz od o) → D.ob a kvs W.Hc o → (∀ J, Walks J D.k (kvs.map (·.1)) W → R J W.H) → rit (.ref a) W.H R
  ut : ∀ {a : Addr} {kvs : List (κ × V)} {H : Hp} {o : HO}, D.ob a kvs H o → Mut (some o) ∧ ∀ xs, o ≠ .lst xs
section
variable {X : Cx} {κ : Type} [DecidableEq κ]
theorem encF_keys (F : KF κ) (kvs : List (κ × V)) : (encF F kvs).map (fun kv => kV kv.1) = (kvs.map (·.1)).map fun x => kV (F.enc x) := by
  unfold encF
  rw [List.map_map, List.map_map]; rfl
theorem keys_pair {F : κ → V} {r : RT κ} {H : Hp} (h : ∀ x, r.ok H (F x) x) : ∀ xs : List κ, Paired (r.ok H) (xs.map F) xs
  | [] => .nil
  | x :: xs => .cons (h x) (keys_pair h xs)
def dkzF (F : KF κ) (cv : ∀ H x, F.r.ok H (kV (F.enc x)) x) (hu : X.A.units + 64 < cLine) (hc : X.calm = true) : DKz X (dkF F) where
  rin := rInK
  rnin := rNotInK
  rget := rGetK
  rlen := fun xs H Q => ∃ a kvs, xs = [V.ref a] ∧ Rd H a (.dK kvs) ∧ Q (.int kvs.length) H
  rlst := fun xs H Q => ∃ (a : Addr) (kvs : List (Key × V)), xs = [.ref a] ∧ Rd H a (.dK kvs) ∧ ∀ p, H p = none → Q (.ref p) (upd H p (.lst (kvs.map fun kv => kV kv.1)))
  rit := fun x H1 R => ∃ d o, x = .ref d ∧ ((∃ kvs, H1 d = some (.frz o (.dK kvs)) ∧ R (Itk d o kvs) H1) ∨ ∃ kvs, H1 d = some (.frz o (.dT kvs)) ∧ R (Itkt d o kvs) H1)
  hin := op_inK hu
  hnin := op_notInK hu
  hget := ix_getK hu
  hlen := call_lenD2
  hlst := call_listD hc
  hit := fun h => pi_keys h
  in_ := fun {W a od kvs o u x Q} ok h e k q => by
    rw [F.ok _ _ _ k]
    rw [show o = .dK (encF F kvs) from e] at h
    exact ⟨a, _, rfl, .inl ⟨_, _, .inr ⟨od, ok.ex _ _ h⟩, rfl, rfl⟩, by rw [encF_look]; exact q⟩
  nin_ := fun {W a od kvs o u x Q} ok h e k q => by
    rw [F.ok _ _ _ k]
    rw [show o = .dK (encF F kvs) from e] at h
    exact ⟨a, _, rfl, .inl ⟨_, _, .inr ⟨od, ok.ex _ _ h⟩, rfl, rfl⟩, by rw [encF_look]; exact q⟩
  get_ := fun {W a od kvs o u v x Q} ok h e k l q => by
    rw [F.ok _ _ _ k]
    rw [show o = .dK (encF F kvs) from e] at h
    exact ⟨a, v, rfl, .inl ⟨_, _, .inr ⟨od, ok.ex _ _ h⟩, rfl, by rw [encF_look]; exact l.symm⟩, q⟩
  len_ := fun {W a kvs o Q} ok h e q => by
    rw [show o = .dK (encF F kvs) from e] at h
    refine ⟨a, _, rfl, h, ?_⟩
    unfold encF
    rw [List.length_map]; exact q
  lst_ := fun {W a od kvs o Q} ok h e q => by
    rw [show o = .dK (encF F kvs) from e] at h
    refine ⟨a, _, rfl, .inr ⟨od, ok.ex _ _ h⟩, fun p np => ?_⟩
    rw [encF_keys]
    exact q p _ np (keys_pair (fun x => cv _ x) _)
  it_ := fun {W a od kvs o R} ok h e q => by
    rw [show o = .dK (encF F kvs) from e] at h
    refine ⟨a, od, rfl, .inl ⟨_, ok.ex _ _ h, q _ fun W2 k2 s2 => ?_⟩⟩
    have h2 := k2.ex _ _ (s2.hc _ _ h)
    have hl : (encF F kvs).length = (kvs.map (·.1)).length := by unfold encF; rw [List.length_map, List.length_map]
    refine ⟨fun i hi => ⟨h2, by rw [hl]; exact hi⟩, fun i v H' hi y => ?_, ⟨h2, by rw [hl]; exact Nat.le_refl _⟩⟩
    obtain ⟨rfl, k, v', hk, rfl⟩ := y
    rw [List.length_map] at hi
    unfold encF at hk
    rw [List.getElem?_map, List.getElem?_eq_getElem hi] at hk
    cases hk
    exact ⟨W2, kvs[i].1, by rw [List.getElem?_map, List.getElem?_eq_getElem hi]; rfl, rfl, k2, Grow.refl W2, cv _ _⟩
  ut := fun {a kvs H o} e => by rw [show o = .dK (encF F kvs) from e]; exact ⟨trivial, fun xs z => by cases z⟩
theorem nrel_pair {k : KN κ} {r : RT V} {H : Hp} {ks : List NE} {d : List (κ × V)} (h : Paired (NRel k r H) ks d) : Paired (k.r.ok H) (ks.map fun q => V.ref q.2.1) (d.map (·.1)) := by
  induction h with
  | nil => exact .nil
  | cons e _ ih => exact .cons e.2.1 ih
def dkzN (k : KN κ) (hd : k.d ≤ 8) (hR : IsR k) (hu : X.A.units + 64 < cLine) (hc : X.calm = true) : DKz X (dkN X.prog X.w k) where
  rin := rInN2 X.prog X.w
  rnin := rNotInN2 X.prog X.w
  rget := rGetN2 X.prog X.w
  rlen := rLenN X.prog X.w
  rlst := rListN X.prog X.w
  rit := fun x H1 R => ∃ d o ks, x = .ref d ∧ H1 d = some (.frz o (nD X.prog X.w d ks)) ∧ R (Itn X.prog X.w d o ks) H1
  hin := op_inN2 hu
  hnin := op_notInN2 hu
  hget := ix_getN2 hu
  hlen := call_lenN
  hlst := call_listN hc
  hit := fun h => pi_keysN h
  in_ := fun {W a od kvs o u x Q} ok h ⟨ks, e, pr⟩ kx q => by
    subst e
    obtain ⟨b, rfl⟩ := hR _ _ _ kx
    exact ⟨a, b, k.enc x, ks, rfl, rfl, .inr ⟨od, ok.ex _ _ h⟩, nkey_of ok hd kx, nrel_keys ok hd pr, by rw [nrel_some pr x]; exact q⟩
  nin_ := fun {W a od kvs o u x Q} ok h ⟨ks, e, pr⟩ kx q => by
    subst e
    obtain ⟨b, rfl⟩ := hR _ _ _ kx
    exact ⟨a, b, k.enc x, ks, rfl, rfl, .inr ⟨od, ok.ex _ _ h⟩, nkey_of ok hd kx, nrel_keys ok hd pr, by rw [nrel_some pr x]; exact q⟩
  get_ := fun {W a od kvs o u v x Q} ok h ⟨ks, e, pr⟩ kx l q => by
    subst e
    obtain ⟨b, rfl⟩ := hR _ _ _ kx
    have g := nrel_look pr x
    rw [l] at g
    cases z : lookA ks (k.enc x) with
    | none => rw [z] at g; exact g.elim
    | some y =>
      rw [z] at g
      obtain ⟨y1, y2⟩ := y
      have e2 : y2 = v := g.2
      subst e2
      exact ⟨a, b, k.enc x, ks, y1, y2, rfl, rfl, .inr ⟨od, ok.ex _ _ h⟩, nkey_of ok hd kx, nrel_keys ok hd pr, z, q⟩
  len_ := fun {W a kvs o Q} ok h ⟨ks, e, pr⟩ q => by
    subst e
    exact ⟨a, ks, rfl, h, nrel_keys ok hd pr, by rw [pr.length]; exact q⟩
  lst_ := fun {W a od kvs o Q} ok h ⟨ks, e, pr⟩ q => by
    subst e
    exact ⟨a, ks, rfl, .inr ⟨od, ok.ex _ _ h⟩, fun p np => q p _ np (nrel_pair pr)⟩
  it_ := fun {W a od kvs o R} ok h ⟨ks, e, pr⟩ q => by
    subst e
    refine ⟨a, od, ks, rfl, ok.ex _ _ h, q _ fun W2 k2 s2 => ?_⟩
    have h2 := k2.ex _ _ (s2.hc _ _ h)
    have hl : ks.length = (kvs.map (·.1)).length := by rw [List.length_map]; exact pr.length
    refine ⟨fun i hi => ⟨h2, by rw [hl]; exact hi⟩, fun i v H' hi y => ?_, ⟨h2, by rw [hl]; exact Nat.le_refl _⟩⟩
    obtain ⟨rfl, z, hz, rfl⟩ := y
    obtain ⟨y, hy, e1, e2, _⟩ := L2.paired_get pr hz
    exact ⟨W2, y.1, by rw [List.getElem?_map, hy]; rfl, rfl, k2, Grow.refl W2, k.r.mono s2.hc e2⟩
  ut := fun {a kvs H o} ⟨ks, e, _⟩ => by rw [e]; exact ⟨trivial, fun xs z => by cases z⟩
/-- a locked dict, a clean value -/
def rDF {β : Type} (D : DKd κ) (r : RT β) : RT (List (κ × β)) := ⟨fun H v d => ∃ a od ob kvs, v = .ref a ∧ H a = some (.frz od ob) ∧ D.ob a kvs H ob ∧ Paired (DRel r H) kvs d,
  fun e ⟨a, od, ob, kvs, h1, h2, h3, h4⟩ => ⟨a, od, ob, kvs, h1, e _ _ h2, D.up e h3, pmap h4 fun _ _ ⟨x, y⟩ => ⟨x, r.mono e y⟩⟩⟩
variable {β : Type} {D : DKd κ} {r : RT β} {Γ : List SP} {e b tg : Expr} {pos p2 : Pos}
theorem os_inF (Z : DKz X D) : OpS Z.rin D.k (rDF D r) rBl (fun x d P => P (lookA d x).isSome) := fun W o v x u d e1 ⟨a, od, ob, kvs, h1, h2, h3, h4⟩ Q P m q => by
  subst h1
  refine Z.in_ o h2 h3 e1 (q _ _ W m o (Grow.refl W) ?_)
  show V.bl _ = V.bl _
  rw [drel_look h4 x]
theorem os_notInF (Z : DKz X D) : OpS Z.rnin D.k (rDF D r) rBl (fun x d P => P (!(lookA d x).isSome)) := fun W o v x u d e1 ⟨a, od, ob, kvs, h1, h2, h3, h4⟩ Q P m q => by
  subst h1
  refine Z.nin_ o h2 h3 e1 (q _ _ W m o (Grow.refl W) ?_)
  show V.bl _ = V.bl _
  rw [drel_look h4 x]
theorem os_getF (Z : DKz X D) : OpS Z.rget (rDF D r) D.k r (fun d x P => ∃ y, lookA d x = some y ∧ P y) := fun W o v d u x ⟨a, od, ob, kvs, h1, h2, h3, h4⟩ e1 Q P ⟨y, hy, m⟩ q => by
  subst h1
  obtain ⟨z, l, rz⟩ := drel_get h4 hy
  exact Z.get_ o h2 h3 e1 l (q y z W m o (Grow.refl W) rz)
theorem cs_lenF (Z : DKz X D) : CallS Z.rlen (rac (rDF D r) ra0) rInt (fun x P => P (x.1.length : Int)) := fun W o vs x ⟨v, ws, e, ⟨a, od, ob, kvs, h1, h2, h3, h4⟩, e2⟩ Q P m q => by
  have e2 : ws = [] := e2
  subst e h1 e2
  refine Z.len_ o (.inr ⟨od, o.ex _ _ h2⟩) h3 (q _ _ W m o (Grow.refl W) ?_)
  show V.int _ = V.int _
  rw [h4.length]
theorem xn_listF (Z : DKz X D) {p : Pos} {M : Mp (List (κ × β))} (hm : X.mg "list" = none) (ha : XP X Γ e M (rDF D r)) (hg : Gl X "list" := by rfl) (h1 : starEach [e] X.env = (false, eval e X.env) :: starEach [] X.env := by rfl) :
    XN X Γ (.Call (.Name "list" p) [e] [] pos) (fun P => M fun d => P (d.map (·.1))) D.k := by
  obtain ⟨t, pp, q⟩ := ha
  refine ⟨_, pe_callTy Z.hlst hg hm (by decide +kernel) (pa_cons pp pa_nil h1) (by decide) (by decide) h1, fun σ W k s Q P m h => ?_⟩
  refine q σ W k s _ _ m fun d v W1 m1 k1 s1 g1 ⟨a, od, ob, kvs, e1, h2, h3, h4⟩ => ?_
  subst e1
  refine Z.lst_ k1 h2 h3 fun l vs nl pr => ?_
  have g := grow_lay (W := W1) (o := .lst vs) nl
  exact h _ l vs (W1.lay l (.lst vs)) m1 (k1.lay nl) (s1.trans g.step) (g1.up (g.up k1)) (fresh_of s1 nl) (k1.none_of nl) (k1.free nl) upd_same (by rw [← drel_keys h4]; exact pr)
theorem xi_dictF (Z : DKz X D) {M : Mp (List (κ × β))} (h : XP X Γ e M (rDF D r)) : XI X Γ tg e (fun P => M fun d => P (d.map (·.1))) D.k := by
  obtain ⟨t, p, q⟩ := h
  refine ⟨_, Z.hit p, fun σ W k g Q P m h => q σ W k g _ _ m fun d v W1 m1 k1 s1 g1 ⟨a, od, ob, kvs, e1, h2, h3, h4⟩ => ?_⟩
  subst e1
  refine Z.it_ k1 h2 h3 fun J wk => h _ J W1 m1 k1 s1 g1 ?_
  rw [← drel_keys h4]; exact wk
end
end TM
set_option Elab.async false
set_option linter.all false
set_option maxRecDepth 100000
set_option maxHeartbeats 1000000
namespace TM
open PySem PySem.Spec PyProof.Rows L2
/-! ## one's own dict read: it is locked, and free again behind -/
/-- values in which no locked thing stands -/
def FzD (H : Hp) (u : Addr) : Prop := ∃ od ob, H u = some (.frz od ob) ∧ ∀ xs, ob ≠ .lst xs
def NoF {α : Type} (r : RT α) : Prop := ∀ {H : Hp} {u : Addr} {v : V} {x : α}, FzD H u → r.ok H v x → r.ok (er H u) v x
theorem nf_int : NoF rInt := fun _ h => h
theorem nf_str : NoF rStr := fun _ h => h
theorem nf_bl : NoF rBl := fun _ h => h
theorem nf_non : NoF rNon := fun _ h => h
theorem nf_sign : NoF rSign := fun _ h => h
section
variable {α β γ : Type}
theorem fz_tup {H : Hp} {u a : Addr} {ws : List V} (h : FzD H u) (h2 : H a = some (.tup ws)) : er H u a = some (.tup ws) := by
  obtain ⟨od, ob, h, _⟩ := h
  rw [er_ne]; exact h2
  intro z; rw [z, h] at h2; cases h2
theorem fz_lst {H : Hp} {u a : Addr} {ws : List V} (h : FzD H u) (h2 : H a = some (.lst ws)) : er H u a = some (.lst ws) := by
  obtain ⟨od, ob, h, _⟩ := h
  rw [er_ne]; exact h2
  intro z; rw [z, h] at h2; cases h2
theorem fz_ins {H : Hp} {u a C dx : Addr} {fs : List (Str × V)} (h : FzD H u) (h2 : H a = some (.ins C dx fs)) : er H u a = some (.ins C dx fs) := by
  obtain ⟨od, ob, h, _⟩ := h
  rw [er_ne]; exact h2
  intro z; rw [z, h] at h2; cases h2
theorem nf_T {r : RT α} (n : NoF r) : NoF (rT r) := fun hu ⟨a, vs, e, h, p⟩ => ⟨a, vs, e, fz_tup hu h, pmap p fun _ _ => n hu⟩
theorem nf_L {r : RT α} (n : NoF r) : NoF (rL r) := fun hu ⟨a, vs, e, h, p⟩ => ⟨a, vs, e, fz_lst hu h, pmap p fun _ _ => n hu⟩
theorem nf_P {r : RT α} {q : RT β} (n : NoF r) (n2 : NoF q) : NoF (rP r q) := fun hu ⟨a, x, y, e, h, p, p2⟩ => ⟨a, x, y, e, fz_tup hu h, n hu p, n2 hu p2⟩
theorem nf_P3 {r : RT α} {q : RT β} {z : RT γ} (n : NoF r) (n2 : NoF q) (n3 : NoF z) : NoF (rP3 r q z) := fun hu ⟨a, x, y, w, e, h, p, p2, p3⟩ => ⟨a, x, y, w, e, fz_tup hu h, n hu p, n2 hu p2, n3 hu p3⟩
theorem nf_O {r : RT α} (n : NoF r) : NoF (rO r) := fun {H u v x} hu h => by
  cases x with
  | none => exact h
  | some x => exact ⟨h.1, n hu h.2⟩
theorem nf_LK {K : PySem.W.Frag} : NoF (rLK K) := fun {H u v x} hu ⟨a, e, h⟩ => by
  obtain ⟨od, ob, hu, nl⟩ := id hu
  refine ⟨a, e, ?_⟩
  rcases h with (h | ⟨o, h⟩) | h
  · exact .inl (.inl (fz_lst ⟨od, ob, hu, nl⟩ h))
  · refine .inl (.inr ⟨o, ?_⟩)
    rw [er_ne]; exact h
    intro z; rw [z, hu] at h; cases h; exact nl _ rfl
  · exact .inr h
end
/-- slots that stand whatever is locked and freed -/
def ThG (g : GS) : Prop := ∀ {i : Nat} {o : Option V} {W2 W3 : Wd} {u : Addr} {ob' : HO}, FzD W2.Hc u → W3.Hc = er W2.Hc u → W3.H = upd W2.H u ob' → (∀ b, b ≠ u → W3.O b = W2.O b) → W2.O u = none → W3.B = W2.B → W2.B u = none → g.ok i o W2 → g.ok i o W3
def FhS : SP → Prop
  | .cl r _ => NoF r
  | .own r _ => NoF r
  | .ownA _ r _ => NoF r
  | .gen g => ThG g
  | _ => True
def FhA : List SP → Prop
  | [] => True
  | p :: ps => FhS p ∧ FhA ps
def FhB : Nat → List SP → Prop
  | _, [] => True
  | 0, _ :: ps => FhA ps
  | i + 1, p :: ps => FhS p ∧ FhB i ps
theorem fhA : ∀ {Γ : List SP}, FhA Γ → ∀ j, FhS (look Γ j)
  | [], _, _ => trivial
  | _ :: _, h, 0 => h.1
  | _ :: _, h, j + 1 => fhA h.2 j
theorem fhB : ∀ {i : Nat} {Γ : List SP}, FhB i Γ → ∀ j, j ≠ i → FhS (look Γ j)
  | _, [], _, _, _ => trivial
  | 0, _ :: _, _, 0, n => absurd rfl n
  | 0, _ :: _, h, j + 1, _ => fhA h j
  | i + 1, _ :: _, h, 0, _ => h.1
  | i + 1, _ :: _, h, j + 1, n => fhB h.2 j (by omega)
def FeS : SP → Prop
  | .own r _ => NoF r
  | .ownA _ r _ => NoF r
  | .gen g => ThG g
  | _ => True
def FeA : List SP → Prop
  | [] => True
  | p :: ps => FeS p ∧ FeA ps
def FeB : Nat → List SP → Prop
  | _, [] => True
  | 0, _ :: ps => FeA ps
  | i + 1, p :: ps => FeS p ∧ FeB i ps
theorem feA : ∀ {Γ : List SP}, FeA Γ → ∀ j, FeS (look Γ j)
  | [], _, _ => trivial
  | _ :: _, h, 0 => h.1
  | _ :: _, h, j + 1 => feA h.2 j
theorem feB : ∀ {i : Nat} {Γ : List SP}, FeB i Γ → ∀ j, j ≠ i → FeS (look Γ j)
  | _, [], _, _, _ => trivial
  | 0, _ :: _, _, 0, n => absurd rfl n
  | 0, _ :: _, h, j + 1, _ => feA h j
  | i + 1, _ :: _, h, 0, _ => h.1
  | i + 1, _ :: _, h, j + 1, n => feB h.2 j (by omega)
theorem th_anc {H0 : Hp} : ThG (gAnc H0) := fun {i o W2 W3 u ob'} h1 h2 h3 h4 h5 h6 h7 hg => ⟨h6.trans hg.1, fun c hc => by
  have hc2 : W2.B c ≠ none := by rw [← h6]; exact hc
  rw [h4 c (fun z => hc2 (by rw [z]; exact h7))]
  exact hg.2 c hc2⟩
def NoFD {κ : Type} (D : DKd κ) : Prop := ∀ {H : Hp} {u a : Addr} {o : HO} {kvs : List (κ × V)}, FzD H u → D.ob a kvs H o → D.ob a kvs (er H u) o
theorem nfd_F {κ : Type} [DecidableEq κ] (F : KF κ) : NoFD (dkF F) := fun _ h => h
theorem nfd_N {κ : Type} [DecidableEq κ] {P : Program} {w : World} (k : KN κ) (n : NoF k.r) : NoFD (dkN P w k) := fun hu ⟨ks, e, p⟩ => ⟨ks, e, pmap p fun _ _ ⟨a, b, c⟩ => ⟨a, n hu b, c⟩⟩
theorem th_dic {κ β : Type} [DecidableEq κ] {D : DKd κ} {r : RT β} {d : List (κ × β)} (nD : NoFD D) (n : NoF r) : ThG (gDic D r d) := fun {i o W2 W3 u ob'} h1 h2 h3 h4 h5 h6 h7 hg => by
  obtain ⟨a, oo, kvs, e, hB, hO, hh, hob, pr⟩ := hg
  have ne : a ≠ u := fun z => by rw [z, h5] at hO; cases hO
  exact ⟨a, oo, kvs, e, by rw [h6]; exact hB, by rw [h4 a ne]; exact hO, by rw [h3, upd_ne ne]; exact hh, by rw [h2]; exact nD h1 hob, by rw [h2]; exact pmap pr fun _ _ ⟨x, y⟩ => ⟨x, n h1 y⟩⟩
theorem look_set_self : ∀ {Γ : List SP} {i : Nat} {p : SP}, i < Γ.length → look (Γ.set i p) i = p
  | [], _, _, h => by cases h
  | _ :: _, 0, _, _ => rfl
  | _ :: ps, i + 1, p, h => look_set_self (Γ := ps) (Nat.lt_of_succ_lt_succ h)
theorem set_look : ∀ {Γ : List SP} {i : Nat}, i < Γ.length → Γ.set i (look Γ i) = Γ
  | [], _, h => by cases h
  | _ :: _, 0, _ => rfl
  | p :: ps, i + 1, h => by
    show p :: ps.set i (look ps i) = p :: ps
    rw [set_look (Nat.lt_of_succ_lt_succ h)]
/-- a locked dict that stands at a -/
def rDFA {κ β : Type} (a : Addr) (D : DKd κ) (r : RT β) : RT (List (κ × β)) := ⟨fun H v d => v = .ref a ∧ ∃ od ob kvs, H a = some (.frz od ob) ∧ D.ob a kvs H ob ∧ Paired (DRel r H) kvs d,
  fun e ⟨h0, od, ob, kvs, h2, h3, h4⟩ => ⟨h0, od, ob, kvs, e _ _ h2, D.up e h3, pmap h4 fun _ _ ⟨x, y⟩ => ⟨x, r.mono e y⟩⟩⟩
section
variable {X : Cx} {κ β α : Type} [DecidableEq κ] {D : DKd κ} {r : RT β} {Γ : List SP} {e : Expr} {pos : Pos} {d : List (κ × β)}
theorem xp_dfa {a : Addr} {M : Mp (List (κ × β))} (h : XP X Γ e M (rDFA a D r)) : XP X Γ e M (rDF D r) := XP.map (fun z => z) (fun H v x hx => by obtain ⟨h0, od, ob, kvs, h2, h3, h4⟩ := hx; exact ⟨a, od, ob, kvs, h0, h2, h3, h4⟩) h
theorem lockD (ut : ∀ {a : Addr} {kvs : List (κ × V)} {H : Hp} {o : HO}, D.ob a kvs H o → Mut (some o) ∧ ∀ xs, o ≠ .lst xs) {σ : St} {W : Wd} {i : Nat} (k : W.Ok) (g : Sat Γ σ W) (h : look Γ i = .gen (gDic D r d)) :
    ∃ u ob, W.H u = some ob ∧ Mut (some ob) ∧ ∀ od, ∃ W', W'.Ok ∧ W'.H = upd W.H u (.frz od ob) ∧ Sat (Γ.set i (.cl (rDFA u D r) d)) σ W' ∧
      ∀ W2, W2.Ok → Step W' W2 → W2.H u = some (.frz od ob) ∧ ∃ W3, W3.Ok ∧ W3.H = upd W2.H u ob ∧ FzD W2.Hc u ∧ W3.Hc = er W2.Hc u ∧ (∀ b, b ≠ u → W3.O b = W2.O b) ∧ W3.B = W2.B ∧ Step W W3 ∧
        (∀ (Γ2 : List SP) (σ2 : St), Sat Γ2 σ2 W2 → look Γ2 i = .cl (rDFA u D r) d → (∀ j, j ≠ i → FhS (look Γ2 j)) → Sat (Γ2.set i (.gen (gDic D r d))) σ2 W3) ∧ (Sat (Γ.set i (.cl (rDFA u D r) d)) σ W2 → (∀ j, j ≠ i → FeS (look Γ j)) → Sat Γ σ W3) := by
  obtain ⟨u, ob, kvs, e, hB, ho, hh, hob, pr⟩ := dic_look g h
  have mu := (ut hob).1
  have nl := (ut hob).2
  have nc := (k.own u i ho).1
  have up : ∀ od, Ex W.Hc (upd W.Hc u (.frz od ob)) := fun od b o e => by rw [upd_ne (ne_of_none e nc)]; exact e
  refine ⟨u, ob, hh, mu, fun od => ⟨⟨upd W.Hc u (.frz od ob), upd W.H u (.frz od ob), fun b => if b = u then none else W.O b, W.B⟩, ⟨fun b o q => ?_, fun b j q => ?_, k.basTo (fun _ q => upd_dom q) (fun b o q n w => ?_) fun b e q => by
    have q : (if b = u then none else W.O b) = none := q
    by_cases z : b = u
    · rw [z, hB] at e; exact absurd rfl e
    · rw [if_neg z] at q; exact q⟩, rfl, ?_, fun W2 k2 s2 => ?_⟩⟩
  · have q : upd W.Hc u (.frz od ob) b = some o := q
    show upd W.H u (.frz od ob) b = some o
    by_cases z : b = u
    · rw [z] at q ⊢; rw [upd_same] at q ⊢; exact q
    · rw [upd_ne z] at q ⊢; exact k.ex b o q
  · have q : (if b = u then none else W.O b) = some j := q
    show upd W.Hc u (.frz od ob) b = none ∧ upd W.H u (.frz od ob) b ≠ none
    by_cases z : b = u
    · rw [if_pos z] at q; cases q
    · rw [if_neg z] at q; rw [upd_ne z, upd_ne z]; exact k.own b j q
  · have z : b ≠ u := fun z => by rw [z, hB] at q; exact q rfl
    show upd W.H u (.frz od ob) b = some o
    rw [upd_ne z]; exact w
  · have h1 : Sat (Γ.set i (.cl (rDFA u D r) d)) (σ.set i (some (.ref u))) ⟨upd W.Hc u (.frz od ob), upd W.H u (.frz od ob), fun b => if b = u then none else W.O b, W.B⟩ := SatL.set g (fun j o' nj ej z => by
      rw [Nat.zero_add] at z ⊢
      have ne : ∀ b, W.O b = some j → b ≠ u := fun b q w => by
        rw [w, ho] at q
        exact nj (Option.some.inj q).symm
      have oo : ∀ b, W.O b = some j → (if b = u then none else W.O b) = some j := fun b q => by rw [if_neg (ne b q)]; exact q
      exact z.kp ⟨up od, fun b q => ⟨oo b q, upd_ne (ne b q)⟩, rfl, fun b _ q => by
        show (if b = u then none else W.O b) = none
        by_cases w : b = u
        · rw [if_pos w]
        · rw [if_neg w]; exact q⟩) ⟨.ref u, rfl, rfl, od, ob, kvs, upd_same, D.up (up od) hob, pmap pr fun _ _ ⟨x, y⟩ => ⟨x, r.mono (up od) y⟩⟩
    rw [set_same e] at h1
    exact h1
  · have hc2 : W2.Hc u = some (.frz od ob) := s2.hc u _ upd_same
    have hu2 : W2.H u = some (.frz od ob) := k2.ex u _ hc2
    have ou2 : W2.O u = none := (s2.old u (by show upd W.H u (.frz od ob) u ≠ none; rw [upd_same]; simp) (by show (if u = u then none else W.O u) = none; rw [if_pos rfl])).2
    have hcE : Ex W.Hc W2.Hc := fun b o q => s2.hc b o (up od b o q)
    have hc3 : Ex W.Hc (er W2.Hc u) := er_ex hcE nc
    have B2 : W2.B = W.B := s2.B
    have o3 : ∀ b, b ≠ u → (if b = u then some i else W2.O b) = W2.O b := fun b q => if_neg q
    refine ⟨hu2, ⟨er W2.Hc u, upd W2.H u ob, fun b => if b = u then some i else W2.O b, W2.B⟩, ⟨fun b o q => ?_, fun b j q => ?_, fun b q => ?_⟩, rfl, ⟨od, ob, hc2, nl⟩, rfl, o3, rfl, ⟨fun b o q w => ?_, fun b q => ?_, hc3, fun b q w => ?_, s2.B⟩, fun Γ2 σ2 g2 hl2 hΓ => ?_, fun g2 hΓ => ?_⟩
    · have q : er W2.Hc u b = some o := q
      show upd W2.H u ob b = some o
      by_cases z : b = u
      · rw [z] at q; unfold er at q; rw [if_pos rfl] at q; cases q
      · rw [er_ne z] at q; rw [upd_ne z]; exact k2.ex b o q
    · have q : (if b = u then some i else W2.O b) = some j := q
      show er W2.Hc u b = none ∧ upd W2.H u ob b ≠ none
      by_cases z : b = u
      · rw [z, upd_same]; exact ⟨if_pos rfl, by simp⟩
      · rw [if_neg z] at q; rw [er_ne z, upd_ne z]; exact k2.own b j q
    · have z : b ≠ u := fun z => by
        have q : W2.B b ≠ none := q
        rw [z, B2] at q; exact q hB
      have qq := k2.bas b q
      show upd W2.H u ob b ≠ none ∧ _
      refine ⟨by rw [upd_ne z]; exact qq.1, fun w => ?_⟩
      have w : (if b = u then some i else W2.O b) = none := w
      rw [if_neg z] at w
      show upd W2.H u ob b = W2.B b
      rw [upd_ne z]; exact qq.2 w
    · have z : b ≠ u := fun z => by rw [z, ho] at w; cases w
      show upd W2.H u ob b = some o
      rw [upd_ne z]
      exact s2.keep b o (by show upd W.H u (.frz od ob) b = some o; rw [upd_ne z]; exact q) (by show (if b = u then none else W.O b) = none; rw [if_neg z]; exact w)
    · show upd W2.H u ob b ≠ none
      by_cases z : b = u
      · rw [z, upd_same]; simp
      · rw [upd_ne z]; exact s2.dom b (by show upd W.H u (.frz od ob) b ≠ none; rw [upd_ne z]; exact q)
    · have z : b ≠ u := fun z => by rw [z, ho] at w; cases w
      obtain ⟨a1, a2⟩ := s2.old b (by show upd W.H u (.frz od ob) b ≠ none; rw [upd_ne z]; exact q) (by show (if b = u then none else W.O b) = none; rw [if_neg z]; exact w)
      refine ⟨?_, (if_neg z).trans a2⟩
      show er W2.Hc u b = W.Hc b
      rw [er_ne z, a1]; exact upd_ne z
    · have lt : i < Γ2.length := look_len (by rw [hl2]; simp)
      obtain ⟨o, eo, v, ev, h0, _⟩ := g2.look hl2 (by simp)
      have eo2 : σ2[i]? = some (some (.ref u)) := by rw [eo, ev, h0]
      have h1 := SatL.set (i := i) (p := .gen (gDic D r d)) (o := some (.ref u)) (W' := ⟨er W2.Hc u, upd W2.H u ob, fun b => if b = u then some i else W2.O b, W2.B⟩) g2 (fun j o' nj ej z => by
        rw [Nat.zero_add] at z ⊢
        have th := hΓ j nj
        have ne : ∀ b, W2.O b = some j → b ≠ u := fun b q w => by rw [w, ou2] at q; cases q
        cases hl : look Γ2 j with
        | unk => trivial
        | bot => rw [hl] at z; exact z
        | cl q x => rw [hl] at z th; obtain ⟨v, e1, w⟩ := z; exact ⟨v, e1, th ⟨od, ob, hc2, nl⟩ w⟩
        | own q ys => rw [hl] at z th; obtain ⟨a, ws, e1, n1, o1, h1, p1⟩ := z; exact ⟨a, ws, e1, n1, (if_neg (ne a o1)).trans o1, (upd_ne (ne a o1)).trans h1, pmap p1 fun _ _ => th ⟨od, ob, hc2, nl⟩⟩
        | ownA a q ys => rw [hl] at z th; obtain ⟨ws, e1, o1, h1, p1⟩ := z; exact ⟨ws, e1, (if_neg (ne a o1)).trans o1, (upd_ne (ne a o1)).trans h1, pmap p1 fun _ _ => th ⟨od, ob, hc2, nl⟩⟩
        | bx a => rw [hl] at z; obtain ⟨e1, o1, b1⟩ := z; exact ⟨e1, (if_neg (ne a o1)).trans o1, by show BoxIs (upd W2.H u ob a); rw [upd_ne (ne a o1)]; exact b1⟩
        | dp q x => rw [hl] at z; obtain ⟨v, Hr, e1, w, w2⟩ := z; exact ⟨v, Hr, e1, fun b y hb => ⟨(if_neg (ne b (w b y hb).1)).trans (w b y hb).1, (upd_ne (ne b (w b y hb).1)).trans (w b y hb).2⟩, w2⟩
        | gen gs => rw [hl] at z th; exact th ⟨od, ob, hc2, nl⟩ rfl rfl o3 ou2 rfl (by rw [B2]; exact hB) z) (by
        rw [Nat.zero_add]
        exact ⟨u, ob, kvs, rfl, by show W2.B u = none; rw [B2]; exact hB, if_pos rfl, upd_same, D.up hc3 hob, pmap pr fun _ _ ⟨x, y⟩ => ⟨x, r.mono hc3 y⟩⟩)
      rw [set_same eo2] at h1
      exact h1
    · refine satMap g fun j o' ej z => ?_
      rw [Nat.zero_add] at z ⊢
      by_cases ji : j = i
      · subst ji
        rw [h] at z ⊢
        rw [e] at ej
        cases ej
        exact ⟨u, ob, kvs, rfl, by show W2.B u = none; rw [B2]; exact hB, if_pos rfl, upd_same, D.up hc3 hob, pmap pr fun _ _ ⟨x, y⟩ => ⟨x, r.mono hc3 y⟩⟩
      · have lt : j < Γ.length := by
          have := (List.getElem?_eq_some_iff.mp ej).1
          rw [SatL.len g] at this; exact this
        obtain ⟨o2, e2, z2⟩ := SatL.get (i := j) g2 (by rw [List.length_set]; exact lt)
        rw [ej] at e2
        cases e2
        rw [Nat.zero_add, look_set_ne ji] at z2
        have th := hΓ j ji
        have ne : ∀ b, W2.O b = some j → b ≠ u := fun b q w => by rw [w, ou2] at q; cases q
        cases hl : look Γ j with
        | unk => trivial
        | bot => rw [hl] at z; exact z
        | cl q x => rw [hl] at z; obtain ⟨v, e1, w⟩ := z; exact ⟨v, e1, q.mono hc3 w⟩
        | own q ys => rw [hl] at z2 th; obtain ⟨a, ws, e1, n1, o1, h1, p1⟩ := z2; exact ⟨a, ws, e1, n1, (if_neg (ne a o1)).trans o1, (upd_ne (ne a o1)).trans h1, pmap p1 fun _ _ => th ⟨od, ob, hc2, nl⟩⟩
        | ownA a q ys => rw [hl] at z2 th; obtain ⟨ws, e1, o1, h1, p1⟩ := z2; exact ⟨ws, e1, (if_neg (ne a o1)).trans o1, (upd_ne (ne a o1)).trans h1, pmap p1 fun _ _ => th ⟨od, ob, hc2, nl⟩⟩
        | bx a => rw [hl] at z2; obtain ⟨e1, o1, b1⟩ := z2; exact ⟨e1, (if_neg (ne a o1)).trans o1, by show BoxIs (upd W2.H u ob a); rw [upd_ne (ne a o1)]; exact b1⟩
        | dp q x => rw [hl] at z2; obtain ⟨v, Hr, e1, w, w2⟩ := z2; exact ⟨v, Hr, e1, fun b y hb => ⟨(if_neg (ne b (w b y hb).1)).trans (w b y hb).1, (upd_ne (ne b (w b y hb).1)).trans (w b y hb).2⟩, w2⟩
        | gen gs => rw [hl] at z2 th; exact th ⟨od, ob, hc2, nl⟩ rfl rfl o3 ou2 rfl (by rw [B2]; exact hB) z2
/-- an expression that reads one's own dict -/
theorem xn_lockD (Z : DKz X D) (i : Nat) {q : RT α} {M : Mp (List α)} (h : look Γ i = .gen (gDic D r d)) (hΓ : ∀ j, j ≠ i → FeS (look Γ j)) (hq : NoF q) (hx : ∀ a, XN X (Γ.set i (.cl (rDFA a D r) d)) e M q) : XN X Γ e M q := by
  have hx2 := fun a => Classical.choose_spec (hx a)
  have pe : PE X e (fun σ H Q => ∃ a, Classical.choose (hx a) σ H Q) := ⟨fun pins s σ H Q I ⟨a, w⟩ => (hx2 a).1.run pins s σ H Q I w⟩
  refine ⟨_, pe_lock pe, fun σ W k g Q P m c => ?_⟩
  obtain ⟨u, ob, hu, mu, L⟩ := lockD Z.ut k g h
  refine ⟨u, ob, hu, mu, fun od => ⟨u, ?_⟩⟩
  obtain ⟨W', k', eH, g', T⟩ := L od
  rw [← eH]
  refine (hx2 u).2 σ W' k' g' _ P m fun ys l vs W2 m2 k2 s2 g2 n2 nc2 no2 hh2 pr2 => ?_
  obtain ⟨hu2, W3, k3, e3, hcu, ec3, o3, b3, s3, G⟩ := T W2 k2 s2
  have g3 := G.2 g2 hΓ
  rw [eH] at n2
  have ne : l ≠ u := fun z => by rw [z, upd_same] at n2; cases n2
  refine ⟨hu2, ?_⟩
  rw [← e3]
  refine c ys l vs W3 m2 k3 s3 g3 (by rw [upd_ne ne] at n2; exact n2) (by rw [ec3, er_ne ne]; exact nc2) ((o3 l ne).trans no2) (by rw [e3, upd_ne ne]; exact hh2) (by rw [ec3]; exact pmap pr2 fun _ _ => hq hcu)
theorem xp_lockD (Z : DKz X D) (i : Nat) {q : RT α} {M : Mp α} (h : look Γ i = .gen (gDic D r d)) (hΓ : ∀ j, j ≠ i → FeS (look Γ j)) (hq : NoF q) (hx : ∀ a, XP X (Γ.set i (.cl (rDFA a D r) d)) e M q) : XP X Γ e M q := by
  have hx2 := fun a => Classical.choose_spec (hx a)
  have pe : PE X e (fun σ H Q => ∃ a, Classical.choose (hx a) σ H Q) := ⟨fun pins s σ H Q I ⟨a, w⟩ => (hx2 a).1.run pins s σ H Q I w⟩
  refine ⟨_, pe_lock pe, fun σ W k g Q P m c => ?_⟩
  obtain ⟨u, ob, hu, mu, L⟩ := lockD Z.ut k g h
  refine ⟨u, ob, hu, mu, fun od => ⟨u, ?_⟩⟩
  obtain ⟨W', k', eH, g', T⟩ := L od
  rw [← eH]
  refine (hx2 u).2 σ W' k' g' _ P m fun y v W2 m2 k2 s2 g2 r2 => ?_
  obtain ⟨hu2, W3, k3, e3, hcu, ec3, o3, b3, s3, G⟩ := T W2 k2 s2
  have g3 := G.2 g2 hΓ
  refine ⟨hu2, ?_⟩
  rw [← e3]
  exact c y v W3 m2 k3 s3 g3 (by rw [ec3]; exact hq hcu r2)
end
end TM
set_option Elab.async false
set_option linter.all false
set_option maxRecDepth 100000
set_option maxHeartbeats 1000000
namespace TM
open PySem PySem.Spec PyProof.Rows L2
theorem fds_cons {Hc : Hp} {n : Str} {α : Type} {r : RT α} {x : α} {L : List Fd} : ∀ {fs : List (Str × V)}, FdsOk Hc (⟨n, α, r, x⟩ :: L) fs → ∃ v fs', fs = (n, v) :: fs' ∧ r.ok Hc v x ∧ FdsOk Hc L fs'
  | [], h => h.elim
  | (m, v) :: fs, h => ⟨v, fs, by rw [show m = n from h.1.1], h.1.2, h.2⟩
theorem fds_nil {Hc : Hp} : ∀ {fs : List (Str × V)}, FdsOk Hc [] fs → fs = []
  | [], _ => rfl
  | _ :: _, h => h.elim
theorem u65 {k : Nat} {A : Around} (r : Room k A) : A.units + 65 < cLine := by have := r.un; omega
section
variable {X : Cx} {Γ : List SP} {α β γ δ τ S S' B R : Type} {e a b c : Expr} {es : List Expr} {pos p2 : Pos} {st : Stmt} {sts rest body : List Stmt} {x : Str}
/-! ## len of one's own dict -/
theorem xp_dlen {κ : Type} [DecidableEq κ] {D : DKd κ} {r : RT β} {d : List (κ × β)} (Z : DKz X D) {p : Pos} (i : Nat) (h : look Γ i = .gen (gDic D r d)) (hm : X.mg "len" = none) (hN : X.N[i]? = some x := by rfl) (hv : Vis X.env.scope x := by first | exact Or.inl rfl | exact Or.inr (Or.inl rfl) | exact Or.inr (Or.inr rfl)) (hd : (x == ("__debug__" : Str)) = false := by decide) (hcd : (x == ("__classdict__" : Str)) = false := by decide)
    (hg : Gl X "len" := by rfl) (h1 : starEach [.Name x p2] X.env = (false, eval (.Name x p2) X.env) :: starEach [] X.env := by rfl) :
    XP X Γ (.Call (.Name "len" p) [.Name x p2] [] pos) (fun P => P (d.length : Int)) rInt := by
  refine ⟨_, pe_callB Z.hlen hg hm PySem.boot_len (pa_cons (pe_var hN hv hd hcd) pa_nil h1) (by decide) (by decide) h1, fun σ W k g Q P m hh => ?_⟩
  obtain ⟨a, ob, kvs, eo, hB, hO, hh1, hob, pr⟩ := dic_look g h
  refine ⟨.ref a, eo, Z.len_ k (.inl hh1) hob (hh _ _ W m k (Step.refl W) g ?_)⟩
  show V.int _ = V.int _
  rw [pr.length]
/-! ## list(range(n)) -/
theorem paired_rg (n : Int) : Paired (rInt.ok (fun _ => none)) (rgV 0 n) (rangeL 0 n.toNat) := by
  unfold rgV rangeL
  rw [Int.sub_zero]
  generalize List.range n.toNat = l
  induction l with
  | nil => exact .nil
  | cons i l ih => exact .cons rfl ih
theorem xn_listRange {p p3 : Pos} {M : Mp Int} (hcalm : X.calm = true) (hm : X.mg "list" = none) (hm2 : X.mg "range" = none) (ha : XP X Γ e M rInt) (hg : Gl X "list" := by rfl) (hg2 : Gl X "range" := by rfl) (h1 : starEach [e] X.env = (false, eval e X.env) :: starEach [] X.env := by rfl)
    (h2 : starEach [.Call (.Name "range" p2) [e] [] p3] X.env = (false, eval (.Call (.Name "range" p2) [e] [] p3) X.env) :: starEach [] X.env := by rfl) :
    XN X Γ (.Call (.Name "list" p) [.Call (.Name "range" p2) [e] [] p3] [] pos) (fun P => M fun n => (RgOk n ∧ n ≤ 1000) ∧ P (rangeL 0 n.toNat)) rInt := by
  obtain ⟨t, pp, q⟩ := ha
  refine ⟨_, pe_listRg hcalm hg hm (prg_1 hg2 hm2 pp h1) h2, fun σ W k s Q P m h => ?_⟩
  refine q σ W k s _ _ m fun n v W1 ⟨⟨m1, m2⟩, m3⟩ k1 s1 g1 r1 => ?_
  have r1 : v = .int n := r1
  subst r1
  obtain ⟨b1, b2⟩ := m1
  refine ⟨n, rfl, ⟨by decide, by decide, b1, b2, by omega⟩, fun l nl => ?_⟩
  have g := grow_lay (W := W1) (o := .lst (rgV 0 n)) nl
  exact h _ l _ (W1.lay l (.lst (rgV 0 n))) m3 (k1.lay nl) (s1.trans g.step) (g1.up (g.up k1)) (fresh_of s1 nl) (k1.none_of nl) (k1.free nl) upd_same (paired_rg n)
/-! ## rows of two numbers are pairs -/
def prOf (t : List Int) : Int × Int := (t.getD 0 0, t.getD 1 0)
theorem paired_toP {H : Hp} {vs : List V} {xs : List (List Int)} (h : Paired ((rT rInt).ok H) vs xs) : (∀ t ∈ xs, t.length = 2) → Paired ((rP rInt rInt).ok H) vs (xs.map prOf) := by
  induction h with
  | nil => intro _; exact .nil
  | @cons v x vs xs h t ih =>
    intro hl
    refine .cons ?_ (ih fun t m => hl t (List.mem_cons_of_mem _ m))
    obtain ⟨a, us, e, hh, pr⟩ := h
    have := hl x List.mem_cons_self
    match x, this, pr with
    | [p, q], _, .cons h1 (.cons h2 .nil) => exact ⟨a, _, _, e, hh, h1, h2⟩
theorem xn_toP {M : Mp (List (List Int))} (h : XN X Γ e M (rT rInt)) : XN X Γ e (fun P => M fun xs => (∀ t ∈ xs, t.length = 2) ∧ P (xs.map prOf)) (rP rInt rInt) := by
  obtain ⟨t, p, q⟩ := h
  exact ⟨t, p, fun σ W k s Q P m hh => q σ W k s Q _ m fun xs l vs W1 ⟨m1, m2⟩ k1 s1 g1 n nc no hl pr => hh _ l vs W1 m2 k1 s1 g1 n nc no hl (paired_toP pr m1)⟩
/-! ## one's own list moves to another name -/
theorem xt_mv (j i : Nat) {x y : Str} {p' : Pos} {r : RT α} {xs : List α} (hij : i ≠ j) (h : look Γ i = .own r xs) (hl : j < Γ.length) (hnd : X.N.Nodup) (hN : X.N[j]? = some x := by rfl) (hx : Loc X.env.scope x := by first | exact .inl rfl | exact .inr rfl)
    (hNi : X.N[i]? = some y := by rfl) (hvi : Vis X.env.scope y := by first | exact Or.inl rfl | exact Or.inr (Or.inl rfl) | exact Or.inr (Or.inr rfl)) (hdi : (y == ("__debug__" : Str)) = false := by decide) (hcdi : (y == ("__classdict__" : Str)) = false := by decide)
    (hs : swapsWith (.Name y p2) (some (.Name x p')) pos.line X.env = pure false := by rfl) (hf : X.fn x = true ∨ X.env.scope.names.lookup x = some .local := by first | exact .inl rfl | exact .inr rfl) {Γb : B → List SP} {RR : R → V → Wd → Prop} :
    XSt X Γ (.Assign [.Name x p'] (.Name y p2) pos) (fun κ : Kn (List α) B R => κ.nx xs) (fun x => (Γ.set i .unk).set j (.own r x)) Γb RR := by
  refine ⟨_, ps_set hnd hN hx (pe_var hNi hvi hdi hcdi) hs hf, fun σ W k g κ D m h1 _ _ _ => ?_⟩
  obtain ⟨o, e, u, vs, rfl, n, ho, hh, pr⟩ := g.look h (by simp)
  refine ⟨.ref u, e, ?_⟩
  have oo : ∀ b k, k ≠ i → W.O b = some k → b ≠ u := fun b k nk q z => by rw [z, ho] at q; exact nk (Option.some.inj q).symm
  refine h1 xs _ ⟨W.Hc, W.H, fun b => if b = u then some j else W.O b, W.B⟩ m ⟨k.ex, fun b l q => ?_, k.basTo (fun _ q => q) (fun _ _ _ _ q => q) fun b e q => by
    have q : (if b = u then some j else W.O b) = none := q
    by_cases z : b = u
    · rw [if_pos z] at q; cases q
    · rw [if_neg z] at q; exact q⟩ ⟨fun b o a c => a, fun _ q => q, fun _ _ q => q, fun b a c => ⟨rfl, ?_⟩, rfl⟩ ?_
  · have q : (if b = u then some j else W.O b) = some l := q
    by_cases z : b = u
    · rw [z]; exact k.own u i ho
    · rw [if_neg z] at q; exact k.own b l q
  · show (if b = u then some j else W.O b) = none
    rw [if_neg fun z => by rw [z, ho] at c; cases c]; exact c
  · refine SatL.set (W := W) (g.put (i := i) (p := .unk) (o := some (.ref u)) trivial |> fun q => by rw [set_same e] at q; exact q) (fun l o' nl el z => ?_) ?_
    · rw [Nat.zero_add] at z ⊢
      by_cases li : l = i
      · subst li
        rw [look_set_self (look_len (by rw [h]; simp))]
        trivial
      · exact z.kp ⟨fun _ _ q => q, fun b q => ⟨by show (if b = u then some j else W.O b) = some l; rw [if_neg (oo b l li q)]; exact q, rfl⟩, rfl, fun b hb q => by
          show (if b = u then some j else W.O b) = none
          rw [if_neg fun z => by rw [z] at hb; exact hb n]; exact q⟩
    · rw [Nat.zero_add]
      exact ⟨u, vs, rfl, n, if_pos rfl, hh, pr⟩
/-! ## tests -/
theorem xt_inLD {r : RT α} [DecidableEq α] (D : DatR r) (hn : D.n ≤ 60) (hu : X.A.units + 65 < cLine) {Ma : Mp α} {Mb : Mp (List α)} (ha : XP X Γ a Ma r) (hb : XB X Γ b Mb r) (hm : behindInMarks .In b = false := by rfl) : XT X Γ (.Compare a [.In] [b] pos) (fun P => Ma fun x => Mb fun xs => (D.g x ∧ ∀ z ∈ xs, D.g z) ∧ P (memD x xs)) := by
  obtain ⟨t, p, q⟩ := ha
  obtain ⟨u, p2, q2⟩ := hb
  exact ⟨_, pt_cmpR (op_inD hu) p p2 hm, fun σ W k s Q P m h => inD_core (neg := false) D hn (fun h1 h2 h3 h4 h5 => ⟨_, _, h1, h2, h3, h4, h5⟩) q q2 k s _ P m fun z v W' m' k' s' g' r' => ⟨z, r', h z W' m' k' s' g'⟩⟩
theorem xt_ninLD {r : RT α} [DecidableEq α] (D : DatR r) (hn : D.n ≤ 60) (hu : X.A.units + 65 < cLine) {Ma : Mp α} {Mb : Mp (List α)} (ha : XP X Γ a Ma r) (hb : XB X Γ b Mb r) (hm : behindInMarks .NotIn b = false := by rfl) : XT X Γ (.Compare a [.NotIn] [b] pos) (fun P => Ma fun x => Mb fun xs => (D.g x ∧ ∀ z ∈ xs, D.g z) ∧ P (!memD x xs)) := by
  obtain ⟨t, p, q⟩ := ha
  obtain ⟨u, p2, q2⟩ := hb
  exact ⟨_, pt_cmpR (op_notInD hu) p p2 hm, fun σ W k s Q P m h => inD_core (neg := true) D hn (fun h1 h2 h3 h4 h5 => ⟨_, _, h1, h2, h3, h4, h5⟩) q q2 k s _ P m fun z v W' m' k' s' g' r' => ⟨z, r', h z W' m' k' s' g'⟩⟩
theorem xt_din {κ : Type} [DecidableEq κ] {D : DKd κ} {r : RT β} {d : List (κ × β)} (DO : DKo X D) (i : Nat) (h : look Γ i = .gen (gDic D r d)) {M : Mp κ} (hb : XP X Γ b M D.k) (hm : behindInMarks .In (.Name x p2) = false := by rfl) (hN : X.N[i]? = some x := by rfl) (hv : Vis X.env.scope x := by first | exact Or.inl rfl | exact Or.inr (Or.inl rfl) | exact Or.inr (Or.inr rfl)) (hd : (x == ("__debug__" : Str)) = false := by decide) (hcd : (x == ("__classdict__" : Str)) = false := by decide) :
    XT X Γ (.Compare b [.In] [.Name x p2] pos) (fun P => M fun k => P (lookA d k).isSome) := by
  obtain ⟨t, p, q⟩ := hb
  refine ⟨_, pt_cmpR DO.hin p (pe_var hN hv hd hcd) hm, fun σ W k g Q P m hh => ?_⟩
  refine q σ W k g _ _ m fun z v W1 m1 k1 s1 g1 r1 => ?_
  obtain ⟨a, ob, kvs, eo, _, _, hh1, hob, pr⟩ := dic_look g1 h
  exact ⟨.ref a, eo, DO.in_ k1 hh1 hob r1 ⟨_, rfl, hh _ W1 (by rw [drel_look pr z]; exact m1) k1 s1 g1⟩⟩
theorem xt_dnin {κ : Type} [DecidableEq κ] {D : DKd κ} {r : RT β} {d : List (κ × β)} (DO : DKo X D) (i : Nat) (h : look Γ i = .gen (gDic D r d)) {M : Mp κ} (hb : XP X Γ b M D.k) (hm : behindInMarks .NotIn (.Name x p2) = false := by rfl) (hN : X.N[i]? = some x := by rfl) (hv : Vis X.env.scope x := by first | exact Or.inl rfl | exact Or.inr (Or.inl rfl) | exact Or.inr (Or.inr rfl)) (hd : (x == ("__debug__" : Str)) = false := by decide) (hcd : (x == ("__classdict__" : Str)) = false := by decide) :
    XT X Γ (.Compare b [.NotIn] [.Name x p2] pos) (fun P => M fun k => P (!(lookA d k).isSome)) := by
  obtain ⟨t, p, q⟩ := hb
  refine ⟨_, pt_cmpR DO.hnin p (pe_var hN hv hd hcd) hm, fun σ W k g Q P m hh => ?_⟩
  refine q σ W k g _ _ m fun z v W1 m1 k1 s1 g1 r1 => ?_
  obtain ⟨a, ob, kvs, eo, _, _, hh1, hob, pr⟩ := dic_look g1 h
  exact ⟨.ref a, eo, DO.nin_ k1 hh1 hob r1 ⟨_, rfl, hh _ W1 (by rw [drel_look pr z]; exact m1) k1 s1 g1⟩⟩
end
end TM
set_option Elab.async false
set_option linter.all false
set_option maxRecDepth 100000
set_option maxHeartbeats 1000000
namespace TM
open PySem PySem.Spec PyProof.Rows L2
/-! ## defs that change what they are handed -/
/-- a kind of things of one's own: what stands at its address -/
structure OwnK (γ : Type) where
  ob : Addr → γ → Hp → HO → Prop
  up : ∀ {a : Addr} {x : γ} {H H' : Hp} {o : HO}, Ex H H' → ob a x H o → ob a x H' o
section
variable {α β γ κ τ S : Type}
def okL (r : RT α) : OwnK (List α) := ⟨fun _ xs H o => ∃ vs, o = .lst vs ∧ Paired (r.ok H) vs xs, fun e ⟨vs, h1, h2⟩ => ⟨vs, h1, pmap h2 fun _ _ => r.mono e⟩⟩
def okD (D : DKd κ) (r : RT β) : OwnK (List (κ × β)) := ⟨fun a d H o => ∃ kvs, D.ob a kvs H o ∧ Paired (DRel r H) kvs d, fun e ⟨kvs, h1, h2⟩ => ⟨kvs, D.up e h1, pmap h2 fun _ _ ⟨x, y⟩ => ⟨x, r.mono e y⟩⟩⟩
/-- the thing at a, handed in -/
def gA (k : OwnK γ) (a : Addr) (x : γ) : GS := ⟨fun i o W => o = some (.ref a) ∧ W.O a = some i ∧ ∃ u, W.H a = some u ∧ k.ob a x W.Hc u, fun {i o W W'} h g => by
  obtain ⟨h1, h2, u, h3, h4⟩ := h
  exact ⟨h1, (g.own a h2).1, u, by rw [(g.own a h2).2]; exact h3, k.up g.hc h4⟩⟩
/-- how a slot of the caller is handed in and taken back -/
structure MK where
  inC : SP
  outC : SP
  inF : Addr → SP
  outF : Addr → SP
  ne : inC ≠ .unk
  hin : ∀ {i : Nat} {o : Option V} {W : Wd}, SPok inC i o W → ∃ a, o = some (.ref a) ∧ W.O a = some i ∧ ∀ {j : Nat} {W0 : Wd}, W0.Hc = W.Hc → W0.H = W.H → W0.O a = some j → SPok (inF a) j (some (.ref a)) W0
  hout : ∀ {i j : Nat} {W W' W2 : Wd} {a : Addr}, SPok inC i (some (.ref a)) W → SPok (outF a) j (some (.ref a)) W' → W2.Hc = W'.Hc → W2.H = W'.H → W2.O a = some i → W2.B = W.B → SPok outC i (some (.ref a)) W2
  hO : ∀ {j : Nat} {o : Option V} {W : Wd} {a : Addr}, SPok (outF a) j o W → W.O a = some j
def mkL (r : RT α) (xs ys : List α) : MK where
  inC := .own r xs
  outC := .own r ys
  inF := fun a => .gen (gA (okL r) a xs)
  outF := fun a => .gen (gA (okL r) a ys)
  ne := by simp
  hin := fun {i o W} ⟨a, vs, e, n, ho, hh, pr⟩ => ⟨a, e, ho, fun h1 h2 h3 => ⟨rfl, h3, _, by rw [h2]; exact hh, vs, rfl, by rw [h1]; exact pr⟩⟩
  hout := fun {i j W W' W2 a} ⟨a', vs', e', n', ho', hh', pr'⟩ ⟨e, ho, u, hh, vs, hu, pr⟩ h1 h2 h3 h4 => by
    subst hu
    cases e'
    exact ⟨a, vs, rfl, by rw [h4]; exact n', h3, by rw [h2]; exact hh, by rw [h1]; exact pr⟩
  hO := fun h => h.2.1
def mkD (D : DKd κ) (r : RT β) (d d' : List (κ × β)) : MK where
  inC := .gen (gDic D r d)
  outC := .gen (gDic D r d')
  inF := fun a => .gen (gA (okD D r) a d)
  outF := fun a => .gen (gA (okD D r) a d')
  ne := by simp
  hin := fun {i o W} ⟨a, ob, kvs, e, n, ho, hh, hob, pr⟩ => ⟨a, e, ho, fun h1 h2 h3 => ⟨rfl, h3, ob, by rw [h2]; exact hh, kvs, by rw [h1]; exact hob, by rw [h1]; exact pr⟩⟩
  hout := fun {i j W W' W2 a} ⟨a', ob', kvs', e', n', ho', hh', hob', pr'⟩ ⟨e, ho, u, hh, kvs, hu, pr⟩ h1 h2 h3 h4 => by
    cases e'
    exact ⟨a, u, kvs, rfl, by rw [h4]; exact n', h3, by rw [h2]; exact hh, by rw [h1]; exact hu, by rw [h1]; exact pr⟩
  hO := fun h => h.2.1
def mkA (k : OwnK γ) (a0 : Addr) (x y : γ) : MK where
  inC := .gen (gA k a0 x)
  outC := .gen (gA k a0 y)
  inF := fun a => .gen (gA k a x)
  outF := fun a => .gen (gA k a y)
  ne := by simp
  hin := fun {i o W} ⟨e, ho, u, hh, hu⟩ => ⟨a0, e, ho, fun h1 h2 h3 => ⟨rfl, h3, u, by rw [h2]; exact hh, by rw [h1]; exact hu⟩⟩
  hout := fun {i j W W' W2 a} ⟨e', ho', u', hh', hu'⟩ ⟨e, ho, u, hh, hu⟩ h1 h2 h3 h4 => by
    cases e'
    exact ⟨rfl, h3, u, by rw [h2]; exact hh, by rw [h1]; exact hu⟩
  hO := fun h => h.2.1
/-- who owns what is handed in -/
def ownOf (js : List Nat) (ad : Nat → Addr) (b : Addr) : Option Nat := js.find? fun j => decide (ad j = b)
def spM (js : List Nat) (sps : (Nat → Addr) → τ → List SP) (F : τ → (S → Prop) → Prop) (outs : (Nat → Addr) → S → Nat → SP) : Sp := fun vs H Q _ => ∃ (ad : Nat → Addr) (x : τ) (W : Wd) (P : S → Prop), W.H = H ∧ W.B = H ∧ W.Ok ∧ (∀ b, W.O b = ownOf js ad b) ∧ SatL 0 (sps ad x) (vs.map some) W ∧ F x P ∧
  ∀ s W', P s → W'.Ok → Step W W' → (∀ j ∈ js, SPok (outs ad s j) j (some (.ref (ad j))) W') → Q .non W'.H
theorem ownOf_some {js : List Nat} {ad : Nat → Addr} {b : Addr} {j : Nat} (h : ownOf js ad b = some j) : j ∈ js ∧ ad j = b := by
  unfold ownOf at h
  have h1 := List.mem_of_find?_eq_some h
  have h2 := List.find?_some h
  exact ⟨h1, of_decide_eq_true h2⟩
theorem ownOf_self {js : List Nat} {ad : Nat → Addr} (inj : ∀ j ∈ js, ∀ j' ∈ js, ad j = ad j' → j = j') {j : Nat} (hj : j ∈ js) : ownOf js ad (ad j) = some j := by
  cases h : ownOf js ad (ad j) with
  | none =>
    unfold ownOf at h
    have := List.find?_eq_none.mp h j hj
    simp at this
  | some j' =>
    obtain ⟨h1, h2⟩ := ownOf_some h
    rw [inj j' h1 j hj h2]
/-- slots of what is handed in -/
structure RO (τ : Type) where
  R : St → Wd → List V → τ → Prop
  sps : Nat → (Nat → Addr) → τ → List SP
  os : Nat → List (Nat × Nat × (Addr → SP))
  sat : ∀ (n : Nat) {σ : St} {W W0 : Wd} {vs : List V} {x : τ} {ad : Nat → Addr}, R σ W vs x → W0.Hc = W.Hc → (∀ p ∈ os n, ∀ a, σ[p.2.1]? = some (some (.ref a)) → ad p.1 = a ∧ SPok (p.2.2 a) p.1 (some (.ref a)) W0) → SatL n (sps n ad x) (vs.map some) W0
def ro0 : RO Unit := ⟨fun _ _ vs _ => vs = [], fun _ _ _ => [], fun _ => [], fun n {σ W W0 vs x ad} h _ _ => by
  have h : vs = [] := h
  subst h; trivial⟩
def roc (r : RT α) (R : RO τ) : RO (α × τ) := ⟨fun σ W vs x => ∃ v ws, vs = v :: ws ∧ r.ok W.Hc v x.1 ∧ R.R σ W ws x.2, fun n ad x => .cl r x.1 :: R.sps (n + 1) ad x.2, fun n => R.os (n + 1), fun n {σ W W0 vs x ad} ⟨v, ws, e, h1, h2⟩ hc ho => by
  subst e
  exact ⟨⟨v, rfl, by rw [hc]; exact h1⟩, R.sat (n + 1) h2 hc ho⟩⟩
def roo (i : Nat) (f : γ → Addr → SP) (x0 : γ) (R : RO τ) : RO (γ × τ) := ⟨fun σ W vs x => ∃ a ws, vs = .ref a :: ws ∧ σ[i]? = some (some (.ref a)) ∧ x.1 = x0 ∧ R.R σ W ws x.2, fun n ad x => f x.1 (ad n) :: R.sps (n + 1) ad x.2, fun n => (n, i, f x0) :: R.os (n + 1), fun n {σ W W0 vs x ad} ⟨a, ws, e, h1, h2, h3⟩ hc ho => by
  subst e
  obtain ⟨e1, e2⟩ := ho _ List.mem_cons_self a h1
  have e1 : ad n = a := e1
  refine ⟨?_, R.sat (n + 1) h3 hc fun p mp => ho p (List.mem_cons_of_mem _ mp)⟩
  show SPok (f x.1 (ad n)) n (some (.ref a)) W0
  rw [h2, e1]; exact e2⟩
def setL (l : List (Nat × SP)) (Γ : List SP) : List SP := l.foldl (fun Γ p => Γ.set p.1 p.2) Γ
theorem setL_len : ∀ {l : List (Nat × SP)} {Γ : List SP}, (setL l Γ).length = Γ.length
  | [], _ => rfl
  | p :: l, Γ => by
    show (setL l (Γ.set p.1 p.2)).length = _
    rw [setL_len, List.length_set]
theorem setL_ne : ∀ {l : List (Nat × SP)} {Γ : List SP} {k : Nat}, k ∉ l.map (·.1) → look (setL l Γ) k = look Γ k
  | [], _, _, _ => rfl
  | p :: l, Γ, k, h => by
    rw [List.map_cons, List.mem_cons, not_or] at h
    show look (setL l (Γ.set p.1 p.2)) k = _
    rw [setL_ne h.2, look_set_ne h.1]
theorem setL_mem : ∀ {l : List (Nat × SP)} {Γ : List SP} {p : Nat × SP}, (l.map (·.1)).Nodup → p ∈ l → p.1 < Γ.length → look (setL l Γ) p.1 = p.2
  | q :: l, Γ, p, nd, m, hl => by
    rw [List.map_cons, List.nodup_cons] at nd
    show look (setL l (Γ.set q.1 q.2)) p.1 = _
    rcases List.mem_cons.mp m with rfl | m
    · rw [setL_ne nd.1, look_set_self hl]
    · exact setL_mem nd.2 m (by rw [List.length_set]; exact hl)
theorem sat_pt {W W' : Wd} {Γ Γ' : List SP} {σ : St} (h : Sat Γ σ W) (hl : Γ'.length = Γ.length) (hk : ∀ k o, σ[k]? = some o → SPok (look Γ k) k o W → SPok (look Γ' k) k o W') : Sat Γ' σ W' := by
  have gen : ∀ (Γ Γ' : List SP) (n : Nat) (σ : St), SatL n Γ σ W → Γ'.length = Γ.length → (∀ k o, σ[k]? = some o → SPok (look Γ k) (n + k) o W → SPok (look Γ' k) (n + k) o W') → SatL n Γ' σ W' := by
    intro Γ
    induction Γ with
    | nil => intro Γ' n σ h hl _; cases Γ' with
      | nil => cases σ with
        | nil => trivial
        | cons _ _ => exact h.elim
      | cons _ _ => cases hl
    | cons p Γ ih => intro Γ' n σ h hl hk; cases Γ' with
      | nil => cases hl
      | cons p' Γ' => cases σ with
        | nil => exact h.elim
        | cons o σ =>
          refine ⟨hk 0 o rfl h.1, ih Γ' (n + 1) σ h.2 (by simpa using hl) fun k o' e z => ?_⟩
          have := hk (k + 1) o' (by simpa using e) (by show SPok (look Γ k) (n + (k + 1)) o' W; rw [show n + (k + 1) = n + 1 + k by omega]; exact z)
          rw [show n + 1 + k = n + (k + 1) by omega]
          exact this
  exact gen Γ Γ' 0 σ h hl fun k o e z => by
    rw [Nat.zero_add] at z ⊢
    exact hk k o e z
end
section
variable {X : Cx} {Γ : List SP} {α β γ κ τ S B R : Type} {e a b : Expr} {es : List Expr} {pos p2 : Pos} {x nm : Str}
def XAo (X : Cx) (Γ : List SP) (es : List Expr) (M : Mp τ) (R : St → Wd → List V → τ → Prop) : Prop := ∃ t, PA X es t ∧ ∀ (σ : St) (W : Wd), W.Ok → Sat Γ σ W → ∀ (Q : List V → Hp → Prop) (P : τ → Prop), M P → (∀ x vs W', P x → W'.Ok → Step W W' → Sat Γ σ W' → R σ W' vs x → Q vs W'.H) → t σ W.H Q
theorem xo_nil : XAo X Γ [] (fun P => P ()) ro0.R := ⟨_, pa_nil, fun σ W k g Q P m h => h () [] W m k (Step.refl W) g rfl⟩
theorem xo_cl {r : RT α} {Mo : Mp α} {N : Mp τ} {Ro : RO τ} (h : XP X Γ e Mo r) (hr : XAo X Γ es N Ro.R) (hs : starEach (e :: es) X.env = (false, eval e X.env) :: starEach es X.env := by rfl) : XAo X Γ (e :: es) (fun P => Mo fun x => N fun z => P (x, z)) (roc r Ro).R := by
  obtain ⟨t, p, q⟩ := h
  obtain ⟨u, p2, q2⟩ := hr
  refine ⟨_, pa_cons p p2 hs, fun σ W k g Q P m hh => ?_⟩
  refine q σ W k g _ _ m fun x v W1 m1 k1 s1 g1 r1 => ?_
  exact q2 σ W1 k1 g1 _ _ m1 fun z vs W2 m2 k2 s2 g2 r2 => hh (x, z) (v :: vs) W2 m2 k2 (s1.trans s2) g2 ⟨v, vs, rfl, r.mono s2.hc r1, r2⟩
theorem xo_own (i : Nat) {f : γ → Addr → SP} {x0 : γ} {K : MK} {pn : Pos} {N : Mp τ} {Ro : RO τ} (hi : look Γ i = K.inC) (hr : XAo X Γ es N Ro.R) (hN : X.N[i]? = some nm := by rfl) (hv : Vis X.env.scope nm := by first | exact Or.inl rfl | exact Or.inr (Or.inl rfl) | exact Or.inr (Or.inr rfl)) (hd : (nm == ("__debug__" : Str)) = false := by decide) (hcd : (nm == ("__classdict__" : Str)) = false := by decide)
    (hs : starEach (.Name nm pn :: es) X.env = (false, eval (.Name nm pn) X.env) :: starEach es X.env := by rfl) : XAo X Γ (.Name nm pn :: es) (fun P => N fun z => P (x0, z)) (roo i f x0 Ro).R := by
  obtain ⟨u, p2, q2⟩ := hr
  refine ⟨_, pa_cons (pe_var hN hv hd hcd) p2 hs, fun σ W k g Q P m hh => ?_⟩
  obtain ⟨o, eo, so⟩ := g.look hi K.ne
  obtain ⟨a, e, ho, _⟩ := K.hin so
  subst e
  refine ⟨.ref a, eo, ?_⟩
  exact q2 σ W k g _ _ m fun z vs W2 m2 k2 s2 g2 r2 => hh (x0, z) (.ref a :: vs) W2 m2 k2 s2 g2 ⟨a, vs, rfl, eo, rfl, r2⟩
theorem nd_map_inj {cs : Nat → Nat} : ∀ {js : List Nat}, (js.map cs).Nodup → ∀ j ∈ js, ∀ j' ∈ js, cs j = cs j' → j = j'
  | [], _, _, m, _, _, _ => by cases m
  | q :: l, h, j, m, j', m', e => by
    rw [List.map_cons, List.nodup_cons] at h
    rcases List.mem_cons.mp m with h1 | n1
    · rcases List.mem_cons.mp m' with h2 | n2
      · rw [h1, h2]
      · exact absurd (by rw [← h1, e]; exact List.mem_map.mpr ⟨j', n2, rfl⟩) h.1
    · rcases List.mem_cons.mp m' with h2 | n2
      · exact absurd (by rw [← h2, ← e]; exact List.mem_map.mpr ⟨j, n1, rfl⟩) h.1
      · exact nd_map_inj h.2 j n1 j' n2 e
/-- the call -/
theorem xq_callM {k j : Nat} {ps : List Str} {p : Pos} {Ro : RO τ} {F : τ → (S → Prop) → Prop} {M : Mp τ} {outs : (Nat → Addr) → S → Nat → SP} (cs : Nat → Nat) {js : List Nat} (mk : Nat → S → MK) (inF : Nat → Addr → SP) (G : Glob X.prog X.w X.K X.mg X.base x k ps (spM js (Ro.sps 0) F outs)) (hr : Room j X.A) (hkj : k ≤ j)
    (ha : XAo X Γ (e :: es) M Ro.R) (hos : Ro.os 0 = js.map fun j => (j, cs j, inF j)) (hin : ∀ s, ∀ j ∈ js, look Γ (cs j) = (mk j s).inC) (hF : ∀ s, ∀ j ∈ js, (mk j s).inF = inF j) (hout : ∀ ad s, ∀ j ∈ js, outs ad s j = (mk j s).outF (ad j)) (hnd : (js.map cs).Nodup) (s0 : S)
    (hg : Gl X x := by rfl) (hdb : (x == ("__debug__" : Str)) = false := by decide) (he : starEach (e :: es) X.env = (false, eval e X.env) :: starEach es X.env := by rfl) (hpl : (backTo pos (starEach es X.env)).any (·.1) = false := by rfl) :
    XQ X Γ (.Call (.Name x p) (e :: es) [] pos) (fun P => M fun y => F y fun s => P () s) rNon (fun s => setL (js.map fun j => (cs j, (mk j s).outC)) Γ) := by
  obtain ⟨f, fd, g1, g2, g3, g4⟩ := G
  obtain ⟨t, pp, q⟩ := ha
  refine ⟨_, pe_call g4 (hr.mono hkj) hg g1 g2 g3 .nil pass0 pp hdb he hpl, fun σ W kW g Q P m h => ?_⟩
  refine q σ W kW g _ _ m fun y v W1 m1 k1 s1 gg1 r1 => ?_
  show spM js (Ro.sps 0) F outs (v ++ []) W1.H Q E0
  rw [List.append_nil]
  let ad : Nat → Addr := fun j => match σ[cs j]? with
    | some (some (.ref a)) => a
    | _ => 0
  have at_ : ∀ j ∈ js, σ[cs j]? = some (some (.ref (ad j))) ∧ W1.O (ad j) = some (cs j) := fun j hj => by
    obtain ⟨o, eo, so⟩ := gg1.look (hin s0 j hj) (mk j s0).ne
    obtain ⟨a, e, ho, _⟩ := (mk j s0).hin so
    subst e
    have : ad j = a := by show (match σ[cs j]? with | some (some (.ref a)) => a | _ => 0) = a; rw [eo]
    rw [this]; exact ⟨eo, ho⟩
  have csj := nd_map_inj hnd
  have inj : ∀ j ∈ js, ∀ j' ∈ js, ad j = ad j' → j = j' := fun j hj j' hj' e => by
    have h1 := (at_ j hj).2
    rw [e, (at_ j' hj').2] at h1
    exact csj j hj j' hj' (Option.some.inj h1).symm
  have oS : ∀ {b j}, ownOf js ad b = some j → W1.O b = some (cs j) ∧ j ∈ js := fun {b j} h => by
    obtain ⟨h1, h2⟩ := ownOf_some h
    rw [← h2]; exact ⟨(at_ j h1).2, h1⟩
  have oN : ∀ {b}, W1.O b = none → ownOf js ad b = none := fun {b} h => by
    cases z : ownOf js ad b with
    | none => rfl
    | some j => rw [(oS z).1] at h; cases h
  refine ⟨ad, y, ⟨W1.Hc, W1.H, ownOf js ad, W1.H⟩, fun s => P () s, rfl, rfl, ⟨k1.ex, fun b i z => k1.own b _ (oS z).1, bas_self⟩, fun b => rfl, Ro.sat 0 (W0 := ⟨W1.Hc, W1.H, ownOf js ad, W1.H⟩) r1 rfl fun pz mp a ea => ?_, m1, fun s W' ps' k' s' ho => ?_⟩
  · rw [hos] at mp
    obtain ⟨j, hj, rfl⟩ := List.mem_map.mp mp
    have ea : σ[cs j]? = some (some (.ref a)) := ea
    have e1 : ad j = a := by
      have := (at_ j hj).1
      rw [ea] at this
      injection this with this
      injection this with this
      injection this with this
      exact this.symm
    refine ⟨e1, ?_⟩
    obtain ⟨o, eo, so⟩ := gg1.look (hin s0 j hj) (mk j s0).ne
    obtain ⟨a', e', ho', hs⟩ := (mk j s0).hin so
    rw [eo, e'] at ea
    cases ea
    have := hs (j := j) (W0 := ⟨W1.Hc, W1.H, ownOf js ad, W1.H⟩) rfl rfl (by show ownOf js ad a = some j; rw [← e1]; exact ownOf_self inj hj)
    rw [hF s0 j hj] at this
    exact this
  · have own' : ∀ j ∈ js, W'.O (ad j) = some j := fun j hj => by
      have := ho j hj
      rw [hout ad s j hj] at this
      exact (mk j s).hO this
    have hcN : ∀ b i, W1.O b = some i → W'.Hc b = none ∧ W'.H b ≠ none := fun b i hb => by
      obtain ⟨n1, n2⟩ := k1.own b i hb
      cases z : ownOf js ad b with
      | none => exact ⟨(s'.old b n2 z).1.trans n1, s'.dom b n2⟩
      | some j =>
        obtain ⟨h1, h2⟩ := ownOf_some z
        rw [← h2]; exact k'.own _ j (own' j h1)
    have k2 : Wd.Ok ⟨W'.Hc, W'.H, W1.O, W1.B⟩ := ⟨k'.ex, hcN, k1.basTo s'.dom (fun b o _ n q => s'.keep b o q (oN n)) fun _ _ n => n⟩
    have s2 : Step W1 ⟨W'.Hc, W'.H, W1.O, W1.B⟩ := ⟨fun b o q n => s'.keep b o q (oN n), s'.dom, s'.hc, fun b q n => ⟨(s'.old b q (oN n)).1, n⟩, rfl⟩
    refine h () s .non ⟨W'.Hc, W'.H, W1.O, W1.B⟩ ps' k2 (s1.trans s2) (sat_pt gg1 setL_len fun kk o ek z => ?_) rfl
    by_cases mk_ : kk ∈ js.map cs
    · obtain ⟨j, hj, rfl⟩ := List.mem_map.mp mk_
      have lt : cs j < Γ.length := by
        have := (List.getElem?_eq_some_iff.mp ek).1
        rw [SatL.len gg1] at this; exact this
      have hl : look (setL (js.map fun j => (cs j, (mk j s).outC)) Γ) (cs j) = (mk j s).outC := setL_mem (p := (cs j, (mk j s).outC)) (by rw [List.map_map]; exact hnd) (List.mem_map.mpr ⟨j, hj, rfl⟩) lt
      rw [hl]
      rw [hin s j hj] at z
      have eo := (at_ j hj).1
      rw [ek] at eo
      injection eo with eo
      subst eo
      have := ho j hj
      rw [hout ad s j hj] at this
      exact (mk j s).hout z this rfl rfl (at_ j hj).2 rfl
    · rw [setL_ne (by rw [List.map_map]; exact mk_)]
      refine z.kp ⟨s'.hc, fun b q => ⟨q, ?_⟩, rfl, fun _ _ n => n⟩
      have n2 := (k1.own b kk q).2
      obtain ⟨o', e'⟩ := of_ne_none n2
      have zn : ownOf js ad b = none := by
        cases zz : ownOf js ad b with
        | none => rfl
        | some j =>
          rw [(oS zz).1] at q
          exact absurd (List.mem_map.mpr ⟨j, (oS zz).2, Option.some.inj q⟩) mk_
      show W'.H b = W1.H b
      rw [e', s'.keep b o' e' zn]
end
/-! the defs themselves -/
section
variable {P : Program} {w : World} {K : PySem.W.Frag} {mg : Str → Option Value} {base : Heap} {τ S : Type} {x qual : Str} {st : Stmt} {f : Addr} {fd : FuncData} {N ps : List Str} {k n : Nat}
theorem fn_MP {js : List Nat} {sps : (Nat → Addr) → τ → List SP} {F : τ → (S → Prop) → Prop} {outs : (Nat → Addr) → S → Nat → SP} {M : (Nat → Addr) → τ → Kn S Unit Unit → Prop} {Γn : (Nat → Addr) → S → List SP} (Fn : Fun K x qual st f fd) (S' : FnScope N ps (defScope st)) (hl : ∀ ad z, (sps ad z).length = ps.length) (hn : N.length = ps.length + n)
    (hbody : ∀ (cdv : Value) (A : Around) (outer : List Env) (s : Shared) (H : Hp) (E : XK), Room k (A.deeper (envOfC qual (defScope st) s.heap.objs.size f cdv)) → ∀ ad z, XS (cxOf CX0 P w K mg base N qual (defScope st) f cdv A outer s H E).nox (sps ad z ++ List.replicate n .unk) (defBody st) (M ad z) (Γn ad) (fun _ : Unit => [.bot]) (fun (_ : Unit) _ _ => False))
    (hM : ∀ ad z P, F z P → M ad z ⟨P, fun _ => False, fun _ => False, fun _ => False⟩) (ho : ∀ ad s, ∀ j ∈ js, look (Γn ad s) j = outs ad s j ∧ ∀ {i o W}, SPok (outs ad s j) i o W → o = some (.ref (ad j))) (hne : ∀ ad s, ∀ j ∈ js, outs ad s j ≠ .unk) : FnOk P w K mg base CX0 (k + 1) f fd ps (spM js sps F outs) := by
  refine Fn.ok S' (fun vs H Q E ⟨ad, z, W, _, _, _, _, _, h, _⟩ => ?_) fun cdv A outer s H vs Q E hr hh => ?_
  · rw [← hl ad z, ← SatL.len h, List.length_map]
  · obtain ⟨ad, z, W, P', rfl, hB, kW, hO, h, m, q⟩ := hh
    obtain ⟨t, p, qq⟩ := hbody cdv A outer s W.H E hr ad z
    refine ⟨t, p, qq _ W kW (start_sat h (by rw [hl ad z]; exact hn)) _ _ (hM ad z P' m) (fun u σ' W' pu k' s' g' => q u W' pu k' s' fun j hj => ?_) (fun _ _ _ h => h.elim) (fun _ _ _ h => h.elim) fun b v W' pb k' s' r' => r'.elim⟩
    obtain ⟨e1, e2⟩ := ho ad u j hj
    obtain ⟨o, eo, so⟩ := g'.look e1 (hne ad u j hj)
    have := e2 so
    rw [this] at so
    exact so
end
end TM
set_option Elab.async false
set_option linter.all false
set_option maxRecDepth 100000
set_option maxHeartbeats 1000000
namespace TM
open PySem PySem.Spec PyProof.Rows L2
section
variable {X : Cx} {Γ : List SP} {α β γ δ τ S S' B R κ : Type} {e a b c : Expr} {es : List Expr} {pos p2 : Pos} {st : Stmt} {sts rest body : List Stmt} {x : Str}
variable {Γn : S → List SP} {Γb : B → List SP} {RR : R → V → Wd → Prop}
/-! ## options taken apart -/
theorem xp_get {M : Mp (Option α)} {r : RT α} (h : XP X Γ e M (rO r)) : XP X Γ e (fun P => M fun o => ∃ y, o = some y ∧ P y) r := by
  obtain ⟨t, p, q⟩ := h
  exact ⟨t, p, fun σ W k s Q P m hh => q σ W k s Q _ m fun o v W1 ⟨y, e, m1⟩ k1 s1 g1 r1 => by subst e; exact hh y v W1 m1 k1 s1 g1 r1.2⟩
theorem nl_non : NoL rNon := fun _ h => h
theorem nl_O {r : RT α} (n : NoL r) : NoL (rO r) := fun {H u vs v x} hu h => by
  cases x with
  | none => exact h
  | some x => exact ⟨h.1, n hu h.2⟩
/-! ## data that may be None -/
def dO {r : RT α} (D : DatR r) (hn : ∀ x, PyData.eqv .none (D.d x) = false ∧ PyData.eqv (D.d x) .none = false) : DatR (rO r) :=
  ⟨fun o => match o with | none => .none | some x => D.d x, fun o => match o with | none => True | some x => D.g x, D.n,
   fun K H v o h => by
    cases o with
    | none =>
      have h : v = .non := h
      subst h; exact .non
    | some x => exact D.ok K H v x h.2,
   fun o h => by
    cases o with
    | none => simp [PyData.canLay0]
    | some x => exact D.lay x h,
   fun o => by
    cases o with
    | none => simp [PyData.depth]
    | some x => exact D.dep x,
   fun o q => by
    cases o with
    | none =>
      cases q with
      | none => simp [PyData.eqv]
      | some y => exact ⟨fun z => (by rw [(hn y).1] at z; exact absurd z (by decide)), fun z => nomatch z⟩
    | some x =>
      cases q with
      | none => exact ⟨fun z => (by rw [(hn x).2] at z; exact absurd z (by decide)), fun z => nomatch z⟩
      | some y => exact (D.inj x y).trans ⟨fun z => by rw [z], fun z => Option.some.inj z⟩⟩
theorem nn_T {r : RT α} (D : DatR r) (x : List α) : PyData.eqv .none ((dT D).d x) = false ∧ PyData.eqv ((dT D).d x) .none = false := ⟨by show PyData.eqv .none (.tuple _) = false; simp [PyData.eqv], by show PyData.eqv (.tuple _) .none = false; simp [PyData.eqv]⟩
/-! ## the order of threes -/
def oP3 {r : RT α} {q : RT β} {z : RT γ} {D : DatR r} {E : DatR q} {F : DatR z} [DecidableEq α] [DecidableEq β] [DecidableEq γ] (O : OrdR D) (O2 : OrdR E) (O3 : OrdR F) : OrdR (dP3 D E F) :=
  ⟨fun p q => if p.1 = q.1 then (if p.2.1 = q.2.1 then (if p.2.2 = q.2.2 then false else O3.lt p.2.2 q.2.2) else O2.lt p.2.1 q.2.1) else O.lt p.1 q.1, fun x y => by
    show PySem.W.alike (.tuple _) (.tuple _) = true
    rw [PySem.W.alike, PySem.W.alikeAll, PySem.W.alikeAll, PySem.W.alikeAll, PySem.W.alikeAll, O.al, O2.al, O3.al]; rfl, fun x => by show PyData.tuple _ ≠ _; simp, fun x y => by
  show PySem.W.dataLt (.tuple _) (.tuple _) = _
  rw [PySem.W.dataLt_tuple]
  by_cases e : x.1 = y.1
  · rw [if_pos e, PySem.W.dataLt_all_yes (O.al _ _) ((D.inj _ _).mpr e)]
    by_cases e2 : x.2.1 = y.2.1
    · rw [if_pos e2, PySem.W.dataLt_all_yes (O2.al _ _) ((E.inj _ _).mpr e2)]
      by_cases e3 : x.2.2 = y.2.2
      · rw [if_pos e3, PySem.W.dataLt_all_yes (O3.al _ _) ((F.inj _ _).mpr e3), PySem.W.keyToksAll]; decide
      · rw [if_neg e3, PySem.W.dataLt_all_no (O3.al _ _) (Bool.eq_false_iff.mpr fun z => e3 ((F.inj _ _).mp z)), O3.eq]
    · rw [if_neg e2, PySem.W.dataLt_all_no (O2.al _ _) (Bool.eq_false_iff.mpr fun z => e2 ((E.inj _ _).mp z)), O2.eq]
  · rw [if_neg e, PySem.W.dataLt_all_no (O.al _ _) (Bool.eq_false_iff.mpr fun z => e ((D.inj _ _).mp z)), O.eq]⟩
/-! ## a thing is locked for good -/
theorem pss_frz {sts : List Stmt} {t : TS} (h : PSs X sts t) : PSs X sts (fun D σ H => ∃ a ob, H a = some ob ∧ Mut (some ob) ∧ ∀ od, t D σ (upd H a (.frz od ob))) := by
  refine ⟨fun pins s σ H D I ⟨a, ob, ha, mu, w⟩ => ?_⟩
  obtain ⟨od, I1⟩ := I.lock ha mu
  exact h.run pins s σ _ D I1 (w od)
theorem pe_frz {t : TE} (h : PE X e t) : PE X e (fun σ H Q => t σ H fun v H1 => ∃ a ob, H1 a = some ob ∧ Mut (some ob) ∧ ∀ od, Q v (upd H1 a (.frz od ob))) := by
  refine ⟨fun pins s σ H Q I w => thn (h.run pins s σ H _ I w) fun u s1 ⟨v, H1, I1, r, a, ob, ha, mu, q⟩ => ?_⟩
  obtain ⟨od, I2⟩ := I1.lock ha mu
  exact ⟨v, _, I2, r, q od⟩
theorem frzD [DecidableEq κ] {D : DKd κ} {r : RT β} {d : List (κ × β)} (ut : ∀ {a : Addr} {kvs : List (κ × V)} {H : Hp} {o : HO}, D.ob a kvs H o → Mut (some o) ∧ ∀ xs, o ≠ .lst xs) {σ : St} {W : Wd} {i : Nat} (k : W.Ok) (g : Sat Γ σ W) (h : look Γ i = .gen (gDic D r d)) :
    ∃ u ob, W.H u = some ob ∧ Mut (some ob) ∧ ∀ od, ∃ W', W'.Ok ∧ Step W W' ∧ W'.H = upd W.H u (.frz od ob) ∧ Sat (Γ.set i (.cl (rDF D r) d)) σ W' := by
  obtain ⟨u, ob, kvs, e, hB, ho, hh, hob, pr⟩ := dic_look g h
  have mu := (ut hob).1
  have nc := (k.own u i ho).1
  have up : ∀ od, Ex W.Hc (upd W.Hc u (.frz od ob)) := fun od b o e => by rw [upd_ne (ne_of_none e nc)]; exact e
  refine ⟨u, ob, hh, mu, fun od => ⟨⟨upd W.Hc u (.frz od ob), upd W.H u (.frz od ob), fun b => if b = u then none else W.O b, W.B⟩, ⟨fun b o q => ?_, fun b j q => ?_, k.basTo (fun _ q => upd_dom q) (fun b o q n w => ?_) fun b e q => by
    have q : (if b = u then none else W.O b) = none := q
    by_cases z : b = u
    · rw [z, hB] at e; exact absurd rfl e
    · rw [if_neg z] at q; exact q⟩, ⟨fun b o q n => ?_, fun b q => upd_dom q, up od, fun b q n => ?_, rfl⟩, rfl, ?_⟩⟩
  · have q : upd W.Hc u (.frz od ob) b = some o := q
    show upd W.H u (.frz od ob) b = some o
    by_cases z : b = u
    · rw [z] at q ⊢; rw [upd_same] at q ⊢; exact q
    · rw [upd_ne z] at q ⊢; exact k.ex b o q
  · have q : (if b = u then none else W.O b) = some j := q
    show upd W.Hc u (.frz od ob) b = none ∧ upd W.H u (.frz od ob) b ≠ none
    by_cases z : b = u
    · rw [if_pos z] at q; cases q
    · rw [if_neg z] at q; rw [upd_ne z, upd_ne z]; exact k.own b j q
  · have z : b ≠ u := fun z => by rw [z, hB] at q; exact q rfl
    show upd W.H u (.frz od ob) b = some o
    rw [upd_ne z]; exact w
  · have z : b ≠ u := fun z => by rw [z, ho] at n; cases n
    show upd W.H u (.frz od ob) b = some o
    rw [upd_ne z]; exact q
  · have z : b ≠ u := fun z => by rw [z, ho] at n; cases n
    refine ⟨?_, (if_neg z).trans n⟩
    show upd W.Hc u (.frz od ob) b = W.Hc b
    exact upd_ne z
  · have h1 : Sat (Γ.set i (.cl (rDF D r) d)) (σ.set i (some (.ref u))) ⟨upd W.Hc u (.frz od ob), upd W.H u (.frz od ob), fun b => if b = u then none else W.O b, W.B⟩ := SatL.set g (fun j o' nj ej z => by
      rw [Nat.zero_add] at z ⊢
      have ne : ∀ b, W.O b = some j → b ≠ u := fun b q w => by
        rw [w, ho] at q
        exact nj (Option.some.inj q).symm
      have oo : ∀ b, W.O b = some j → (if b = u then none else W.O b) = some j := fun b q => by rw [if_neg (ne b q)]; exact q
      exact z.kp ⟨up od, fun b q => ⟨oo b q, upd_ne (ne b q)⟩, rfl, fun b _ q => by
        show (if b = u then none else W.O b) = none
        by_cases w : b = u
        · rw [if_pos w]
        · rw [if_neg w]; exact q⟩) ⟨.ref u, rfl, u, od, ob, kvs, rfl, upd_same, D.up (up od) hob, pmap pr fun _ _ ⟨x, y⟩ => ⟨x, r.mono (up od) y⟩⟩
    rw [set_same e] at h1
    exact h1
theorem xs_frzD [DecidableEq κ] {D : DKd κ} {r : RT β} {d : List (κ × β)} (Z : DKz X D) (i : Nat) {M : Kn S B R → Prop} (h : look Γ i = .gen (gDic D r d)) (hr : XS X (Γ.set i (.cl (rDF D r) d)) rest M Γn Γb RR) : XS X Γ rest M Γn Γb RR := by
  obtain ⟨t, p, q⟩ := hr
  refine ⟨_, pss_frz p, fun σ W k g κ D' m h1 h2 h3 h4 => ?_⟩
  obtain ⟨u, ob, hu, mu, w⟩ := frzD Z.ut k g h
  refine ⟨u, ob, hu, mu, fun od => ?_⟩
  obtain ⟨W', k', s', eH, g'⟩ := w od
  rw [← eH]
  exact q σ W' k' g' κ D' m (fun z σ2 W2 a b c d => h1 z σ2 W2 a b (s'.trans c) d) (fun z σ2 W2 a b c d => h2 z σ2 W2 a b (s'.trans c) d) (fun z σ2 W2 a b c d => h3 z σ2 W2 a b (s'.trans c) d) (fun r v W2 a b c d => h4 r v W2 a b (s'.trans c) d)
/-! ## dict(pairs), a clean dict -/
theorem encF_merge [DecidableEq κ] (F : KF κ) : ∀ (l : List (κ × V)) (d : List (κ × V)), mergeK (encF F d) (encF F l) = encF F (mergeA d l)
  | [], _ => rfl
  | p :: l, d => by
    show mergeK (putK (encF F d) (F.enc p.1) p.2) (encF F l) = encF F (mergeA (putA d p.1 p.2) l)
    rw [encF_put]; exact encF_merge F l _
theorem drel_merge [DecidableEq κ] {r : RT β} {H : Hp} : ∀ {ls : List (κ × V)} {l : List (κ × β)} {ks : List (κ × V)} {d : List (κ × β)}, Paired (DRel r H) ls l → Paired (DRel r H) ks d → Paired (DRel r H) (mergeA ks ls) (mergeA d l)
  | _, _, _, _, .nil, h => h
  | _, _, _, _, .cons (a := p) (b := q) e t, h => by
    show Paired _ (mergeA (putA _ p.1 p.2) _) (mergeA (putA _ q.1 q.2) _)
    refine drel_merge t ?_
    rw [e.1]
    exact drel_put h e.2
theorem pairs_kF [DecidableEq κ] {K : PySem.W.Frag} (F : KF κ) (r : RT β) {W : Wd} (o : W.Ok) : ∀ {vs : List V} {l : List (κ × β)}, Paired ((rP F.r r).ok W.Hc) vs l → ∃ (ps : List Addr) (ks : List (κ × V)), vs = ps.map V.ref ∧ Paired (fun p (q : Key × V) => SqT K W.H p [kV q.1, q.2]) ps (encF F ks) ∧ Paired (DRel r W.Hc) ks l
  | _, _, .nil => ⟨[], [], rfl, .nil, .nil⟩
  | _, _, .cons (b := z) ⟨a, x, y, e, hh, r1, r2⟩ t => by
    obtain ⟨ps, ks, e1, h1, h2⟩ := pairs_kF F r o t
    refine ⟨a :: ps, (z.1, y) :: ks, by rw [e, e1]; rfl, .cons ?_ h1, .cons ⟨rfl, r2⟩ h2⟩
    show SqT K W.H a [kV (F.enc z.1), y]
    rw [← F.ok _ _ _ r1]
    exact sqt_of (o.ex _ _ hh)
theorem xp_dictF [DecidableEq κ] (F : KF κ) {r : RT β} {p : Pos} {M : Mp (List (κ × β))} (hcalm : X.calm = true) (hm : X.mg "dict" = none) (ha : XP X Γ e M (rL (rP F.r r))) (hg : Gl X "dict" := by rfl) (h1 : starEach [e] X.env = (false, eval e X.env) :: starEach [] X.env := by rfl) :
    XP X Γ (.Call (.Name "dict" p) [e] [] pos) (fun P => M fun xs => P (mergeA [] xs)) (rDF (dkF F) r) := by
  obtain ⟨t, pp, q⟩ := ha
  refine ⟨_, pe_frz (pe_callTy (call_dictP hcalm) hg hm (by with_unfolding_all rfl) (pa_cons pp pa_nil h1) (by decide) (by decide) h1), fun σ W k s Q P m h => ?_⟩
  refine q σ W k s _ _ m fun xs v W1 m1 k1 s1 g1 ⟨a, vs, e1, hh, pr⟩ => ?_
  subst e1
  obtain ⟨ps, ks, e4, h2, h3⟩ := pairs_kF (K := X.K) F r k1 pr
  subst e4
  refine ⟨a, ps, encF F ks, rfl, sql_of (k1.ex _ _ hh), h2, fun p np => ⟨p, _, upd_same, trivial, fun od => ?_⟩⟩
  rw [upd_upd]
  have gg := grow_add (W := W1) (o := .frz od (.dK (mergeK [] (encF F ks)))) k1 np
  exact h _ _ (W1.add p (.frz od (.dK (mergeK [] (encF F ks))))) m1 (k1.add np) (s1.trans gg.step) (g1.up (gg.up k1)) ⟨p, od, _, mergeA [] ks, rfl, upd_same, congrArg HO.dK (encF_merge F ks []), drel_merge (pmap h3 fun _ _ ⟨x, y⟩ => ⟨x, r.mono gg.hc y⟩) .nil⟩
/-! ## d.get(k) -/
theorem xp_getm [DecidableEq κ] (F : KF κ) {r : RT β} {apos : Pos} {M : Mp (List (κ × β))} {N : Mp κ} (hu : X.A.units + 64 < cLine) (ho : XP X Γ a M (rDF (dkF F) r)) (he : XP X Γ b N F.r) (m1 : M1 X a "get" apos b pos) (hn : ∀ {H v x}, r.ok H v x → v ≠ .non) :
    XP X Γ (.Call (.Attribute a "get" apos) [b] [] pos) (fun P => M fun d => N fun k => P (lookA d k)) (rO r) := by
  obtain ⟨t, p, q⟩ := ho
  obtain ⟨t2, pp2, q2⟩ := he
  refine ⟨_, pe_dget1 (by omega) p pp2 m1, fun σ W k g Q P m hh => ?_⟩
  refine q σ W k g _ _ m fun d v W1 m1 k1 s1 g1 ⟨u, od, ob, kvs, e1, h2, h3, h4⟩ => ?_
  subst e1
  rw [show ob = .dK (encF F kvs) from h3] at h2
  refine ⟨u, rfl, .inl ⟨_, .inr ⟨od, k1.ex _ _ h2⟩⟩, ?_⟩
  refine q2 σ W1 k1 g1 _ _ m1 fun z w W2 m2 k2 s2 g2 r2 => ?_
  refine ⟨_, .inl ⟨encF F kvs, F.enc z, .inr ⟨od, k2.ex _ _ (s2.hc _ _ h2)⟩, F.ok _ _ _ r2, rfl⟩, ?_⟩
  rw [encF_look]
  refine hh _ _ W2 m2 k2 (s1.trans s2) g2 ?_
  have l := look_pair (F := r.ok W1.Hc) h4 z
  cases e1 : lookA kvs z with
  | none =>
    rw [e1] at l
    cases e2 : lookA d z with
    | none => rfl
    | some y => rw [e2] at l; exact l.elim
  | some v =>
    rw [e1] at l
    cases e2 : lookA d z with
    | none => rw [e2] at l; exact l.elim
    | some y => rw [e2] at l; exact ⟨hn l, r.mono s2.hc l⟩
theorem xp_getmO [DecidableEq κ] (F : KF κ) {r : RT β} {apos : Pos} {M : Mp (List (κ × Option β))} {N : Mp κ} (hu : X.A.units + 64 < cLine) (ho : XP X Γ a M (rDF (dkF F) (rO r))) (he : XP X Γ b N F.r) (m1 : M1 X a "get" apos b pos) :
    XP X Γ (.Call (.Attribute a "get" apos) [b] [] pos) (fun P => M fun d => N fun k => P (lookA d k).join) (rO r) := by
  obtain ⟨t, p, q⟩ := ho
  obtain ⟨t2, pp2, q2⟩ := he
  refine ⟨_, pe_dget1 (by omega) p pp2 m1, fun σ W k g Q P m hh => ?_⟩
  refine q σ W k g _ _ m fun d v W1 m1 k1 s1 g1 ⟨u, od, ob, kvs, e1, h2, h3, h4⟩ => ?_
  subst e1
  rw [show ob = .dK (encF F kvs) from h3] at h2
  refine ⟨u, rfl, .inl ⟨_, .inr ⟨od, k1.ex _ _ h2⟩⟩, ?_⟩
  refine q2 σ W1 k1 g1 _ _ m1 fun z w W2 m2 k2 s2 g2 r2 => ?_
  refine ⟨_, .inl ⟨encF F kvs, F.enc z, .inr ⟨od, k2.ex _ _ (s2.hc _ _ h2)⟩, F.ok _ _ _ r2, rfl⟩, ?_⟩
  rw [encF_look]
  refine hh _ _ W2 m2 k2 (s1.trans s2) g2 ?_
  have l := look_pair (F := (rO r).ok W1.Hc) h4 z
  cases e1 : lookA kvs z with
  | none =>
    rw [e1] at l
    cases e2 : lookA d z with
    | none => rfl
    | some y => rw [e2] at l; exact l.elim
  | some v =>
    rw [e1] at l
    cases e2 : lookA d z with
    | none => rw [e2] at l; exact l.elim
    | some y => rw [e2] at l; exact (rO r).mono s2.hc l
end
/-! ## what was handed in: reading and changing -/
section
variable {X : Cx} {Γ : List SP} {α β γ B R κ : Type} [DecidableEq κ] {e b : Expr} {pos p2 : Pos} {x : Str} {A0 : Addr} {D : DKd κ} {r : RT β} {d : List (κ × β)} {Γb : B → List SP} {RR : R → V → Wd → Prop}
theorem gA_look {k : OwnK γ} {y : γ} {σ : St} {W : Wd} {i : Nat} (g : Sat Γ σ W) (h : look Γ i = .gen (gA k A0 y)) : ∃ ob, σ[i]? = some (some (.ref A0)) ∧ W.O A0 = some i ∧ W.H A0 = some ob ∧ k.ob A0 y W.Hc ob := by
  obtain ⟨o, eo, e, ho, u, hh, hu⟩ := g.look h (by simp)
  rw [e] at eo
  exact ⟨u, eo, ho, hh, hu⟩
theorem xb_gL (i : Nat) {q : RT α} {xs : List α} (h : look Γ i = .gen (gA (okL q) A0 xs)) (hN : X.N[i]? = some x := by rfl) (hv : Vis X.env.scope x := by first | exact Or.inl rfl | exact Or.inr (Or.inl rfl) | exact Or.inr (Or.inr rfl)) (hd : (x == ("__debug__" : Str)) = false := by decide) (hcd : (x == ("__classdict__" : Str)) = false := by decide) :
    XB X Γ (.Name x pos) (fun P => P xs) q := by
  refine ⟨_, pe_var hN hv hd hcd, fun σ W k s Q P m w => ?_⟩
  obtain ⟨ob, eo, _⟩ := gA_look s h
  refine ⟨.ref A0, eo, w xs (.ref A0) W m k (Step.refl W) s fun W2 k2 s2 g2 => ?_⟩
  obtain ⟨ob2, eo2, ho2, hh2, vs, e2, pr⟩ := gA_look g2 h
  subst e2
  exact ⟨A0, vs, rfl, hh2, pr⟩
theorem xp_gdget (DO : DKo X D) (i : Nat) (h : look Γ i = .gen (gA (okD D r) A0 d)) {M : Mp κ} (hb : XP X Γ b M D.k) (hN : X.N[i]? = some x := by rfl) (hv : Vis X.env.scope x := by first | exact Or.inl rfl | exact Or.inr (Or.inl rfl) | exact Or.inr (Or.inr rfl)) (hd : (x == ("__debug__" : Str)) = false := by decide) (hcd : (x == ("__classdict__" : Str)) = false := by decide) (hs : PlainIx b := by exact fun _ _ => rfl) :
    XP X Γ (.Subscript (.Name x p2) b pos) (fun P => M fun k => ∃ y, lookA d k = some y ∧ P y) r := by
  obtain ⟨t, p, q⟩ := hb
  refine ⟨_, pe_ix DO.hget (pe_var hN hv hd hcd) p hs, fun σ W k g Q P m hh => ?_⟩
  obtain ⟨_, eo, _⟩ := gA_look g h
  refine ⟨.ref A0, eo, ?_⟩
  refine q σ W k g _ _ m fun z v W1 ⟨y, m1, m2⟩ k1 s1 g1 r1 => ?_
  obtain ⟨ob, _, _, hh1, kvs, hob, pr⟩ := gA_look g1 h
  obtain ⟨w, l, rw'⟩ := drel_get pr m1
  exact DO.get_ k1 hh1 hob r1 l (hh y w W1 m2 k1 s1 g1 rw')
theorem xt_gdin (DO : DKo X D) (i : Nat) (h : look Γ i = .gen (gA (okD D r) A0 d)) {M : Mp κ} (hb : XP X Γ b M D.k) (hm : behindInMarks .In (.Name x p2) = false := by rfl) (hN : X.N[i]? = some x := by rfl) (hv : Vis X.env.scope x := by first | exact Or.inl rfl | exact Or.inr (Or.inl rfl) | exact Or.inr (Or.inr rfl)) (hd : (x == ("__debug__" : Str)) = false := by decide) (hcd : (x == ("__classdict__" : Str)) = false := by decide) :
    XT X Γ (.Compare b [.In] [.Name x p2] pos) (fun P => M fun k => P (lookA d k).isSome) := by
  obtain ⟨t, p, q⟩ := hb
  refine ⟨_, pt_cmpR DO.hin p (pe_var hN hv hd hcd) hm, fun σ W k g Q P m hh => ?_⟩
  refine q σ W k g _ _ m fun z v W1 m1 k1 s1 g1 r1 => ?_
  obtain ⟨ob, eo, _, hh1, kvs, hob, pr⟩ := gA_look g1 h
  exact ⟨.ref A0, eo, DO.in_ k1 hh1 hob r1 ⟨_, rfl, hh _ W1 (by rw [drel_look pr z]; exact m1) k1 s1 g1⟩⟩
theorem xt_gdnin (DO : DKo X D) (i : Nat) (h : look Γ i = .gen (gA (okD D r) A0 d)) {M : Mp κ} (hb : XP X Γ b M D.k) (hm : behindInMarks .NotIn (.Name x p2) = false := by rfl) (hN : X.N[i]? = some x := by rfl) (hv : Vis X.env.scope x := by first | exact Or.inl rfl | exact Or.inr (Or.inl rfl) | exact Or.inr (Or.inr rfl)) (hd : (x == ("__debug__" : Str)) = false := by decide) (hcd : (x == ("__classdict__" : Str)) = false := by decide) :
    XT X Γ (.Compare b [.NotIn] [.Name x p2] pos) (fun P => M fun k => P (!(lookA d k).isSome)) := by
  obtain ⟨t, p, q⟩ := hb
  refine ⟨_, pt_cmpR DO.hnin p (pe_var hN hv hd hcd) hm, fun σ W k g Q P m hh => ?_⟩
  refine q σ W k g _ _ m fun z v W1 m1 k1 s1 g1 r1 => ?_
  obtain ⟨ob, eo, _, hh1, kvs, hob, pr⟩ := gA_look g1 h
  exact ⟨.ref A0, eo, DO.nin_ k1 hh1 hob r1 ⟨_, rfl, hh _ W1 (by rw [drel_look pr z]; exact m1) k1 s1 g1⟩⟩
theorem xt_gdput (DO : DKo X D) (i : Nat) (h : look Γ i = .gen (gA (okD D r) A0 d)) {M : Mp β} {N : Mp κ} (hv : XP X Γ e M r) (hk : XP X Γ b N D.k) (hN : X.N[i]? = some x := by rfl) (hvi : Vis X.env.scope x := by first | exact Or.inl rfl | exact Or.inr (Or.inl rfl) | exact Or.inr (Or.inr rfl)) (hd : (x == ("__debug__" : Str)) = false := by decide) (hcd : (x == ("__classdict__" : Str)) = false := by decide)
    {p3 : Pos} (hs : swapsWith e (some (.Subscript (.Name x p2) b p3)) pos.line X.env = pure false := by rfl) :
    XSt X Γ (.Assign [.Subscript (.Name x p2) b p3] e pos) (fun κ' : Kn (List (κ × β)) B R => M fun y => N fun k => d.length < sizeLine ∧ κ'.nx (putA d k y)) (fun d' => Γ.set i (.gen (gA (okD D r) A0 d'))) Γb RR := by
  obtain ⟨t, p, q⟩ := hv
  obtain ⟨t2, pp2, q2⟩ := hk
  refine ⟨_, DO.hset (pe_var hN hvi hd hcd) pp2 p hs, fun σ W k g κ' D' m h1 _ _ _ => ?_⟩
  refine q σ W k g _ _ m fun y v W1 m1 k1 s1 g1 r1 => ?_
  obtain ⟨_, eo, _⟩ := gA_look g1 h
  refine ⟨.ref A0, eo, ?_⟩
  refine q2 σ W1 k1 g1 _ _ m1 fun z u W2 ⟨m2, m3⟩ k2 s2 g2 r2 => ?_
  obtain ⟨ob, _, hO, hh, kvs, hob, pr⟩ := gA_look g2 h
  refine DO.set_ k2 hh hob r2 (by rw [pr.length]; exact m2) fun o' ho' => ?_
  exact h1 _ σ (W2.mut A0 o') m3 (k2.mut hO) ((s1.trans s2).trans (step_mut hO)) (g2.mut hO eo ⟨rfl, hO, o', upd_same, _, ho', drel_put pr (r.mono s2.hc r1)⟩)
/-- xs.append(e), xs handed in -/
theorem xt_gapp (i : Nat) {p1 p2 pc : Pos} {M : Mp α} {q : RT α} {xs : List α} (h : look Γ i = .gen (gA (okL q) A0 xs)) (he : XP X Γ e M q) (hN : X.N[i]? = some x := by rfl) (hv : Vis X.env.scope x := by first | exact Or.inl rfl | exact Or.inr (Or.inl rfl) | exact Or.inr (Or.inr rfl)) (hd : (x == ("__debug__" : Str)) = false := by decide) (hcd : (x == ("__classdict__" : Str)) = false := by decide)
    (hpe : ∀ te, PE X e te → PS X (.Expr (.Call (.Attribute (.Name x p1) "append" p2) [e] [] pc) pos) (tDrop (tBM X.K "list" rAppend (tVar i) (tCons te tNil)))) :
    XSt X Γ (.Expr (.Call (.Attribute (.Name x p1) "append" p2) [e] [] pc) pos) (fun κ : Kn (List α) B R => M fun y => xs.length < sizeLine ∧ κ.nx (xs ++ [y])) (fun ys => Γ.set i (.gen (gA (okL q) A0 ys))) Γb RR := by
  obtain ⟨t, p, w⟩ := he
  refine ⟨_, hpe t p, fun σ W k g κ D m h1 _ _ _ => ?_⟩
  obtain ⟨ob, eo, ho, hh, vs, e1, pr⟩ := gA_look g h
  subst e1
  refine ⟨.ref A0, eo, .inl ⟨rfl, vs, sql_of hh⟩, ?_⟩
  refine w σ W k g _ _ m fun y v W1 ⟨m1, m2⟩ k1 s1 g1 r1 => ?_
  obtain ⟨ob', eo', ho', hh', vs', e2, pr'⟩ := gA_look g1 h
  subst e2
  refine ⟨A0, vs', v, rfl, rfl, hh', by rw [pr'.length]; exact m1, ?_⟩
  exact h1 (xs ++ [y]) σ (W1.mut A0 (.lst (vs' ++ [v]))) m2 (k1.mut ho') (s1.trans (step_mut ho')) (g1.mut ho' eo ⟨rfl, ho', _, upd_same, _, rfl, pr'.snoc r1⟩)
end
end TM
set_option Elab.async false
set_option linter.all false
set_option maxRecDepth 100000
set_option maxHeartbeats 2000000
/-! list(zip(xs, ys)) of two lists of one length; a, b, c = [..], [..], [..] -/
namespace TM
open PySem PySem.Spec PyProof.Rows L2
section
variable {prog : Program} {w : World} {A : Around} {s : Shared} {z TI TO i1 i2 l1 l2 : Addr} {xs ys : Array Value}
def ZSt (z TI TO i1 i2 l1 l2 : Addr) (xs ys : Array Value) (S : Addr) (h : Heap) (i : Nat) : Prop := IsPair h TI (.ref i1) (.ref i2) ∧ h.IsListIter i1 l1 i ∧ h.IsListIter i2 l2 i ∧ h.IsList l1 xs ∧ h.IsList l2 ys ∧
  ((IsZip h z TI TO .none ∧ ∃ a b, IsPair h TO a b) ∨ ∃ T f oT, IsZipHeld h z TI TO T f ∧ h.get? T = some oT ∧ T ≠ z ∧ T ≠ i1 ∧ T ≠ i2 ∧ T ≠ S)
structure ZG (xs ys : Array Value) (lo : Addr) (h : Heap) (as : List Addr) : Prop where
  rise : as.Pairwise (· < ·)
  above : ∀ a ∈ as, lo < a
  pairs : ∀ (j : Nat) (a : Addr), as[j]? = some a → ∃ x y, xs[j]? = some x ∧ ys[j]? = some y ∧ IsPair h a x y
theorem ZG.there {lo : Addr} {h : Heap} {as : List Addr} (g : ZG xs ys lo h as) {a : Addr} (ha : a ∈ as) : a < h.objs.size := by
  obtain ⟨j, hj⟩ := List.mem_iff_getElem?.mp ha
  obtain ⟨_, _, _, _, e⟩ := g.pairs j a hj
  exact Heap.lt_size e
theorem zst_keep {S : Addr} {h h' : Heap} {i : Nat} (x : ZSt z TI TO i1 i2 l1 l2 xs ys S h i) (hk : ∀ b o, b ≠ S → h.get? b = some o → h'.get? b = some o) (n : z ≠ S ∧ TI ≠ S ∧ TO ≠ S ∧ i1 ≠ S ∧ i2 ≠ S ∧ l1 ≠ S ∧ l2 ≠ S) : ZSt z TI TO i1 i2 l1 l2 xs ys S h' i := by
  obtain ⟨hTI, h1, h2, hl1, hl2, hz⟩ := x
  obtain ⟨dz, dTI, dTO, di1, di2, dl1, dl2⟩ := n
  refine ⟨hk _ _ dTI hTI, h1.at fun o e => hk _ o di1 e, h2.at fun o e => hk _ o di2 e, hl1.at fun o e => hk _ o dl1 e, hl2.at fun o e => hk _ o dl2 e, ?_⟩
  rcases hz with ⟨hz, a, b, hTO⟩ | ⟨T, f, oT, hz, hT, r1, r2, r3, r4⟩
  · exact .inl ⟨hk _ _ dz hz, a, b, hk _ _ dTO hTO⟩
  · exact .inr ⟨T, f, oT, hk _ _ dz hz, hk _ _ r4 hT, r1, r2, r3, r4⟩
theorem zst_item {E : Value → Shared → Prop} (D : ZipApart z TI TO i1 i2 l1 l2) {S : Addr} {i : Nat} {x y : Value} {Q : Option Value → Shared → Prop} (st : ZSt z TI TO i1 i2 l1 l2 xs ys S s.heap i) (hS : S < s.heap.objs.size) (ex : xs[i]? = some x) (ey : ys[i]? = some y)
    (hQ : ∀ h', ZSt z TI TO i1 i2 l1 l2 xs ys S h' (i + 1) → IsPair h' s.heap.objs.size x y → (∀ b o, b ≠ z → b ≠ TO → b ≠ i1 → b ≠ i2 → s.heap.get? b = some o → h'.get? b = some o) → Q (some (.ref s.heap.objs.size)) { s with heap := h' }) :
    wpAny (model prog w) A (pyNext (.ref z)) Q E s := by
  obtain ⟨hTI, h1, h2, hl1, hl2, hz⟩ := st
  have lt : ∀ {c o}, s.heap.get? c = some o → s.heap.objs.size ≠ c := fun e => Nat.ne_of_gt (Heap.lt_size e)
  have n1 : s.heap.objs.size ≠ i1 := let ⟨_, e, _⟩ := h1; lt e
  have n2 : s.heap.objs.size ≠ i2 := let ⟨_, e, _⟩ := h2; lt e
  rcases hz with ⟨hz, a, b, hTO⟩ | ⟨T, f, oT, hz, hT, r1, r2, r3, r4⟩
  · refine wpAny_pyNext_zip_item D hz hTI hTO h1 h2 hl1 hl2 ex ey fun h' a1 a2 a3 a4 a5 a6 hk => ?_
    exact hQ h' ⟨hk _ _ D.TIz D.TITO D.TIi1 D.TIi2 hTI, a3, a4, hl1.at fun o e => hk _ o D.l1z D.l1TO D.l1i1 D.l1i2 e, hl2.at fun o e => hk _ o D.l2z D.l2TO D.l2i1 D.l2i2 e,
      .inr ⟨s.heap.objs.size, false, _, a1, a5, lt hz, n1, n2, Nat.ne_of_gt hS⟩⟩ a5 hk
  · refine wpAny_pyNext_zip_item_held D hz hT hTI h1 h2 hl1 hl2 ex ey fun h' a1 a3 a4 a5 a6 hk => ?_
    exact hQ h' ⟨hk _ _ D.TIz D.TIi1 D.TIi2 hTI, a3, a4, hl1.at fun o e => hk _ o D.l1z D.l1i1 D.l1i2 e, hl2.at fun o e => hk _ o D.l2z D.l2i1 D.l2i2 e,
      .inr ⟨T, true, oT, a1, hk _ _ r1 r2 r3 hT, r1, r2, r3, r4⟩⟩ a5 fun c o c1 _ c3 c4 e => hk c o c1 c3 c4 e
theorem zst_done {E : Value → Shared → Prop} (hh : A.handled = none) (D : ZipApart z TI TO i1 i2 l1 l2) {S : Addr} {i : Nat} {Q : Option Value → Shared → Prop} (st : ZSt z TI TO i1 i2 l1 l2 xs ys S s.heap i) (hend : xs[i]? = none ∨ ys[i]? = none)
    (hQ : ∀ h', (∀ b o, b ≠ z → b ≠ TO → b ≠ i1 → b ≠ i2 → s.heap.get? b = some o → h'.get? b = some o) → Q none { s with heap := h' }) : wpAny (model prog w) A (pyNext (.ref z)) Q E s := by
  obtain ⟨hTI, h1, h2, hl1, hl2, hz⟩ := st
  rcases hz with ⟨hz, a, b, hTO⟩ | ⟨T, f, oT, hz, hT, r1, r2, r3, r4⟩
  · exact wpAny_pyNext_zip_end hh D hz hTI hTO h1 h2 hl1 hl2 hend fun h' hk => hQ h' hk
  · exact wpAny_pyNext_zip_end_held hh D hz hT hTI h1 h2 hl1 hl2 hend fun h' hk => hQ h' fun c o c1 _ c3 c4 e => hk c o c1 c3 c4 e
end
section
variable {prog : Program} {w : World} {A : Around} {s : Shared} {R : Result → Shared → Prop} {z TI TO i1 i2 l1 l2 : Addr} {xs ys : Array Value}
theorem zl_loop {S : Addr} (hh : A.handled = none) (D : ZipApart z TI TO i1 i2 l1 l2) (n : z < S ∧ TI < S ∧ TO < S ∧ i1 < S ∧ i2 < S ∧ l1 < S ∧ l2 < S) (he : xs.size = ys.size) (hn : xs.size ≤ sizeLine) (res : Value) {h₁ : Heap}
    (hR : ∀ h' tk acc c as, (∀ b o, b ≠ S → b ≠ z → b ≠ TO → b ≠ i1 → b ≠ i2 → h₁.get? b = some o → h'.get? b = some o) → h'.get? S = some { cls := .type "list", dict := none, data := .seq acc c, slots := #[] } → as.length = xs.size → ZG xs ys S h' as →
      acc.toList = as.map Value.ref → R (.ok (.ret res)) { s with heap := h', toks := tk }) :
    ∀ (k i : Nat) (h : Heap) (tk c : Nat) (acc : Array Value) (as : List Addr), xs.size - i = k → i ≤ xs.size → ZSt z TI TO i1 i2 l1 l2 xs ys S h i → (∀ b o, b ≠ S → b ≠ z → b ≠ TO → b ≠ i1 → b ≠ i2 → h₁.get? b = some o → h.get? b = some o) →
      h.get? S = some { cls := .type "list", dict := none, data := .seq acc c, slots := #[] } → acc.toList = as.map Value.ref → as.length = i → ZG xs ys S h as →
      codeAny (model prog w) A (.builtin "list.extend.loop" ⟨[.ref S, .ref z, res], []⟩) R { s with heap := h, toks := tk } := by
  obtain ⟨nz, nTI, nTO, ni1, ni2, nl1, nl2⟩ := n
  have hne : S ≠ z := Nat.ne_of_gt nz
  intro k
  induction k with
  | zero =>
    intro i h tk c acc as hk hi hst hkeep hS hacc hal hG
    have hin : i = xs.size := by omega
    refine codeAny_builtin PySem.F.entry_extend_loop ?_
    rw [Around.under_plainId PySem.F.plain_extend_loop _]
    show wpAny _ A.in1 (pyNext (.ref z) >>= _) _ _ _
    refine wpAny_bind (zst_done (s := { s with heap := h, toks := tk }) (A := A.in1) hh D hst (.inl (Array.getElem?_eq_none (by omega))) fun h' he => ?_)
    have up : ∀ a, S < a → ∀ o, h.get? a = some o → h'.get? a = some o := fun a ha o e => he a o (Nat.ne_of_gt (Nat.lt_trans nz ha)) (Nat.ne_of_gt (Nat.lt_trans nTO ha)) (Nat.ne_of_gt (Nat.lt_trans ni1 ha)) (Nat.ne_of_gt (Nat.lt_trans ni2 ha)) e
    refine wpAny_pure (hR h' tk acc c as (fun b o h1 h2 h3 h4 h5 e => he b o h2 h3 h4 h5 (hkeep b o h1 h2 h3 h4 h5 e)) (he S _ hne (Nat.ne_of_gt nTO) (Nat.ne_of_gt ni1) (Nat.ne_of_gt ni2) hS) (by omega) ⟨hG.rise, hG.above, fun j a hj => ?_⟩ hacc)
    obtain ⟨x, y, e1, e2, e3⟩ := hG.pairs j a hj
    exact ⟨x, y, e1, e2, up a (hG.above a (List.mem_of_getElem? hj)) _ e3⟩
  | succ k ih =>
    intro i h tk c acc as hk hi hst hkeep hS hacc hal hG
    have hlt : i < xs.size := by omega
    have hsz : acc.size = i := by rw [← Array.length_toList, hacc, List.length_map, hal]
    refine codeAny_builtin PySem.F.entry_extend_loop ?_
    rw [Around.under_plainId PySem.F.plain_extend_loop _]
    show wpAny _ A.in1 (pyNext (.ref z) >>= _) _ _ _
    refine wpAny_bind (zst_item (s := { s with heap := h, toks := tk }) (S := S) D hst (Heap.lt_size hS) (Array.getElem?_eq_getElem hlt) (Array.getElem?_eq_getElem (by omega)) fun h' hst' ht hkp => ?_)
    dsimp only at ht hkp ⊢
    have hS' := hkp S _ hne (Nat.ne_of_gt nTO) (Nat.ne_of_gt ni1) (Nat.ne_of_gt ni2) hS
    have up : ∀ b o, b ≠ S → h'.get? b = some o → (h'.update S (Obj.mapSeq (·.push (Value.ref h.objs.size)))).get? b = some o := fun b o hb e => (Heap.get?_update_other _ _ (Ne.symm hb)).trans e
    have hSl : S < h.objs.size := Heap.lt_size hS
    show wpAny _ A.in1 (updateSeq S (·.push (Value.ref h.objs.size)) >>= _) _ _ _
    refine wpAny_bind ?_
    refine wpAny_updateSeq hS' rfl (wpAny_pure ⟨plainId_quiet PySem.F.plain_extend_loop _, ih (i + 1) _ tk _ (acc.push (Value.ref h.objs.size)) (as ++ [h.objs.size]) (by omega) hlt (zst_keep hst' up ⟨Nat.ne_of_lt nz, Nat.ne_of_lt nTI, Nat.ne_of_lt nTO, Nat.ne_of_lt ni1, Nat.ne_of_lt ni2, Nat.ne_of_lt nl1, Nat.ne_of_lt nl2⟩)
      (fun b o h1 h2 h3 h4 h5 e => up b o h1 (hkp b o h2 h3 h4 h5 (hkeep b o h1 h2 h3 h4 h5 e))) (Heap.get?_update_self _ hS' rfl) (by rw [Array.toList_push, hacc, List.map_append]; rfl) (by rw [List.length_append, hal]; rfl) ⟨?_, ?_, ?_⟩⟩) (by rw [hsz]; omega) (by show (acc.push (Value.ref h.objs.size)).size ≤ sizeLine + 1; rw [Array.size_push, hsz]; omega)
    · refine List.pairwise_append.mpr ⟨hG.rise, List.pairwise_singleton _ _, fun a ha b hb => ?_⟩
      rw [List.mem_singleton.mp hb]
      exact hG.there ha
    · intro a ha
      rcases List.mem_append.mp ha with ha | ha
      · exact hG.above a ha
      · rw [List.mem_singleton.mp ha]; exact hSl
    · intro j b hj
      rcases Nat.lt_trichotomy j as.length with h1 | h1 | h1
      · rw [List.getElem?_append_left h1] at hj
        obtain ⟨x', y', e1, e2, e3⟩ := hG.pairs j b hj
        have hb := hG.above b (List.mem_of_getElem? hj)
        exact ⟨x', y', e1, e2, up b _ (Nat.ne_of_gt hb) (hkp b _ (Nat.ne_of_gt (Nat.lt_trans nz hb)) (Nat.ne_of_gt (Nat.lt_trans nTO hb)) (Nat.ne_of_gt (Nat.lt_trans ni1 hb)) (Nat.ne_of_gt (Nat.lt_trans ni2 hb)) e3)⟩
      · subst h1
        have hb : h.objs.size = b := by simpa using hj
        subst hb
        rw [hal]
        exact ⟨_, _, Array.getElem?_eq_getElem hlt, Array.getElem?_eq_getElem (by omega), up _ _ (Nat.ne_of_gt hSl) ht⟩
      · have hnone : (as ++ [h.objs.size])[j]? = none := List.getElem?_eq_none (by rw [List.length_append, List.length_singleton]; omega)
        rw [hnone] at hj; cases hj
theorem zip_no_len : typeLookup (.type "zip") "__len__" = pure none := am_miss_of_fast (by decide +kernel)
theorem zip_no_hint : typeLookup (.type "zip") "__length_hint__" = pure none := am_miss_of_fast (by decide +kernel)
theorem zl_call {E : Value → Shared → Prop} {Q : Value → Shared → Prop} (hh : A.handled = none) (D : ZipApart z TI TO i1 i2 l1 l2) (hz : IsZip s.heap z TI TO .none) (hTI : IsPair s.heap TI (.ref i1) (.ref i2)) (hTO : IsPair s.heap TO .none .none) (h1 : s.heap.IsListIter i1 l1 0) (h2 : s.heap.IsListIter i2 l2 0) (hl1 : s.heap.IsList l1 xs) (hl2 : s.heap.IsList l2 ys)
    (he : xs.size = ys.size) (hn : xs.size ≤ sizeLine)
    (hQ : ∀ h' tk acc c as, (∀ b o, b ≠ z → b ≠ TO → b ≠ i1 → b ≠ i2 → s.heap.get? b = some o → h'.get? b = some o) → h'.get? s.heap.objs.size = some { cls := .type "list", dict := none, data := .seq acc c, slots := #[] } → as.length = xs.size → ZG xs ys s.heap.objs.size h' as →
      acc.toList = as.map Value.ref → Q (.ref s.heap.objs.size) { s with heap := h', toks := tk }) :
    wpAny (model prog w) A (call (.type "list") [.ref z]) Q E s := by
  refine callType_codes (Q₁ := fun obj s₁ => obj = .ref s.heap.objs.size ∧ s₁ = { s with heap := s.heap.push { cls := .type "list", data := .seq #[] } }) PySem.F.called_list (PySem.F.typeCall_list_1 _) PySem.F.entry_list_init
    (code_list_new _ ⟨rfl, rfl⟩) fun obj s₁ e₁ => ?_
  obtain ⟨rfl, rfl⟩ := e₁
  have hS : (s.heap.push { cls := .type "list", data := .seq #[] }).get? s.heap.objs.size = some { cls := .type "list", data := .seq #[] } := Heap.get?_push_size _ rfl
  have nz : z < s.heap.objs.size := Heap.lt_size hz
  have nn : z < s.heap.objs.size ∧ TI < s.heap.objs.size ∧ TO < s.heap.objs.size ∧ i1 < s.heap.objs.size ∧ i2 < s.heap.objs.size ∧ l1 < s.heap.objs.size ∧ l2 < s.heap.objs.size := ⟨nz, Heap.lt_size hTI, Heap.lt_size hTO, (let ⟨_, e, _⟩ := h1; Heap.lt_size e), (let ⟨_, e, _⟩ := h2; Heap.lt_size e), (let ⟨_, e, _⟩ := hl1; Heap.lt_size e), (let ⟨_, e, _⟩ := hl2; Heap.lt_size e)⟩
  have ne : z ≠ s.heap.objs.size ∧ TI ≠ s.heap.objs.size ∧ TO ≠ s.heap.objs.size ∧ i1 ≠ s.heap.objs.size ∧ i2 ≠ s.heap.objs.size ∧ l1 ≠ s.heap.objs.size ∧ l2 ≠ s.heap.objs.size := ⟨Nat.ne_of_lt nn.1, Nat.ne_of_lt nn.2.1, Nat.ne_of_lt nn.2.2.1, Nat.ne_of_lt nn.2.2.2.1, Nat.ne_of_lt nn.2.2.2.2.1, Nat.ne_of_lt nn.2.2.2.2.2.1, Nat.ne_of_lt nn.2.2.2.2.2.2⟩
  have st0 : ZSt z TI TO i1 i2 l1 l2 xs ys s.heap.objs.size s.heap 0 := ⟨hTI, h1, h2, hl1, hl2, .inl ⟨hz, _, _, hTO⟩⟩
  refine ⟨⟨_, hS, rfl⟩, PySem.F.args_list_init_2 _ _, ?_⟩
  show wpAny _ _ (do let old ← Builtin.List.listItems (.ref s.heap.objs.size); Builtin.List.listUpdate (.ref s.heap.objs.size) (fun _ => #[]); letGo old.toList.reverse; Builtin.List.listExtendWith (.ref s.heap.objs.size) (.ref z) .none) _ _ _
  refine wpAny_bind ?_
  unfold Builtin.List.listItems
  refine wpAny_bind (wpAny_seqItems hS rfl (wpAny_pure ?_))
  show wpAny _ _ (updateSeq s.heap.objs.size (fun _ => #[]) >>= fun _ => letGo (#[] : Array Value).toList.reverse >>= fun _ => Builtin.List.listExtendWith (.ref s.heap.objs.size) (.ref z) .none) _ _ _
  refine wpAny_bind (wpAny_updateSeq hS rfl ?_)
  have hS₁ := Heap.get?_update_self (Obj.mapSeq (fun _ => (#[] : Array Value))) hS rfl
  refine wpAny_bind (wpAny_letGo ?_)
  unfold Builtin.List.listExtendWith
  have oth : ∀ b o, b ≠ s.heap.objs.size → s.heap.get? b = some o → ((s.heap.push { cls := .type "list", data := .seq #[] }).update s.heap.objs.size (Obj.mapSeq (fun _ => (#[] : Array Value)))).get? b = some o := fun b o hb e => (Heap.get?_update_other _ _ (Ne.symm hb)).trans (Heap.get?_push_of_some _ e)
  have hT : ∀ h : Heap, (∀ b o, b ≠ s.heap.objs.size → s.heap.get? b = some o → h.get? b = some o) → ∀ s' : Shared, s'.heap = h → s'.TypeIs (.ref z) "zip" := fun h hk s' e => ⟨_, by rw [e]; exact hk z _ ne.1 hz, rfl⟩
  refine wpAny_bind (wpAny_typeOf (hT _ oth _ rfl) ?_)
  have g1 : Builtin.List.listSameRef (.ref s.heap.objs.size) (.ref z) = false := by simp [Builtin.List.listSameRef, Ne.symm ne.1]
  have g2 : (Value.type "zip" == Value.type "list") = false := by decide
  have g3 : (Value.type "zip" == Value.type "tuple") = false := by decide
  simp only [g1, g2, g3, Bool.or_false, Bool.false_eq_true, if_false]
  refine wpAny_bind (wpAny_pyIter_zip (oth z _ ne.1 hz) ?_)
  refine wpAny_bind (wpAny_holding ?_)
  unfold Builtin.List.listLengthHint
  refine wpAny_bind (wpAny_specialOf (hT _ oth _ rfl) zip_no_len ?_)
  show wpAny _ _ (specialOf (Value.ref z) (Str.ofString "__length_hint__") >>= _) _ _ _
  refine wpAny_bind (wpAny_specialOf (hT _ oth _ rfl) zip_no_hint ?_)
  refine wpAny_pure ?_
  show wpAny _ _ (rule "list.extend.makes-room" >>= fun _ => Builtin.List.listTouch (.ref s.heap.objs.size) >>= fun _ =>
    again (.builtin "list.extend.loop" ⟨[.ref s.heap.objs.size, .ref z, .none], []⟩)) _ _ _
  refine wpAny_bind (wpAny_rule ?_)
  refine wpAny_bind ?_
  show wpAny _ _ (updateSeq s.heap.objs.size (·.push .none) >>= fun _ => updateSeq s.heap.objs.size (·.pop)) _ _ _
  refine wpAny_bind (wpAny_updateSeq hS₁ rfl ?_)
  have hS₂ := Heap.get?_update_self (Obj.mapSeq (·.push Value.none)) hS₁ rfl
  refine wpAny_updateSeq (hz := by seq_fits) hS₂ rfl ?_
  have hS₃ := Heap.get?_update_self (Obj.mapSeq (·.pop)) hS₂ rfl
  refine wpAny_pure ⟨plainId_quiet PySem.F.plain_extend_loop _, ?_⟩
  refine zl_loop (A := A.in1) (s := s) (R := wants (fun r s₂ => r = .none ∧ Q (.ref s.heap.objs.size) s₂) E) (h₁ := s.heap) hh D nn he hn .none (fun h' tk acc c as hk hS' hl hG hacc => ⟨rfl, hQ h' tk acc c as (fun b o b1 b2 b3 b4 e => hk b o (Nat.ne_of_lt (Heap.lt_size e)) b1 b2 b3 b4 e) hS' hl hG hacc⟩) xs.size 0 _ _ _ #[] [] (Nat.sub_zero _) (Nat.zero_le _)
    (zst_keep st0 (fun b o hb e => (Heap.get?_update_other _ _ (Ne.symm hb)).trans ((Heap.get?_update_other _ _ (Ne.symm hb)).trans (oth b o hb e))) ne) (fun b o hb _ _ _ _ e => (Heap.get?_update_other _ _ (Ne.symm hb)).trans ((Heap.get?_update_other _ _ (Ne.symm hb)).trans (oth b o hb e))) hS₃ rfl rfl ⟨List.Pairwise.nil, (fun _ ha => nomatch ha), (fun j a hj => by simp at hj)⟩
end
/-! the tracked heap behind it -/
section
variable {X : Cx}
def putZ : Hp → List Addr → List (V × V) → Hp
  | H, a :: as, p :: kvs => putZ (upd H a (.tup [p.1, p.2])) as kvs
  | H, _, _ => H
theorem putZ_off {b : Addr} : ∀ (as : List Addr) (kvs : List (V × V)) (H : Hp), b ∉ as → putZ H as kvs b = H b
  | [], _, _, _ => rfl
  | _ :: _, [], _, _ => rfl
  | a :: as, p :: kvs, H, h => by
    show putZ (upd H a (.tup [p.1, p.2])) as kvs b = H b
    rw [putZ_off as kvs _ (fun z => h (List.mem_cons_of_mem _ z)), upd_ne (fun z => h (by rw [z]; exact List.mem_cons_self))]
theorem putZ_at : ∀ (as : List Addr) (kvs : List (V × V)) (H : Hp), as.length = kvs.length → as.Nodup → Paired (fun (t : Addr) (p : V × V) => putZ H as kvs t = some (.tup [p.1, p.2])) as kvs
  | [], [], _, _, _ => .nil
  | [], _ :: _, _, h, _ => by cases h
  | _ :: _, [], _, h, _ => by cases h
  | a :: as, p :: kvs, H, h, hn => by
    have hn' := List.nodup_cons.mp hn
    have ih := putZ_at as kvs (upd H a (.tup [p.1, p.2])) (Nat.succ.inj h) hn'.2
    refine .cons ?_ ih
    show putZ (upd H a (.tup [p.1, p.2])) as kvs a = some (.tup [p.1, p.2])
    rw [putZ_off as kvs _ hn'.1, upd_same]
theorem zl_laid {pins : List (Addr × Obj)} {σ : L2.St} {H : Hp} {s : Shared} {h' : Heap} {tk : Nat} {S : Addr} {vx vy : List V} {xs ys : List Value} {acc : Array Value} {c : Nat} {as : List Addr} (I : Inv X pins σ H s) (hz : xs.length ≤ sizeLine) (rx : Vals vx xs) (ry : Vals vy ys) (le : xs.length = ys.length)
    (hk : ∀ b o, s.heap.get? b = some o → h'.get? b = some o) (hSl : s.heap.objs.size ≤ S) (hS : h'.get? S = some { cls := .type "list", dict := none, data := .seq acc c, slots := #[] }) (hl : as.length = xs.length) (hG : ZG xs.toArray ys.toArray S h' as) (hacc : acc.toList = as.map Value.ref) :
    ∃ H' : Hp, (∀ b o, H b = some o → H' b = some o) ∧ H S = none ∧ (∀ t ∈ as, H t = none) ∧ S ∉ as ∧ (∀ b, b ∉ as → b ≠ S → H' b = H b) ∧ H' S = some (.lst (as.map V.ref)) ∧ Paired (fun (t : Addr) (q : V × V) => H' t = some (.tup [q.1, q.2])) as (vx.zip vy) ∧ Inv X pins σ H' { s with heap := h', toks := tk } := by
  have lx := rx.length
  have ly := ry.length
  have hSn : S ∉ as := fun z => Nat.lt_irrefl _ (hG.above _ z)
  have nd : as.Nodup := List.Pairwise.imp (fun {a b} (h : a < b) => Nat.ne_of_lt h) hG.rise
  have new : ∀ t ∈ as, H t = none := fun t ht => I.hok.fresh (Nat.le_trans hSl (Nat.le_of_lt (hG.above t ht)))
  have newS : H S = none := I.hok.fresh hSl
  have atP := putZ_at as (vx.zip vy) (upd H S (.lst (as.map V.ref))) (by rw [List.length_zip]; omega) nd
  have off : ∀ b, b ∉ as → b ≠ S → putZ (upd H S (.lst (as.map V.ref))) as (vx.zip vy) b = H b := fun b h1 h2 => by rw [putZ_off as _ _ h1, upd_ne h2]
  have low : ∀ b o, s.heap.get? b = some o → b ∉ as ∧ b ≠ S := fun b o e => ⟨fun z => absurd (Heap.lt_size e) (Nat.not_lt.mpr (Nat.le_trans hSl (Nat.le_of_lt (hG.above b z)))), fun z => absurd (Heap.lt_size e) (Nat.not_lt.mpr (by rw [z]; exact hSl))⟩
  have kp : ∀ b u, H b = some u → (putZ (upd H S (.lst (as.map V.ref))) as (vx.zip vy)) b = some u := fun b u e => by
    rw [off b (fun z => by rw [new b z] at e; cases e) (fun z => by rw [z, newS] at e; cases e)]
    exact e
  have eS : putZ (upd H S (.lst (as.map V.ref))) as (vx.zip vy) S = some (.lst (as.map V.ref)) := by rw [putZ_off as _ _ hSn, upd_same]
  refine ⟨putZ (upd H S (.lst (as.map V.ref))) as (vx.zip vy), kp, newS, new, hSn, off, eS, atP, ?_⟩
  refine I.call' (ch := []) rfl ⟨fun b o q _ _ _ => hk b o q, fun b o q _ _ _ => ⟨o.slots, hk b o q⟩, fun b o q n _ => ?_, fun b o q _ => ⟨o, hk b o q⟩, fun b xs q => kp b _ q, fun b o u q => kp b _ q, fun b ps q => ⟨#[], by rw [kp b _ q]; simp⟩⟩ (fun b u q => ?_) I.bare fun b z => by simp at z
  · obtain ⟨z1, z2⟩ := low b o q
    rw [off b z1 z2]
    exact n
  · by_cases hb : b ∈ as
    · obtain ⟨j, pk, e1, e2, e3⟩ := LiI.paired_ix atP hb
      rw [e3] at q
      cases q
      obtain ⟨x, y, f1, f2, f3⟩ := hG.pairs j b e1
      rw [List.getElem?_zip_eq_some] at e2
      obtain ⟨u1, hu1, ru1⟩ := rx.get e2.1
      obtain ⟨u2, hu2, ru2⟩ := ry.get e2.2
      have g1 : xs[j]? = some x := by simpa using f1
      have g2 : ys[j]? = some y := by simpa using f2
      rw [hu1] at g1
      cases g1
      rw [hu2] at g2
      cases g2
      exact ⟨by show 2 ≤ sizeLine; decide, [x, y], .cons ru1 (.cons ru2 .nil), ⟨_, f3, rfl, _, rfl⟩⟩
    · by_cases hb2 : b = S
      · rw [hb2] at q ⊢
        rw [eS] at q
        cases q
        refine ⟨by rw [List.length_map]; omega, acc.toList, c, by rw [hacc]; exact LiI.vals_refs as, ?_⟩
        rw [Array.toArray_toList]
        exact hS
      · rw [off b hb hb2] at q
        exact (I.hok b u q).stay (fun d v _ y => hk d v y) (fun d y => kp d _ y) fun d xs y => kp d _ y
def tListZip (K : PySem.W.Frag) (ta : TA) : TE := fun σ H Q => ta σ H fun vs H1 => ∃ la lb xs ys, vs = [.ref la, .ref lb] ∧ SqL K H1 la xs ∧ SqL K H1 lb ys ∧ xs.length = ys.length ∧
  ∀ (H' : Hp) (p : Addr) (ts : List Addr), (∀ b o, H1 b = some o → H' b = some o) → H1 p = none → (∀ t ∈ ts, H1 t = none) → p ∉ ts → (∀ b, b ∉ ts → b ≠ p → H' b = H1 b) → H' p = some (.lst (ts.map V.ref)) → Paired (fun (t : Addr) (q : V × V) => H' t = some (.tup [q.1, q.2])) ts (xs.zip ys) → Q (.ref p) H'
theorem pe_listZip {e e2 : Expr} {ta : TA} {p pz pos cpos : Pos} (hc : X.calm = true) (hg : Gl X "list") (hm : X.mg "list" = none) (hgz : Gl X "zip") (hmz : X.mg "zip" = none) (ha : PA X [e, e2] ta)
    (hs : starEach [e, e2] X.env = (false, eval e X.env) :: starEach [e2] X.env := by rfl) (hpl : (backTo cpos (starEach [e2] X.env)).any (·.1) = false := by rfl)
    (na : starEach [.Call (.Name "zip" pz) [e, e2] [] cpos] X.env = (false, eval (.Call (.Name "zip" pz) [e, e2] [] cpos) X.env) :: starEach [] X.env := by rfl) :
    PE X (.Call (.Name "list" p) [.Call (.Name "zip" pz) [e, e2] [] cpos] [] pos) (tListZip X.K ta) := by
  refine ⟨fun pins s σ H Q I h => ?_⟩
  refine Call_ (ld_blt I hg hm boot_list (PyProof.Rows.callWith_type1 (args_cons ?_ na) na))
  refine Call_ (ld_blt I hgz hmz PyProof.Rows.boot_zip (PyProof.Rows.callWith_type1 (thn (ha.run cpos pins s σ H _ I h) fun us s1 ⟨vs, H1, I1, r1, q1⟩ => ?_) hs hpl))
  obtain ⟨a, b, xs, ys, ex, hqx, hqy, hl, q⟩ := q1
  subst ex
  cases r1 with
  | cons r rr =>
    cases rr with
    | cons r' rr =>
      cases rr
      cases r
      cases r'
      obtain ⟨its, rv, p1, z1⟩ := I1.list hqx
      obtain ⟨its2, rv2, p2, z2⟩ := I1.list hqy
      have la : a < s1.heap.objs.size := p1.lt
      have lb : b < s1.heap.objs.size := p2.lt
      have l1 := rv.length
      have l2 := rv2.length
      refine call_zip_2 p1.isList p2.isList fun h' hz hTI hTO h1 h2 hsz hk => args_nil ?_
      have up := fun c o (e : s1.heap.get? c = some o) => hk c o e
      refine zl_call (s := { s1 with heap := h' }) (xs := its.toArray) (ys := its2.toArray) (I1.ok.hd hc) (PySem.W.ktu_apart s1.heap.objs.size a b la lb) hz hTI hTO h1 h2 (p1.isList.at fun o e => hk _ o e) (p2.isList.at fun o e => hk _ o e) (by simp; omega) (by simp; omega) fun h'' tk acc c as hk2 hS hal hG hacc => ?_
      have low : ∀ b o, s1.heap.get? b = some o → h''.get? b = some o := fun b o e => by
        have := Heap.lt_size e
        exact hk2 b o (Nat.ne_of_lt (Nat.lt_of_lt_of_le this (Nat.le_add_right _ _))) (Nat.ne_of_lt (Nat.lt_of_lt_of_le this (Nat.le_add_right _ _))) (Nat.ne_of_lt this) (Nat.ne_of_lt (Nat.lt_of_lt_of_le this (Nat.le_add_right _ _))) (hk b o e)
      have hsz : h'.objs.size = s1.heap.objs.size + 5 := hsz
      obtain ⟨H', k1, k2, k3, k4, k5, k6, k7, J⟩ := zl_laid (tk := tk) (S := h'.objs.size) I1 (by omega) rv rv2 (by omega) low (by omega) hS (by simpa using hal) hG hacc
      exact ⟨.ref _, H', J, rfl, q H' _ as k1 k2 k3 k4 k5 k6 k7⟩
end
section
variable {X : Cx} {Γ : List SP} {α β : Type} {a b : Expr}
theorem zl_pair {H : Hp} {ra : RT α} {rb : RT β} : ∀ {ts : List Addr} {vx vy : List V} {xs : List α} {ys : List β}, Paired (fun (t : Addr) (q : V × V) => H t = some (.tup [q.1, q.2])) ts (vx.zip vy) → Paired (ra.ok H) vx xs → Paired (rb.ok H) vy ys → Paired ((rP ra rb).ok H) (ts.map V.ref) (xs.zip ys)
  | _, _, _, _, _, h, .nil, _ => by
    rw [List.zip_nil_left] at h ⊢
    cases h; exact .nil
  | _, _, _, _, _, h, .cons _ _, .nil => by
    rw [List.zip_nil_right] at h ⊢
    cases h; exact .nil
  | _, _, _, _, _, h, .cons r1 t1, .cons r2 t2 => by
    rw [List.zip_cons_cons] at h ⊢
    cases h with
    | cons e t => exact .cons ⟨_, _, _, rfl, e, r1, r2⟩ (zl_pair t t1 t2)
theorem xn_listZip {p pz pos cpos : Pos} {M : Mp (List α)} {N : Mp (List β)} {ra : RT α} {rb : RT β} (hc : X.calm = true) (hm : X.mg "list" = none) (hmz : X.mg "zip" = none) (ha : XP X Γ a M (rL ra)) (hb : XP X Γ b N (rL rb)) (hg : Gl X "list" := by rfl) (hgz : Gl X "zip" := by rfl)
    (h1 : starEach [a, b] X.env = (false, eval a X.env) :: starEach [b] X.env := by rfl) (h2 : starEach [b] X.env = (false, eval b X.env) :: starEach [] X.env := by rfl) (hpl : (backTo cpos (starEach [b] X.env)).any (·.1) = false := by rfl)
    (na : starEach [.Call (.Name "zip" pz) [a, b] [] cpos] X.env = (false, eval (.Call (.Name "zip" pz) [a, b] [] cpos) X.env) :: starEach [] X.env := by rfl) :
    XN X Γ (.Call (.Name "list" p) [.Call (.Name "zip" pz) [a, b] [] cpos] [] pos) (fun P => M fun xs => N fun ys => xs.length = ys.length ∧ P (xs.zip ys)) (rP ra rb) := by
  obtain ⟨t, pp, q⟩ := ha
  obtain ⟨t2, pp2, q2⟩ := hb
  refine ⟨_, pe_listZip hc hg hm hgz hmz (pa_cons pp (pa_cons pp2 pa_nil h2) h1) h1 hpl na, fun σ W k s Q P m h => ?_⟩
  refine q σ W k s _ _ m fun xs v W1 m1 k1 s1 g1 ⟨u, vs, e1, hh1, pr1⟩ => ?_
  refine q2 σ W1 k1 g1 _ _ m1 fun ys v2 W2 ⟨hl, m2⟩ k2 s2 g2 ⟨u2, vs2, e2, hh2, pr2⟩ => ?_
  subst e1 e2
  have pr1 := pmap pr1 fun _ _ => ra.mono s2.hc
  refine ⟨u, u2, vs, vs2, rfl, sql_of (k2.ex _ _ (s2.hc _ _ hh1)), sql_of (k2.ex _ _ hh2), by rw [pr1.length, pr2.length, hl], fun H' l ts a1 a2 a3 a4 a5 a6 a7 => ?_⟩
  have nO : ∀ t, W2.H t = none → W2.O t = none := fun t ht => k2.free ht
  have exH : Ex W2.Hc (fun c => if c ∈ ts then H' c else W2.Hc c) := fun c o e => by
    have : c ∉ ts := fun z => by rw [k2.none_of (a3 c z)] at e; cases e
    show (if c ∈ ts then H' c else W2.Hc c) = some o
    rw [if_neg this]; exact e
  have k3 : Wd.Ok ⟨fun c => if c ∈ ts then H' c else W2.Hc c, H', W2.O, W2.B⟩ := ⟨fun c o e => by
      have e : (if c ∈ ts then H' c else W2.Hc c) = some o := e
      by_cases z : c ∈ ts
      · rw [if_pos z] at e; exact e
      · rw [if_neg z] at e; exact a1 c o (k2.ex c o e), fun c i e => by
      have n2 := (k2.own c i e).2
      have z : c ∉ ts := fun z => n2 (a3 c z)
      refine ⟨?_, ?_⟩
      · show (if c ∈ ts then H' c else W2.Hc c) = none
        rw [if_neg z]; exact (k2.own c i e).1
      · obtain ⟨o, eo⟩ := of_ne_none n2
        show H' c ≠ none
        rw [a1 c o eo]; simp, k2.basTo (fun c e => by
      obtain ⟨o, eo⟩ := of_ne_none e
      show H' c ≠ none
      rw [a1 c o eo]; simp) (fun c o _ _ e => a1 c o e) fun _ _ n => n⟩
  have s3 : Step W2 ⟨fun c => if c ∈ ts then H' c else W2.Hc c, H', W2.O, W2.B⟩ := ⟨fun c o e _ => a1 c o e, fun c e => by
      obtain ⟨o, eo⟩ := of_ne_none e
      show H' c ≠ none
      rw [a1 c o eo]; simp, exH, fun c e n => ⟨by
        show (if c ∈ ts then H' c else W2.Hc c) = W2.Hc c
        rw [if_neg fun z => e (a3 c z)], n⟩, rfl⟩
  refine h (xs.zip ys) l (ts.map V.ref) ⟨fun c => if c ∈ ts then H' c else W2.Hc c, H', W2.O, W2.B⟩ m2 k3 ((s1.trans s2).trans s3) (g2.up ⟨exH, fun c j e => ⟨e, ?_⟩, rfl, fun _ _ n => n⟩) (fresh_of (s1.trans s2) a2) ?_ (nO l a2) a6 ?_
  · obtain ⟨o, eo⟩ := of_ne_none (k2.own c j e).2
    show H' c = W2.H c
    rw [a1 c o eo, eo]
  · show (if l ∈ ts then H' l else W2.Hc l) = none
    rw [if_neg a4]; exact k2.none_of a2
  · refine zl_pair (H := fun c => if c ∈ ts then H' c else W2.Hc c) ?_ (pmap pr1 fun _ _ => ra.mono exH) (pmap pr2 fun _ _ => rb.mono exH)
    have : ∀ {ts0 : List Addr} {zs : List (V × V)}, Paired (fun (t : Addr) (q : V × V) => H' t = some (.tup [q.1, q.2])) ts0 zs → (∀ t ∈ ts0, t ∈ ts) → Paired (fun (t : Addr) (q : V × V) => (if t ∈ ts then H' t else W2.Hc t) = some (.tup [q.1, q.2])) ts0 zs := fun pz => by
      induction pz with
      | nil => intro _; exact .nil
      | cons e t ih => exact fun hm => .cons (by rw [if_pos (hm _ List.mem_cons_self)]; exact e) (ih fun t z => hm t (List.mem_cons_of_mem _ z))
    exact this a7 fun _ z => z
end
end TM
set_option Elab.async false
set_option linter.all false
set_option maxRecDepth 100000
set_option maxHeartbeats 2000000
namespace TM
open PySem PySem.Spec PyProof.Rows L2
section
variable {X : Cx} {Γ : List SP} {α β γ B R : Type} {a b c : Expr} {pos : Pos} {Γb : B → List SP} {RR : R → V → Wd → Prop} {x y z : Str} {px py pz pt pt2 : Pos} {kt k2 : Nat} {ra : RT α} {rb : RT β} {rc : RT γ}
theorem xt_par3N (i j l : Nat) {Ma : Mp (List α)} {Mb : Mp (List β)} {Mc : Mp (List γ)} (ha : XN X Γ a Ma ra) (hb : XN X Γ b Mb rb) (hcc : XN X Γ c Mc rc) (hc : X.calm = true) (hnd : X.N.Nodup) (hi : X.N[i]? = some x := by rfl) (hj : X.N[j]? = some y := by rfl) (hl : X.N[l]? = some z := by rfl) (hij : i ≠ j := by decide) (hil : i ≠ l := by decide) (hjl : j ≠ l := by decide)
    (hx : X.env.scope.names.lookup x = some .local := by rfl) (hy : X.env.scope.names.lookup y = some .local := by rfl) (hz : X.env.scope.names.lookup z = some .local := by rfl)
    (hw : swappedStores [.Tuple [.Name x px, .Name y py, .Name z pz] kt pt] (.Tuple [a, b, c] k2 pt2) X.env = pure (some [x, y, z]) := by rfl) (hs : swapsWithSole [.Tuple [.Name x px, .Name y py, .Name z pz] kt pt] (.Tuple [a, b, c] k2 pt2) pos.line X.env = pure false := by rfl) (h1 : starEach [a, b, c] X.env = (false, eval a X.env) :: starEach [b, c] X.env := by rfl) (h2 : starEach [b, c] X.env = (false, eval b X.env) :: starEach [c] X.env := by rfl) (h3 : starEach [c] X.env = (false, eval c X.env) :: starEach [] X.env := by rfl) :
    XSt X Γ (.Assign [.Tuple [.Name x px, .Name y py, .Name z pz] kt pt] (.Tuple [a, b, c] k2 pt2) pos) (fun κ : Kn (List α × List β × List γ) B R => Ma fun u => Mb fun v => Mc fun w => κ.nx (u, v, w)) (fun z => ((Γ.set i (.own ra z.1)).set j (.own rb z.2.1)).set l (.own rc z.2.2)) Γb RR := by
  obtain ⟨t1, p1, q1⟩ := ha
  obtain ⟨t2, p2, q2⟩ := hb
  obtain ⟨t3, p3, q3⟩ := hcc
  refine ⟨_, ps_par3 hc hnd hi hj hl hij hil hjl hx hy hz (pa_cons p1 (pa_cons p2 (pa_cons p3 pa_nil h3) h2) h1) hw hs, fun σ W k g κ D m hh _ _ _ => ?_⟩
  refine q1 σ W k g _ _ m fun u v vs W1 m1 k1 s1 g1 n1 nc1 no1 hv pr1 => ?_
  refine q2 σ W1 k1 g1 _ _ m1 fun u2 w ws W2 m2 k2 s2 g2 n2 nc2 no2 hw2 pr2 => ?_
  refine q3 σ W2 k2 g2 _ _ m2 fun u3 w3 ws3 W3 m3 k3 s3 g3 n3 nc3 no3 hw3 pr3 => ?_
  have hv2 := s2.keep v _ hv no1
  obtain ⟨oc, oo⟩ := s2.old v (ne_none_of hv) no1
  have hv3 := s3.keep v _ hv2 (oo)
  obtain ⟨oc3, oo3⟩ := s3.old v (ne_none_of hv2) oo
  have hx3 := s3.keep w _ hw2 no2
  obtain ⟨ow3, ow4⟩ := s3.old w (ne_none_of hw2) no2
  have s03 := (s1.trans s2).trans s3
  obtain ⟨W4, e4, c4, o4, k4, s4, g4⟩ := sat_own2 (i := i) k k3 s03 g3 n1 ((oc3.trans oc).trans nc1) oo3 hv3 (pmap pr1 fun _ _ => ra.mono (fun b o e => s3.hc b o (s2.hc b o e)))
  have nw : w ≠ v := fun z => by rw [z, hv] at n2; cases n2
  have nw3 : w3 ≠ v := fun z => by rw [z, hv2] at n3; cases n3
  have nw4 : w3 ≠ w := fun z => by rw [z, hw2] at n3; cases n3
  obtain ⟨W5, e5, c5, o5, k5, s5, g5⟩ := sat_own2 (i := j) k k4 s4 g4 (fresh_of s1 n2) (by rw [c4]; exact ow3.trans nc2) ((o4 w nw).trans ow4) (by rw [e4]; exact hx3) (by rw [c4]; exact pmap pr2 fun _ _ => rb.mono s3.hc)
  obtain ⟨W6, e6, k6, s6, g6⟩ := sat_own (i := l) k k5 s5 g5 (fresh_of (s1.trans s2) n3) (by rw [c5, c4]; exact nc3) ((o5 w3 nw4).trans ((o4 w3 nw3).trans no3)) (by rw [e5, e4]; exact hw3) (by rw [c5, c4]; exact pr3)
  refine ⟨.ref v, .ref w, .ref w3, rfl, ?_⟩
  rw [← e4, ← e5, ← e6]
  exact hh (u, u2, u3) _ W6 m3 k6 s6 g6
/-- (a, b, c), d = .. -/
theorem xg_tup31 {α β γ δ S : Type} {X : Cx} (i j l n : Nat) {x y z u : Str} {pos p1 p2 p3 p4 p5 : Pos} {k k2 : Nat} {Γs : S → List SP} {ra : RT α} {rb : RT β} {rc : RT γ} {rd : RT δ} (hnd : X.N.Nodup)
    (hg : PG X (.Tuple [.Tuple [.Name x p1, .Name y p2, .Name z p3] k2 p4, .Name u p5] k pos) (gTup X.K 2 (gCons (gTup X.K 3 (gCons (gName i) (gCons (gName j) (gCons (gName l) gNil)))) (gCons (gName n) gNil)))) :
    XG X (.Tuple [.Tuple [.Name x p1, .Name y p2, .Name z p3] k2 p4, .Name u p5] k pos) Γs (rP (rP3 ra rb rc) rd) (fun z s => ((((Γs s).set i (.cl ra z.1.1)).set j (.cl rb z.1.2.1)).set l (.cl rc z.1.2.2)).set n (.cl rd z.2)) :=
  ⟨_, hg, fun σ W v z s kk g ⟨u, a1, a2, e, hh, ⟨w, b1, b2, b3, e2, hh2, r1, r2, r3⟩, r4⟩ Q h => ⟨u, [a1, a2], e, sqt_of (kk.ex _ _ hh), rfl, a1, [a2], rfl, ⟨w, [b1, b2, b3], e2, sqt_of (kk.ex _ _ hh2), rfl, b1, [b2, b3], rfl, b2, [b3], rfl, b3, [], rfl, rfl, a2, [], rfl, rfl, h _ ((((g.put (spc r1)).put (spc r2)).put (spc r3)).put (spc r4))⟩⟩⟩
theorem all1 {p : Nat → Prop} {a : Nat} (h : p a) : ∀ j ∈ [a], p j := fun j m => by rw [List.mem_singleton.mp m]; exact h
theorem all2 {p : Nat → Prop} {a b : Nat} (h : p a) (h2 : p b) : ∀ j ∈ [a, b], p j := fun j m => by
  rcases List.mem_cons.mp m with rfl | m
  · exact h
  · exact all1 h2 j m
theorem all3 {p : Nat → Prop} {a b c : Nat} (h : p a) (h2 : p b) (h3 : p c) : ∀ j ∈ [a, b, c], p j := fun j m => by
  rcases List.mem_cons.mp m with rfl | m
  · exact h
  · exact all2 h2 h3 j m
theorem gA_adr {γ : Type} {k : OwnK γ} {a : Addr} {y : γ} {i : Nat} {o : Option V} {W : Wd} (h : SPok (.gen (gA k a y)) i o W) : o = some (.ref a) := h.1
end
end TM
set_option Elab.async false
set_option linter.all false
set_option maxRecDepth 100000
set_option maxHeartbeats 1000000
/-! found = C(..); found.m(..); return found -/
namespace TM
open PySem PySem.Spec PyProof.Rows L2
section
variable {X : Cx} {Γ Λ : List SP} {α β γ τ τ2 S S' B R : Type} {e a b c : Expr} {es : List Expr} {pos : Pos} {st : Stmt} {sts rest body : List Stmt}
variable {C : Addr} {J : Addr → Hp → Prop} {FF : Hp → List (Str × V) → Prop} {FF' : S → Hp → List (Str × V) → Prop} {f sf : Str} {p1 p2 : Pos}
/-- self.f = e, the field new or old -/
theorem xk_setA {M : Mp α} {rr : Hp → RT α} {r : RT α} {N : α → (S → Prop) → Prop} {FFx : α → Hp → List (Str × V) → Prop} (c : Cls X.K C) (nf : NoAttr X.K C f) (fm : ∀ {Hc Hc' fs}, Ex Hc Hc' → FF Hc fs → FF Hc' fs) (fp : ∀ {Hc fs v x}, FF Hc fs → r.ok Hc v x → FFx x Hc (putF f v fs)) (fl : ∀ {Hc fs}, FF Hc fs → fs.length < 1000) (cg : clus Γ) (cl : clus Λ) (l0 : look Λ 0 = .unk) (cv : Cv rr r) (h : ∀ H1, XP X (Λ.set 0 (.cl (rAll H1) ())) e M (rr H1)) (hr : ∀ x, XCt X C J Γ Λ (FFx x) rest (N x) FF')
    (hN : X.N[0]? = some sf := by rfl) (hv : Vis X.env.scope sf := by first | exact Or.inl rfl | exact Or.inr (Or.inl rfl) | exact Or.inr (Or.inr rfl)) (hd : (sf == ("__debug__" : Str)) = false := by decide) (hcd : (sf == ("__classdict__" : Str)) = false := by decide) (hs : swapsWith e (some (.Attribute (.Name sf p1) f p2)) pos.line X.env = pure false := by rfl) :
    XCt X C J Γ Λ FF (.Assign [.Attribute (.Name sf p1) f p2] e pos :: rest) (fun P => M fun x => N x P) FF' := by
  have pe : PE X e (fun σ H Q => ∃ H1, Classical.choose (h H1) σ H Q) := ⟨fun pins s σ H Q I ⟨H1, w⟩ => (Classical.choose_spec (h H1)).1.run pins s σ H Q I w⟩
  refine ⟨_, pss_cons (ps_fld (pe_var hN hv hd hcd) pe hs) (pss_ex fun x => (Classical.choose_spec (hr x)).1), fun σ p H0 Hc0 Hb fs H jj k hs' g l hf P D m hh => ?_⟩
  refine ⟨H, ?_⟩
  refine (Classical.choose_spec (h H)).2 σ ⟨H, H, fun _ => none, H⟩ ⟨fun _ _ h => h, (by intro a i e; cases e), bas_self⟩ (lent_big cl l0 hs' (fun b o e => k.nb e) l) _ _ m fun x v W' m' k' s' g' r' => ?_
  have e1 : Ex H W'.H := KI.keepAll s' fun _ => rfl
  have k1 := k.grow e1
  obtain ⟨dx, hp⟩ := k1.me
  refine ⟨_, hs', p, C, dx, fs, rfl, hp, c, nf, fl hf, x, ?_⟩
  have k2 := k1.put (dx := dx) (putF f v fs)
  have en : nwH H0 Hc0 (upd W'.H p (.ins C dx (putF f v fs))) = nwH H0 Hc0 W'.H := k1.nwput
  refine (Classical.choose_spec (hr x)).2 σ p H0 Hc0 Hb _ _ jj k2 hs' (by rw [en]; exact clu_up cg (KI.nwm e1) g) l ?_ P D m' fun s fs' H' ps k3 f3 oo => hh s fs' H' ps k3 f3 fun b o n h => oo b o n (by rw [upd_ne n]; exact e1 b o h)
  rw [en]
  exact fp (fm (KI.nwm e1) hf) (cv.cv H0 Hc0 H W'.H _ _ (fun b n => k.dom n) ((rr H).mono k'.ex r'))
/-- a new instance -/
def XNi (X : Cx) (Γ : List SP) (e : Expr) (M : Mp β) (r : RT β) : Prop := ∃ t, PE X e t ∧ ∀ (σ : St) (W : Wd), W.Ok → Sat Γ σ W → ∀ (Q : VK) (P : β → Prop), M P →
  (∀ x z W0 W', P x → W0.Ok → Step W W0 → Sat Γ σ W0 → W0.H z = none → W'.Ok → Grow W0 W' → r.ok W'.Hc (.ref z) x → Q (.ref z) W'.H) → t σ W.H Q
theorem xi_make {C : Addr} {k j : Nat} {ps : List Str} {x : Str} {p : Pos} {R : RA τ} {RJ : Hp → Hp → List V → τ → Prop} {F : τ → Mp β} {r : RT β} {M : Mp τ} (G : MakeJ X.prog X.w X.K X.mg X.base x C k ps (spJ C RJ F r)) (hR : ∀ H vs x, R.ok H vs x → RJ H H vs x) (hr : Room j X.A) (hj : k + 1 ≤ j)
    (ha : XA X Γ (e :: es) M R) (hg : Gl X x := by rfl) (hdb : (x == ("__debug__" : Str)) = false := by decide) (he : starEach (e :: es) X.env = (false, eval e X.env) :: starEach es X.env := by rfl) (hpl : (backTo pos (starEach es X.env)).any (·.1) = false := by rfl) :
    XNi X Γ (.Call (.Name x p) (e :: es) [] pos) (fun P => M fun y => F y P) r := by
  obtain ⟨hm, f, fd, Mc, hb, G⟩ := G
  obtain ⟨t, pp, q⟩ := ha
  refine ⟨_, pe_make Mc G (hr.mono hj) hg hm hb .nil pass0 pp hdb he hpl, fun σ W k s Q P m h => ?_⟩
  refine q σ W k s _ _ m fun y v W1 m1 k1 s1 g1 r1 => ?_
  intro z dx nz ndx ne
  rw [List.append_nil]
  have w := makeJ_core (C := C) (Q := fun v H' => v = .ref z → Q v H') (E := E0) (r := r) (Hb := W1.Hc) k1 (fun _ _ h => h) k1.ex (hR _ _ _ r1) m1 (fun b u W2 pb k2 g2 r2 e => by
    cases e
    exact h b z W1 W2 pb k1 s1 g1 nz k2 g2 r2) z dx nz ndx ne
  obtain ⟨p', dx', ws', x', W', Hb', P', h1, h2, h3, h4, h5, h6, h7, h8, h9, h10, h11, h12, h13, h14, last⟩ := w
  exact ⟨p', dx', ws', x', W', Hb', P', h1, h2, h3, h4, h5, h6, h7, h8, h9, h10, h11, h12, h13, h14, fun b W2 pb k s r => ⟨(last b W2 pb k s r).1, (last b W2 pb k s r).2 rfl⟩⟩
/-- found = C(..); found.m(..); return found -/
theorem xs_again {Γn : S → List SP} {Γb : B → List SP} {RR : R → V → Wd → Prop} {x m : Str} {px p2 p3 p4 : Pos} {pos2 pos3 apos : Pos} {k j : Nat} {ps : List Str} {β : Type} {e0 a1 : Expr} {r : RT γ} {rr : RT R} {M : Mp γ} {τ3 : Type} {Rz : RA τ3} {N : Mp τ3} {RK : Hp → Hp → List V → τ2 → Prop} {FFz : τ2 → Hp → List (Str × V) → Prop} {F : τ2 → Mp β} {FFw : τ2 → β → Hp → List (Str × V) → Prop} {pl : Sem Bool} (fin : τ2 → β → R) (zz : γ → τ3 → τ2)
    (i : Nat) (hm : XNi X Γ e0 M r) (hnd : X.N.Nodup) (hl : i < Γ.length) (G : MethG X.prog X.w X.K X.mg X.base C m k ps (spK C RK FFz F FFw)) (hr : Room j X.A) (hj : k ≤ j) (c : Cls X.K C)
    (ha : XA X (Γ.set i .unk) (a1 :: es) N Rz)
    (hA : ∀ {Hc z y}, r.ok Hc (.ref z) y → ∃ dx fs, Hc z = some (.ins C dx fs) ∧ fs.lookup m = none ∧ ∀ x H', Ex (er Hc z) H' → FFz (zz y x) H' fs)
    (hR : ∀ H vs y x, Rz.ok H vs x → RK H H vs (zz y x))
    (hF : ∀ x b Hc fs p dx, FFw x b Hc fs → Hc p = some (.ins C dx fs) → rr.ok Hc (.ref p) (fin x b)) (hFm : ∀ x b Hc Hc' fs, Ex Hc Hc' → FFw x b Hc fs → FFw x b Hc' fs)
    (hRR : ∀ x v (W : Wd), rr.ok W.Hc v x → RR x v W)
    (hN : X.N[i]? = some x := by rfl) (hx : Loc X.env.scope x := by first | exact .inl rfl | exact .inr rfl) (hv : Vis X.env.scope x := by first | exact Or.inl rfl | exact Or.inr (Or.inl rfl) | exact Or.inr (Or.inr rfl)) (hd : (x == ("__debug__" : Str)) = false := by decide) (hcd : (x == ("__classdict__" : Str)) = false := by decide)
    (hsw : swapsWith e0 (some (.Name x px)) pos.line X.env = pure false := by rfl) (hfn : X.fn x = true ∨ X.env.scope.names.lookup x = some .local := by first | exact .inl rfl | exact .inr rfl)
    (hst : starEach (a1 :: es) X.env = (false, eval a1 X.env) :: starEach es X.env := by rfl) (hpl : (backTo p2 (starEach es X.env)).any (·.1) = false := by rfl)
    (ht : eval (.Call (.Attribute (.Name x p3) m apos) (a1 :: es) [] p2) X.env = (do
      let ov ← eval (.Name x p3) X.env
      standAt apos.atName
      let (f, first) ← holding [ov] (getMethod ov m pl)
      callWith p2 f first (backTo p2 (starEach (a1 :: es) X.env)) (backToKw p2 (keywordEach [] X.env))) := by rfl) (hs2 : swapsWith (.Call (.Attribute (.Name x p3) m apos) (a1 :: es) [] p2) none pos2.line X.env = pure false := by rfl) :
    XS X Γ [.Assign [.Name x px] e0 pos, .Expr (.Call (.Attribute (.Name x p3) m apos) (a1 :: es) [] p2) pos2, .Return (some (.Name x p4)) pos3] (fun κ : Kn S B R => M fun y0 => N fun y => F (zz y0 y) fun b => κ.rt (fin (zz y0 y) b)) Γn Γb RR := by
  obtain ⟨f, fd, g1, g3, g4⟩ := G
  obtain ⟨t, p, q⟩ := hm
  obtain ⟨u, pa, qa⟩ := ha
  refine ⟨_, pss_cons (ps_set hnd hN hx p hsw hfn) (pss_cons (ps_expr (pe_meth (pe_var hN hv hd hcd) c g1 g4 (hr.mono hj) g3 .nil pass0 pa hst hpl ht) hs2) (pss_one (ps_ret (pe_var hN hv hd hcd)))), fun σ W kW g κ D mm _ _ _ h4 => ?_⟩
  refine q σ W kW g _ _ mm fun y z W0 W1 m1 k0 s0 g0 nz k1 gr r1 => ?_
  obtain ⟨dx, fs, hz, hlk, hFF⟩ := hA r1
  have z0 : W0.Hc z = none := k0.none_of nz
  have zO : W0.O z = none := k0.free nz
  have hzH : W1.H z = some (.ins C dx fs) := k1.ex _ _ hz
  have exA : Ex W0.Hc (er W1.Hc z) := er_ex gr.hc z0
  have kA : Wd.Ok ⟨er W1.Hc z, W1.H, W1.O, W1.B⟩ := ⟨fun b o e => by
      have e : er W1.Hc z b = some o := e
      by_cases w : b = z
      · rw [w] at e; unfold er at e; rw [if_pos rfl] at e; cases e
      · rw [er_ne w] at e; exact k1.ex b o e, fun b n e => by
      have w : b ≠ z := fun w => by
        have e : W1.O b = some n := e
        rw [w, gr.O, zO] at e; cases e
      exact ⟨(er_ne w).trans (k1.own b n e).1, (k1.own b n e).2⟩, k1.bas⟩
  have gA : Sat (Γ.set i .unk) (σ.set i (some (.ref z))) ⟨er W1.Hc z, W1.H, W1.O, W1.B⟩ := by
    refine SatL.set (W := W0) g0 (fun l o' nl el w => ?_) trivial
    rw [Nat.zero_add] at w ⊢
    exact w.kp ⟨exA, fun b e => ⟨by show W1.O b = _; rw [gr.O]; exact e, by
      obtain ⟨o, eo⟩ := of_ne_none (k0.own b l e).2
      show W1.H b = W0.H b
      rw [gr.keep b o eo, eo]⟩, gr.B, fun b e n => by show W1.O b = none; rw [gr.O]; exact n⟩
  have hset : (σ.set i (some (V.ref z)))[i]? = some (some (.ref z)) := by
    rw [List.getElem?_set, if_pos rfl, if_pos]
    have := SatL.len g
    omega
  refine ⟨_, hset, z, dx, fs, rfl, hzH, hlk, ?_⟩
  refine qa _ ⟨er W1.Hc z, W1.H, W1.O, W1.B⟩ kA gA _ _ m1 fun y2 ws W2 m2 k2 s2 g2 r2 => ?_
  rw [List.append_nil]
  have zO1 : W1.O z = none := by rw [gr.O]; exact zO
  have hz2 : W2.H z = some (.ins C dx fs) := s2.keep z _ hzH zO1
  obtain ⟨zc2, zo2⟩ := s2.old z (ne_none_of hzH) zO1
  have zc2 : W2.Hc z = none := zc2.trans (if_pos rfl)
  have eN : nwH W2.H W2.Hc W2.H = W2.Hc := by
    funext b
    cases w : W2.H b with
    | none => rw [nw_new w, w, k2.none_of w]
    | some u => rw [nw_old (by rw [w]; simp)]
  refine ⟨z, W2.H, W2.Hc, W2.Hc, fs, ws, zz y y2, _, rfl, ⟨fun _ _ h => h, k2.ex, zc2, fun _ _ _ h => h, ⟨dx, hz2⟩, by rw [hz2]; simp⟩, by rw [eN]; exact hR _ _ _ _ r2, by rw [eN]; exact hFF y2 _ s2.hc, m2, fun b fs' H' pb k' f' oo => ?_⟩
  refine ⟨_, hset, ?_⟩
  obtain ⟨dx', hp'⟩ := k'.me
  have kp0 : ∀ b o, b ≠ z → W2.H b = some o → H' b = some o := oo
  have dm : ∀ b, W2.H b ≠ none → H' b ≠ none := fun b e => k'.dom e
  have s02 : Step W0 W2 := ⟨fun b o e n => s2.keep b o (gr.keep b o e) (by show W1.O b = none; rw [gr.O]; exact n), fun b e => s2.dom b (by obtain ⟨o, eo⟩ := of_ne_none e; show W1.H b ≠ none; rw [gr.keep b o eo]; simp), fun b o e => s2.hc b o (exA b o e), fun b e n => by
    have w : b ≠ z := fun w => e (by rw [w]; exact nz)
    obtain ⟨o, eo⟩ := of_ne_none e
    have h1 := s2.old b (by show W1.H b ≠ none; rw [gr.keep b o eo]; simp) (by show W1.O b = none; rw [gr.O]; exact n)
    exact ⟨h1.1.trans ((er_ne w).trans (gr.old b e)), h1.2⟩, s2.B.trans gr.B⟩
  have nn : ∀ b, W0.H b ≠ none → b ≠ z := fun b e w => e (by rw [w]; exact nz)
  have exF : Ex (nwH W2.H W2.Hc H') (upd (nwH W2.H W2.Hc H') z (.ins C dx' fs')) := fun b o e => by
    rw [upd_ne (fun w => by rw [w, nw_old (by rw [hz2]; simp), zc2] at e; cases e)]; exact e
  refine h4 (fin (zz y y2) b) (.ref z) ⟨upd (nwH W2.H W2.Hc H') z (.ins C dx' fs'), H', W2.O, W2.B⟩ pb ⟨fun c o e => ?_, fun c n e => ?_, k2.basTo dm (fun c o e n w => kp0 c o (fun v => ?_) w) fun _ _ n => n⟩ (s0.trans ⟨fun c o e n => ?_, fun c e => dm c (s02.dom c e), fun c o e => ?_, fun c e n => ?_, s02.B⟩) (hRR _ _ _ (hF (zz y y2) b _ fs' z dx' (hFm _ _ _ _ _ exF f') upd_same))
  · have e : upd (nwH W2.H W2.Hc H') z (.ins C dx' fs') c = some o := e
    show H' c = some o
    by_cases w : c = z
    · rw [w] at e ⊢; rw [upd_same] at e; rw [hp']; exact e
    · rw [upd_ne w] at e
      cases v : W2.H c with
      | none => rw [nw_new v] at e; exact e
      | some o2 =>
        rw [nw_old (by rw [v]; simp)] at e
        exact kp0 c o w (k2.ex c o e)
  · have n2 := (k2.own c n e).2
    have w : c ≠ z := fun w => by
      have e : W2.O c = some n := e
      rw [w, zo2] at e; cases e
    refine ⟨?_, dm c n2⟩
    show upd (nwH W2.H W2.Hc H') z (.ins C dx' fs') c = none
    rw [upd_ne w, nw_old n2]; exact (k2.own c n e).1
  · rw [v, s02.B] at e
    exact (k0.bas z e).1 nz
  · have w := nn c (ne_none_of e)
    exact kp0 c o w (s02.keep c o e n)
  · show upd (nwH W2.H W2.Hc H') z (.ins C dx' fs') c = some o
    have e2 := s02.hc c o e
    have w : c ≠ z := fun w => by rw [w, zc2] at e2; cases e2
    rw [upd_ne w, nw_old (ne_none_of (k2.ex c o e2))]; exact e2
  · have w := nn c e
    obtain ⟨a1, a2⟩ := s02.old c e n
    refine ⟨?_, a2⟩
    show upd (nwH W2.H W2.Hc H') z (.ins C dx' fs') c = W0.Hc c
    rw [upd_ne w, nw_old (s02.dom c e)]; exact a1
end
end TM
set_option Elab.async false
set_option linter.all false
set_option maxRecDepth 100000
set_option maxHeartbeats 1000000
namespace TM
open PySem PySem.Spec PyProof.Rows L2
section
variable {X : Cx} {Γ : List SP} {α : Type} {a e o : Expr} {pos p p2 q : Pos}
/-! ## len(set(xs)) of ints -/
theorem firstMet_ok (ns : List Int) : ∀ i, i ≤ ns.length → (PyProof.Rows.firstMet (fun i => ns.getD i 0) i).Nodup ∧ ∀ x, x ∈ PyProof.Rows.firstMet (fun i => ns.getD i 0) i ↔ x ∈ ns.take i
  | 0, _ => ⟨List.nodup_nil, fun x => by simp [PyProof.Rows.firstMet]⟩
  | i + 1, hi => by
    have hlt : i < ns.length := hi
    obtain ⟨h1, h2⟩ := firstMet_ok ns i (Nat.le_of_lt hlt)
    have e1 : ns.getD i 0 = ns[i] := by
      rw [List.getD_eq_getElem?_getD, List.getElem?_eq_getElem hlt] <;> rfl
    have e2 : ns.take (i + 1) = ns.take i ++ [ns[i]] := by
      rw [List.take_add_one, List.getElem?_eq_getElem hlt] <;> rfl
    rw [PyProof.Rows.firstMet_succ, e2]
    show (if (PyProof.Rows.firstMet (fun i => ns.getD i 0) i).any (· == ns.getD i 0) then PyProof.Rows.firstMet (fun i => ns.getD i 0) i else PyProof.Rows.firstMet (fun i => ns.getD i 0) i ++ [ns.getD i 0]).Nodup ∧ ∀ x, x ∈ (if (PyProof.Rows.firstMet (fun i => ns.getD i 0) i).any (· == ns.getD i 0) then PyProof.Rows.firstMet (fun i => ns.getD i 0) i else PyProof.Rows.firstMet (fun i => ns.getD i 0) i ++ [ns.getD i 0]) ↔ _
    rw [e1]
    generalize PyProof.Rows.firstMet (fun i => ns.getD i 0) i = l at h1 h2
    by_cases c : ns[i] ∈ l
    · rw [if_pos (List.any_eq_true.mpr ⟨_, c, by simp⟩)]
      refine ⟨h1, fun x => ?_⟩
      rw [h2, List.mem_append, List.mem_singleton]
      exact ⟨.inl, fun z => z.elim id fun z => by rw [z]; exact (h2 _).mp c⟩
    · rw [if_neg fun z => by
        obtain ⟨y, hy, ey⟩ := List.any_eq_true.mp z
        exact c (by rw [← eq_of_beq ey]; exact hy)]
      refine ⟨?_, fun x => ?_⟩
      · rw [List.nodup_append]
        exact ⟨h1, by simp, fun a ma b mb z => c (by rw [← List.mem_singleton.mp mb, ← z]; exact ma)⟩
      · rw [List.mem_append, List.mem_append, h2]
def tLenSetU (K : PySem.W.Frag) (ta : TE) : TE := fun σ H Q => ta σ H fun x H1 => ∃ (l : Addr) (ns : List Int), x = .ref l ∧ SqL K H1 l (ns.map V.int) ∧ ns.length ≤ 4000 ∧ ∀ us : List Int, us.Nodup → (∀ x, x ∈ us ↔ x ∈ ns) → Q (.int (us.length : Nat)) H1
theorem pe_lenSetU {ta : TE} (hg : Gl X "len") (hm : X.mg "len" = none) (hg2 : Gl X "set") (hm2 : X.mg "set" = none) (ha : PE X a ta) (hc : X.calm = true)
    (na : starEach [a] X.env = (false, eval a X.env) :: starEach [] X.env := by rfl) : PE X (.Call (.Name "len" p) [.Call (.Name "set" p2) [a] [] q] [] pos) (tLenSetU X.K ta) := by
  refine ⟨fun pins s σ H Q I h => ?_⟩
  refine Call_ (ld_blt I hg hm boot_len ?_)
  refine PyProof.Rows.callWith_builtin1 (PyProof.Rows.args_cons ?_ rfl) rfl rfl
  refine Call_ (ld_blt I hg2 hm2 boot_set ?_)
  refine PyProof.Rows.callWith_type1 (PyProof.Rows.args_cons (thn (ha.run pins s σ H _ I h) fun v s1 ⟨x, H1, I1, r1, q1⟩ => PyProof.Rows.args_nil ?_) na) na rfl
  obtain ⟨l, ns, rfl, hq, hl, q1⟩ := q1
  cases r1
  obtain ⟨its, r, pl, hz⟩ := I1.list hq
  have hlen : its.toArray.size = ns.length := by rw [List.size_toArray, ← r.length, List.length_map]
  refine call_set_list (I1.ok.hd hc) pl.isList (by simpa using RZ.intsAre_vals r) (by rw [hlen]; unfold scanBound; omega) fun h' tk hS hk => ?_
  refine PyProof.Rows.args_nil ?_
  rw [hlen] at hS
  obtain ⟨f1, f2⟩ := firstMet_ok ns ns.length (Nat.le_refl _)
  rw [List.take_length] at f2
  generalize PyProof.Rows.firstMet (fun i => ns.getD i 0) ns.length = us at hS f1 f2
  have lu : us.length ≤ ns.length := by
    clear hS
    clear hz pl r hq q1 hl I1
    have gen : ∀ (us ns : List Int), us.Nodup → (∀ x ∈ us, x ∈ ns) → us.length ≤ ns.length := by
      intro us
      induction us with
      | nil => intro ns _ _; exact Nat.zero_le _
      | cons x us ih =>
        intro ns nd h
        rw [List.nodup_cons] at nd
        have hx := h x List.mem_cons_self
        have := ih (ns.erase x) nd.2 fun y my => (List.mem_erase_of_ne (fun e => nd.1 (by rw [← e]; exact my))).mpr (h y (List.mem_cons_of_mem _ my))
        rw [List.length_erase_of_mem hx] at this
        have := List.length_pos_of_mem hx
        rw [List.length_cons]; omega
    exact gen us ns f1 fun x mx => (f2 x).mp mx
  obtain ⟨o, es, ep, t, ho, hex, hd, _, _, _, hf, hn⟩ := hS
  have I2 : Inv X pins σ H1 { s1 with heap := h', toks := tk } := I1.kept fun b o e => hk b o (Heap.lt_size e) e
  exact call_len_set ho hex hd hf (by rw [hn] <;> omega) ⟨.int us.length, H1, I2.tok _, ⟨_, by rw [hn]⟩, q1 us f1 f2⟩
theorem xp_lenSet {M : Mp (List Int)} (hcalm : X.calm = true) (hm : X.mg "len" = none) (hm2 : X.mg "set" = none) (ha : XB X Γ a M rInt) (hg : Gl X "len" := by rfl) (hg2 : Gl X "set" := by rfl) (na : starEach [a] X.env = (false, eval a X.env) :: starEach [] X.env := by rfl) :
    XP X Γ (.Call (.Name "len" p) [.Call (.Name "set" p2) [a] [] q] [] pos) (fun P => M fun xs => xs.length ≤ 4000 ∧ ∀ us : List Int, us.Nodup → (∀ x, x ∈ us ↔ x ∈ xs) → P (us.length : Int)) rInt := by
  obtain ⟨t, pp, qq⟩ := ha
  refine ⟨_, pe_lenSetU hg hm hg2 hm2 pp hcalm na, fun σ W k s Q P m h => ?_⟩
  refine qq σ W k s _ _ m fun xs v W1 ⟨m1, m2⟩ k1 s1 g1 r1 => ?_
  obtain ⟨l, vs, e, hh, pr⟩ := r1 W1 k1 (Step.refl W1) g1
  have ev : vs = xs.map V.int := fInt.vs pr
  subst e ev
  exact ⟨l, xs, rfl, sql_of hh, m1, fun us u1 u2 => h _ _ W1 (m2 us u1 u2) k1 s1 g1 rfl⟩
/-! ## l.index(x) over data -/
theorem xp_indexLD {r : RT α} [DecidableEq α] (D : DatR r) (hn : D.n ≤ 60) (hu : X.A.units + 65 < cLine) {Mo : Mp (List α)} {Me : Mp α} (ho : XB X Γ o Mo r) (he : XP X Γ e Me r)
    (hpe : ∀ t te, PE X o t → PE X e te → PE X (.Call (.Attribute o "index" p2) [e] [] pos) (tBM X.K "list" (rIndexD X.K) t (tCons te tNil))) :
    XP X Γ (.Call (.Attribute o "index" p2) [e] [] pos) (fun P => Mo fun xs => Me fun y => (D.g y ∧ ∀ z ∈ xs, D.g z) ∧ y ∈ xs ∧ P ((xs.idxOf y : Nat) : Int)) rInt := by
  obtain ⟨t, p, q⟩ := ho
  obtain ⟨u, p3, q3⟩ := he
  refine ⟨_, hpe t u p p3, fun σ W k s Q P m h => ?_⟩
  refine q σ W k s _ _ m fun xs v W1 m1 k1 s1 g1 r1 => ?_
  obtain ⟨d, vs, rfl, hd, pr⟩ := r1 W1 k1 (Step.refl W1) g1
  refine ⟨.inl ⟨rfl, vs, sql_of hd⟩, ?_⟩
  refine q3 σ W1 k1 g1 _ _ m1 fun y w W2 ⟨⟨gy, gx⟩, my, m2⟩ k2 s2 g2 r2 => ?_
  obtain ⟨d', vs', e', hd', pr'⟩ := r1 W2 k2 s2 g2
  cases e'
  have hl : xs.idxOf y < xs.length := List.idxOf_lt_length_of_mem my
  refine ⟨d, w, D.d y, xs.map D.d, xs.idxOf y, D.d y, rfl, rfl, .lst (sql_of hd') (dpAll D (pmap pr' fun _ _ => r.mono k2.ex)), D.ok X.K _ _ _ (r.mono k2.ex r2), ?_, D.shaped (by omega) gy, ?_, (D.inj y y).mpr rfl, fun m z hm hz => ?_, h _ _ W2 m2 k2 (s1.trans s2) g2 rfl⟩
  · exact (dL D).shaped (x := xs) (by show D.n + 1 ≤ 64; omega) gx
  · rw [List.getElem?_map, List.getElem?_eq_getElem hl, List.getElem_idxOf hl]; rfl
  · rw [List.getElem?_map, List.getElem?_eq_getElem (by omega)] at hz
    cases hz
    have := List.not_of_lt_findIdx (show m < xs.findIdx (· == y) from hm)
    exact Bool.eq_false_iff.mpr fun z => by
      rw [(D.inj _ _).mp z] at this
      simp at this
end
end TM
set_option Elab.async false
set_option linter.all false
set_option maxRecDepth 100000
set_option maxHeartbeats 1000000
namespace TM
open PySem PySem.Spec PyProof.Rows L2
theorem pmap_erase {α : Type} {F : V → α → Prop} : ∀ {vs : List V} {xs : List α}, Paired F vs xs → ∀ j, Paired F (vs.eraseIdx j) (xs.eraseIdx j)
  | _, _, .nil, j => by simp; exact .nil
  | _, _, .cons h t, 0 => t
  | _, _, .cons h t, j + 1 => .cons h (pmap_erase t j)
/-- xs.pop(e) -/
theorem xq_popAt {X : Cx} {Γ : List SP} {α : Type} {e : Expr} {pos : Pos} (i : Nat) {x : Str} {p1 p2 : Pos} {r : RT α} {xs : List α} {M : Mp Int} (h : look Γ i = .own r xs) (he : XP X Γ e M rInt) (hN : X.N[i]? = some x := by rfl) (hv : Vis X.env.scope x := by first | exact Or.inl rfl | exact Or.inr (Or.inl rfl) | exact Or.inr (Or.inr rfl)) (hd : (x == ("__debug__" : Str)) = false := by decide) (hcd : (x == ("__classdict__" : Str)) = false := by decide)
    (hpe : ∀ te, PE X e te → PE X (.Call (.Attribute (.Name x p1) "pop" p2) [e] [] pos) (tBM X.K "list" rPopAt (tVar i) (tCons te tNil))) :
    XQ X Γ (.Call (.Attribute (.Name x p1) "pop" p2) [e] [] pos) (fun P => M fun n => (0 ≤ n ∧ n < xs.length ∧ xs.length ≤ 1000000) ∧ ∃ y, xs[n.toNat]? = some y ∧ P y (xs.eraseIdx n.toNat)) r (fun ys => Γ.set i (.own r ys)) := by
  obtain ⟨t, p, q⟩ := he
  refine ⟨_, hpe t p, fun σ W k g Q P m hh => ?_⟩
  obtain ⟨o, eo, u, vs, rfl, n, ho, hu, pr⟩ := g.look h (by simp)
  refine ⟨.ref u, eo, .inl ⟨rfl, vs, sql_of hu⟩, ?_⟩
  refine q σ W k g _ _ m fun z v W1 ⟨⟨z0, z1, z2⟩, y, hy, m1⟩ k1 s1 g1 r1 => ?_
  obtain ⟨o', eo', u', vs', rfl, n', ho', hu', pr'⟩ := g1.look h (by simp)
  rw [eo] at eo'
  cases eo'
  have r1 : v = .int z := r1
  subst r1
  obtain ⟨w, y', hw, hy2, rw'⟩ := TM.paired_get pr' (List.getElem?_eq_some_iff.mp hy).1
  rw [hy] at hy2
  cases hy2
  refine ⟨u, vs', z, z.toNat, w, rfl, rfl, hu', by omega, by omega, ?_, hw, ?_⟩
  · unfold seqIndex?
    have := pr'.length
    have e : (if z < 0 then z + (vs'.length : Int) else z) = z := if_neg (by omega)
    simp only [e]
    rw [if_pos (by rw [Bool.and_eq_true]; exact ⟨decide_eq_true (by omega), decide_eq_true (by omega)⟩)]
  · exact hh y _ w (W1.mut u (.lst (vs'.eraseIdx z.toNat))) m1 (k1.mut ho') (s1.trans (step_mut ho')) (g1.mut ho' eo ⟨u, _, rfl, n', ho', upd_same, pmap_erase pr' _⟩) rw'
/-- [..], the part changing one's own lists, the list a clean value -/
theorem xq_lsC {X : Cx} {Γ : List SP} {β S : Type} {elt tg iter : Expr} {pos : Pos} {scope : Scope} {own : List (Str × Nat)} {g : TG} {M : (List β → S → Prop) → Prop} {r : RT β} {Γn : S → List SP} (h : XLS X Γ elt tg iter scope own g M r Γn) (hcalm : X.calm = true) (hnd : X.N.Nodup) (hok : BlkOk X.N X.env.scope scope own)
    (hg : ∀ (s : Shared) (H : Hp) (C : Addr) (cl : List (Str × Addr)) (fp : List Addr), PG (X.blk s H scope (compEnvC scope cl C X.env) fp) tg g) (hs : ∀ x, foldedSetIterable iter X.env x = pure x := by intro _; rfl) :
    XQ X Γ (.ListComp elt [⟨tg, iter, [], 0⟩] scope pos) M (rL r) Γn := by
  obtain ⟨wi, te, p, he, q⟩ := h
  refine ⟨_, pe_lc hcalm hnd p hok hg (fun s H C cl fp => pts_nil) he hs, fun σ W k gg Q P m h1 => ?_⟩
  refine q σ W k gg _ _ m fun xs s u vs W1 m1 k1 s1 g1 n nc no hh pr => ?_
  have up := up_frz (W := W1) (o := .lst vs) nc
  exact h1 xs s (.ref u) (W1.frz u (.lst vs)) m1 (k1.frz hh no) (s1.frz n nc) (g1.up up) ⟨u, vs, rfl, upd_same, pmap pr fun _ _ => r.mono up.hc⟩
/-- the place of x, over data -/
def idxD {α : Type} [DecidableEq α] (x : α) (xs : List α) : Nat := xs.idxOf x
theorem xp_indexLE {X : Cx} {Γ : List SP} {α : Type} {e o : Expr} {pos p2 : Pos} {r : RT α} [DecidableEq α] (D : DatR r) (hn : D.n ≤ 60) (hu : X.A.units + 65 < cLine) {Mo : Mp (List α)} {Me : Mp α} (ho : XB X Γ o Mo r) (he : XP X Γ e Me r)
    (hpe : ∀ t te, PE X o t → PE X e te → PE X (.Call (.Attribute o "index" p2) [e] [] pos) (tBM X.K "list" (rIndexD X.K) t (tCons te tNil))) :
    XP X Γ (.Call (.Attribute o "index" p2) [e] [] pos) (fun P => Mo fun xs => Me fun y => (D.g y ∧ ∀ z ∈ xs, D.g z) ∧ y ∈ xs ∧ P ((idxD y xs : Nat) : Int)) rInt := xp_indexLD D hn hu ho he hpe
end TM
set_option Elab.async false
set_option linter.all false
set_option maxRecDepth 100000
set_option maxHeartbeats 1000000
namespace TM
open PySem PySem.Spec PyProof.Rows L2 PySem.W PySem.SeqAt
/-! ## sorted(d), d a locked dict with keys that are data -/
mutual
theorem reads_in {h : Heap} : ∀ (d : PyData) (v : Value) (as : List Addr), alike d d = true → Reads h v d as → ∀ b ∈ as, ∃ o, h.get? b = some o
  | .none, _, _, _, r, b, m => by cases r; cases m
  | .bool _, _, _, _, r, b, m => by cases r; cases m
  | .int _, _, _, _, r, b, m => by cases r; cases m
  | .str _, _, _, _, r, b, m => by cases r; cases m
  | .list xs, _, _, hal, r, b, m => by
    cases r with
    | list h1 h2 h3 h4 =>
      rcases List.mem_cons.mp m with e | m
      · exact ⟨_, by rw [e]; exact h1⟩
      · exact readsAll_in xs _ _ (by simpa [alike] using hal) h4 b m
  | .tuple xs, _, _, hal, r, b, m => by
    cases r with
    | tuple h1 h2 h3 h4 => exact readsAll_in xs _ _ (by simpa [alike] using hal) h4 b m
  | .dict _, _, _, hal, _, _, _ => absurd hal (by simp [alike])
theorem readsAll_in {h : Heap} : ∀ (ds : List PyData) (vs : List Value) (as : List Addr), alikeAll ds ds = true → ReadsAll h vs ds as → ∀ b ∈ as, ∃ o, h.get? b = some o
  | [], _, _, _, r, b, m => by cases r; cases m
  | d :: ds, _, _, hal, r, b, m => by
    cases r with
    | cons h1 h2 =>
      rcases List.mem_append.mp m with m | m
      · exact reads_in d _ _ (alike_all_cons hal).1 h1 b m
      · exact readsAll_in ds _ _ (alike_all_cons hal).2 h2 b m
end
section
variable {α β κ : Type}
def rSortN (P : Program) (w : World) (K : PySem.W.Frag) (dd : α → PyData) : List V → Hp → VK → Prop := fun vs H Q => ∃ (a : Addr) (ks : List NE) (ps : List (V × α)), vs = [V.ref a] ∧ Rd H a (nD P w a ks) ∧ ps.map (·.1) = ks.map (fun q => V.ref q.2.1) ∧ (∀ p ∈ ps, Dp K H p.1 (dd p.2)) ∧ (∀ x y, alike (dd x) (dd y) = true) ∧ Sortable (ps.map fun p => dd p.2) ∧ (∀ x, (dd x).depth ≤ 60) ∧
  ∀ p, H p = none → Q (.ref p) (upd H p (.lst ((ps.mergeSort (dataLe false fun q : V × α => dd q.2)).map (·.1))))
theorem cr_sortN {X : Cx} {dd : α → PyData} (hu : X.A.units + 64 < cLine) (hcalm : X.calm = true) : CallR X (.builtin "sorted") (rSortN X.prog X.w X.K dd) := by
  intro pins s σ H xs us Q I r ⟨a, ks, ps, e, hd, eks, hdp, hal, hk, hdd, q⟩
  subst e
  obtain ⟨u, rfl, rx⟩ := vals1 r
  obtain rfl : u = Value.ref a := rx
  have rr := nd_rd I.hok hd
  obtain ⟨o, es, ep, h1, h2, h3, h4, h5⟩ := raw_ent rr
  have hz := rr.1
  refine Calls.call_function_entry PyProof.Rows.kind_sorted PyProof.Rows.plain_sorted PyProof.Rows.entry_sorted (PyProof.Rows.args_sorted1 _) ?_
  unfold Builtin.«sorted»
  refine wpAny_bind (m := checkCount "sorted" 1 1 _) (wpAny_pure ?_)
  refine wpAny_bind (PySem.W.kdu_collect (A := X.A.in1) (KdlSrc.rawDict (es := es) (ep := ep) rr.2.1) (I.ok.hd hcalm) ⟨o, h1, h2, h3⟩ (by rw [h4]; exact hz) fun h' tk acc hkp hacc => ?_)
  have hl : acc.toList.length = ks.length := by rw [Array.length_toList, hacc.1, h4]
  have hv : Vals (ks.map fun q => V.ref q.2.1) acc.toList := by
    have at_ : ∀ (i : Nat) (q : NE), ks[i]? = some q → acc.toList[i]? = some (Value.ref q.2.1) := fun i q e => by
      have hi := (List.getElem?_eq_some_iff.mp e).1
      have hi2 : i < acc.toList.length := by omega
      obtain ⟨hj, e2⟩ := hacc.2 i _ (by rw [← Array.getElem?_toList]; exact List.getElem?_eq_getElem hi2)
      obtain ⟨en, e3, e4⟩ := h5 i q e
      rw [Array.getElem?_eq_getElem hj] at e3
      cases e3
      rw [List.getElem?_eq_getElem hi2, e2, e4]
    exact vals_ent _ _ hl at_
  rw [← eks] at hv
  have ev := vals_each hv
  have er : ∀ {ps : List (V × α)} {its : List Value}, (∀ p ∈ ps, Dp X.K H p.1 (dd p.2)) → EachIs (fun (u : Value) (p : V × α) => RelV p.1 u) its ps → EachIs (fun v (b : V × α) => ∃ as, Reads s.heap v (dd b.2) as) its ps := by
    intro ps its hd e
    induction e with
    | nil => exact .nil
    | @cons u p us ps h1 _ ih => exact .cons (Dp.reads I _ _ _ (hd p List.mem_cons_self) h1) (ih fun z m => hd z (List.mem_cons_of_mem _ m))
  have er0 := er hdp ev
  have I1 : Inv X pins σ H { s with heap := h', toks := tk } := I.kept hkp
  have lps : ps.length = ks.length := by
    have := congrArg List.length eks
    rwa [List.length_map, List.length_map] at this
  refine wpAny_bind (wpAny_newList ?_ (by rw [hl]; exact hz))
  have hoL : (h'.push (seqObj "list" acc.toList.toArray 0)).get? h'.objs.size = some (seqObj "list" acc.toList.toArray 0) := Heap.get?_push_size _ rfl
  show wpAny _ _ _ _ _ { s with heap := h'.push (seqObj "list" acc.toList.toArray 0), toks := tk }
  have er1 : EachIs (fun v (b : V × α) => ∃ as, Reads (h'.push (seqObj "list" acc.toList.toArray 0)) v (dd b.2) as ∧ h'.objs.size ∉ as) acc.toList ps := er0.mono fun v b ⟨as, rd⟩ => by
    refine ⟨as, PyProof.Rows.Reads.keeps (fun b o e => Heap.get?_push_of_some _ (hkp b o e)) rd, fun mm => ?_⟩
    obtain ⟨ob, eo⟩ := reads_in _ _ _ (hal _ _) rd _ mm
    exact absurd (Heap.lt_size (hkp _ _ eo)) (Nat.lt_irrefl _)
  refine wpAny_bind (wpAny_holding (list_sort_data (s := { s with heap := h'.push (seqObj "list" acc.toList.toArray 0), toks := tk }) (R := fun (u : Value) (p : V × α) => RelV p.1 u) (enc := fun p : V × α => dd p.2) (bs := ps) hoL ev er1 (AllAlike.of fun b b' => hal _ _) hk (by rw [lps]; exact hz) (fun b _ => by
    have := hdd b.2
    show X.A.units + 1 + 1 + _ < _
    omega) fun out ho eo => ?_))
  obtain ⟨e', he'⟩ := PyProof.Rows.sortedHeap_at (vs := acc.toList) (out := out.toArray) hoL
  have hlen : ((ps.mergeSort (dataLe false fun q : V × α => dd q.2)).map (·.1)).length ≤ sizeLine := by rw [List.length_map, List.length_mergeSort, lps]; exact hz
  refine wpAny_pure ⟨_, rfl, .ref h'.objs.size, upd H h'.objs.size (.lst ((ps.mergeSort (dataLe false fun q : V × α => dd q.2)).map (·.1))), I1.laid (t' := tk) (fun b u e => ?_) (Nat.le_refl _)
    (show ObjOk X.prog X.w _ _ _ (.lst _) from ⟨hlen, out, e', each_vals eo, he'⟩), rfl, q _ (I1.hok.fresh (Nat.le_refl _))⟩
  have hb : b < h'.objs.size := Heap.lt_size e
  rw [PyProof.Rows.sortedHeap_old (Nat.ne_of_lt hb) (by rw [PyProof.Rows.size_push']; exact Nat.lt_succ_of_lt hb)]
  exact Heap.get?_push_of_some _ e
variable {X : Cx} {Γ Δ : List SP} {e : Expr} {pos : Pos} [DecidableEq κ]
theorem xn_sortN {p : Pos} {M : Mp (List (κ × β))} {r : RT β} {k : KN κ} {D : DatR k.r} (O : OrdR D) (hn : D.n ≤ 60) (hu : X.A.units + 64 < cLine) (hcalm : X.calm = true) (hm : X.mg "sorted" = none) (ha : XP X Γ e M (rDF (dkN X.prog X.w k) r)) (hg : Gl X "sorted" := by rfl) (h1 : starEach [e] X.env = (false, eval e X.env) :: starEach [] X.env := by rfl) :
    XN X Γ (.Call (.Name "sorted" p) [e] [] pos) (fun P => M fun d => Sortable (d.map fun z => D.d z.1) ∧ ∀ ys : List κ, ys.Perm (d.map (·.1)) → ys.Pairwise (fun x y => O.lt y x = false) → P ys) k.r := by
  obtain ⟨t, pp, q⟩ := ha
  refine ⟨_, pe_callB (cr_sortN (dd := D.d) hu hcalm) hg hm (by with_unfolding_all rfl) (pa_cons pp pa_nil h1) (by decide) (by decide) h1, fun σ W kk s Q P m h => ?_⟩
  refine q σ W kk s _ _ m fun d v W1 ⟨m1, m2⟩ k1 s1 g1 ⟨a, od, ob, kvs, e1, h2, h3, h4⟩ => ?_
  obtain ⟨ks, eo, pr0⟩ := h3
  subst e1 eo
  have pr := nrel_pair pr0
  rw [drel_keys h4] at pr
  obtain ⟨ps, e1, e2, e3⟩ := zip_pair pr
  refine ⟨a, ks, ps, rfl, .inr ⟨od, k1.ex _ _ h2⟩, e1, fun p mp => D.ok X.K _ _ _ (k.r.mono k1.ex (e3 p mp)), O.al, ?_, fun x => Nat.le_trans (D.dep x) hn, fun l nl => ?_⟩
  · have : (ps.map fun p => D.d p.2) = d.map fun z => D.d z.1 := by
      have := congrArg (List.map D.d) e2
      rwa [List.map_map, List.map_map] at this
    rw [this]; exact m1
  have g := grow_lay (W := W1) (o := .lst ((ps.mergeSort (dataLe false fun q : V × κ => D.d q.2)).map (·.1))) nl
  have prm : ((ps.mergeSort (dataLe false fun q : V × κ => D.d q.2)).map fun p : V × κ => p.2).Perm (d.map (·.1)) := by
    rw [← e2]
    exact (List.mergeSort_perm _ _).map _
  have prd : Paired (k.r.ok W1.Hc) ((ps.mergeSort (dataLe false fun q : V × κ => D.d q.2)).map fun p : V × κ => p.1) ((ps.mergeSort (dataLe false fun q : V × κ => D.d q.2)).map fun p : V × κ => p.2) := pair_zip fun p mp => e3 p (List.mem_mergeSort.mp mp)
  exact h _ l _ (W1.lay l _) (m2 _ prm (merge_srt O ps)) (k1.lay nl) (s1.trans g.step) (g1.up (g.up k1)) (fresh_of s1 nl) (k1.none_of nl) (k1.free nl) upd_same prd
end
end TM
set_option Elab.async false
set_option linter.all false
set_option maxRecDepth 100000
set_option maxHeartbeats 1000000
namespace TM
open PySem PySem.Spec PyProof.Rows L2
/-! ## one's own list of one's own lists of clean things -/
section
variable {α β S : Type}
/-- a row of the nest in slot i -/
def NRow (r : RT α) (i : Nat) (W : Wd) (v : V) (xs : List α) : Prop := ∃ b ws, v = .ref b ∧ W.O b = some i ∧ W.H b = some (.lst ws) ∧ Paired (r.ok W.Hc) ws xs
theorem NRow.kp {r : RT α} {i : Nat} {W W' : Wd} {v : V} {xs : List α} (h : NRow r i W v xs) (g : Kp i W W') : NRow r i W' v xs := by
  obtain ⟨b, ws, e, o, hh, pr⟩ := h
  exact ⟨b, ws, e, (g.own b o).1, (g.own b o).2.trans hh, pmap pr fun _ _ => r.mono g.hc⟩
def gNest (r : RT α) (xss : List (List α)) : GS where
  ok := fun i o W => ∃ a vs, o = some (.ref a) ∧ W.O a = some i ∧ W.H a = some (.lst vs) ∧ V.ref a ∉ vs ∧ Paired (NRow r i W) vs xss
  st := fun ⟨a, vs, e, o, hh, na, pr⟩ g => ⟨a, vs, e, (g.own a o).1, (g.own a o).2.trans hh, na, pmap pr fun _ _ h => h.kp g⟩
variable {X : Cx} {Γ Δ : List SP} {e a b c : Expr} {es : List Expr} {pos : Pos} {B R : Type}
variable {Γb : B → List SP} {RR : R → V → Wd → Prop} {x t : Str}
/-- new addresses become slot i's -/
theorem own_all {σ : St} {W W1 : Wd} {i : Nat} (A : Addr → Prop) (k : W.Ok) (k1 : W1.Ok) (s1 : Step W W1) (g1 : Sat Γ σ W1) (hA : ∀ b, A b → W.H b = none ∧ W1.Hc b = none ∧ W1.O b = none ∧ W1.H b ≠ none) :
    ∃ W2, W2.H = W1.H ∧ W2.Hc = W1.Hc ∧ (∀ b, A b → W2.O b = some i) ∧ W2.Ok ∧ Step W W2 ∧ ∀ p v, SPok p i (some v) W2 → Sat (Γ.set i p) (σ.set i (some v)) W2 := by
  classical
  let O' : Addr → Option Nat := fun b => if A b then some i else W1.O b
  have oA : ∀ b, A b → O' b = some i := fun b h => if_pos h
  have oN : ∀ b, ¬ A b → O' b = W1.O b := fun b h => if_neg h
  have h0 : ∀ b, A b → W1.B b = none := fun b h => base_free k s1 (hA b h).1
  refine ⟨⟨W1.Hc, W1.H, O', W1.B⟩, rfl, rfl, oA, ⟨k1.ex, fun b j q => ?_, k1.basTo (fun _ q => q) (fun _ _ _ _ q => q) fun b e q => ?_⟩, ⟨fun b o a c => s1.keep b o a c, s1.dom, s1.hc, fun b a c => ⟨(s1.old b a c).1, ?_⟩, s1.B⟩, fun p v hp => SatL.set g1 (fun k o' nk e z => ?_) (by rw [Nat.zero_add]; exact hp)⟩
  · by_cases z : A b
    · exact ⟨(hA b z).2.1, (hA b z).2.2.2⟩
    · have q : O' b = some j := q
      rw [oN b z] at q; exact k1.own b j q
  · by_cases z : A b
    · exact absurd (h0 b z) e
    · exact (oN b z).symm.trans q
  · show O' b = none
    rw [oN b fun z => a (hA b z).1]; exact (s1.old b a c).2
  · refine z.up ⟨fun _ _ e => e, fun b j q => ⟨?_, rfl⟩, rfl, fun b e q => ?_⟩
    · show O' b = some j
      rw [oN b fun z => by rw [(hA b z).2.2.1] at q; cases q]; exact q
    · show O' b = none
      rw [oN b fun z => e (h0 b z)]; exact q
/-- x = [a, b, c], of three new lists -/
theorem xt_nest3 (i : Nat) {p' : Pos} {r : RT α} {Ma Mb Mc : Mp (List α)} (ha : XN X Γ a Ma r) (hb : XN X Γ b Mb r) (hc : XN X Γ c Mc r) (hnd : X.N.Nodup) (hN : X.N[i]? = some x := by rfl) (hx : Loc X.env.scope x := by first | exact .inl rfl | exact .inr rfl) (hs : swapsWith (.List [a, b, c] pos) (some (.Name x p')) pos.line X.env = pure false := by rfl) (hf : X.fn x = true ∨ X.env.scope.names.lookup x = some .local := by first | exact .inl rfl | exact .inr rfl)
    (h1 : starEach [a, b, c] X.env = (false, eval a X.env) :: starEach [b, c] X.env := by rfl) (h2 : starEach [b, c] X.env = (false, eval b X.env) :: starEach [c] X.env := by rfl) (h3 : starEach [c] X.env = (false, eval c X.env) :: starEach [] X.env := by rfl) {ps : Pos} (hs2 : swapsWith (.List [a, b, c] pos) (some (.Name x p')) ps.line X.env = pure false := by rfl) :
    XSt X Γ (.Assign [.Name x p'] (.List [a, b, c] pos) ps) (fun κ : Kn (List (List α)) B R => Ma fun u => Mb fun v => Mc fun w => κ.nx [u, v, w]) (fun xss => Γ.set i (.gen (gNest r xss))) Γb RR := by
  obtain ⟨t1, p1, q1⟩ := ha
  obtain ⟨t2, p2, q2⟩ := hb
  obtain ⟨t3, p3, q3⟩ := hc
  refine ⟨_, ps_set hnd hN hx (pe_lst (pa_cons p1 (pa_cons p2 (pa_cons p3 pa_nil h3) h2) h1)) hs2 hf, fun σ W k g κ D m hh _ _ _ => ?_⟩
  refine q1 σ W k g _ _ m fun u v vs W1 m1 k1 s1 g1 n1 nc1 no1 hv pr1 => ?_
  refine q2 σ W1 k1 g1 _ _ m1 fun u2 w ws W2 m2 k2 s2 g2 n2 nc2 no2 hw pr2 => ?_
  refine q3 σ W2 k2 g2 _ _ m2 fun u3 z zs W3 m3 k3 s3 g3 n3 nc3 no3 hz pr3 => ?_
  refine ⟨by show 3 ≤ sizeLine; decide, fun p np => ?_⟩
  have hv2 := s2.keep v _ hv no1
  obtain ⟨oc, oo⟩ := s2.old v (ne_none_of hv) no1
  have hv3 := s3.keep v _ hv2 oo
  obtain ⟨oc3, oo3⟩ := s3.old v (ne_none_of hv2) oo
  have hw3 := s3.keep w _ hw no2
  obtain ⟨ow, ow3⟩ := s3.old w (ne_none_of hw) no2
  have s03 := (s1.trans s2).trans s3
  have k4 := k3.lay (o := .lst [V.ref v, V.ref w, V.ref z]) np
  have gr := grow_lay (W := W3) (o := .lst [V.ref v, V.ref w, V.ref z]) np
  have g4 := g3.up (gr.up k3)
  have ne : ∀ {b : Addr} {o : HO}, W3.H b = some o → (W3.lay p (.lst [V.ref v, V.ref w, V.ref z])).H b = some o := fun {b o} e => gr.keep b o e
  have np1 : W3.O p = none := k3.free np
  obtain ⟨W5, e5, c5, o5, k5, s5, sat⟩ := own_all (i := i) (fun b => b = v ∨ b = w ∨ b = z ∨ b = p) k k4 (s03.trans gr.step) g4 (fun b hb => by
    rcases hb with e | e | e | e
    · subst e; exact ⟨n1, (oc3.trans oc).trans nc1, oo3, ne_none_of (ne hv3)⟩
    · subst e; exact ⟨fresh_of s1 n2, ow.trans nc2, ow3, ne_none_of (ne hw3)⟩
    · subst e; exact ⟨fresh_of (s1.trans s2) n3, nc3, no3, ne_none_of (ne hz)⟩
    · subst e; exact ⟨fresh_of s03 np, k3.none_of np, np1, by show upd W3.H b _ b ≠ none; rw [upd_same]; simp⟩)
  have nin : V.ref p ∉ [V.ref v, V.ref w, V.ref z] := fun m => by
    have m : V.ref p = V.ref v ∨ V.ref p = V.ref w ∨ V.ref p = V.ref z := by simpa using m
    rcases m with e | e | e <;> cases e
    · rw [hv3] at np; cases np
    · rw [hw3] at np; cases np
    · rw [hz] at np; cases np
  have q := sat (.gen (gNest r [u, u2, u3])) (.ref p) ⟨p, [V.ref v, V.ref w, V.ref z], rfl, o5 p (.inr (.inr (.inr rfl))), by rw [e5]; exact upd_same, nin, .cons ⟨v, vs, rfl, o5 v (.inl rfl), by rw [e5]; exact ne hv3, by
      rw [c5]; exact pmap pr1 fun _ _ => r.mono (fun b o e => s3.hc b o (s2.hc b o e))⟩ (.cons ⟨w, ws, rfl, o5 w (.inr (.inl rfl)), by rw [e5]; exact ne hw3, by rw [c5]; exact pmap pr2 fun _ _ => r.mono s3.hc⟩ (.cons ⟨z, zs, rfl, o5 z (.inr (.inr (.inl rfl))), by rw [e5]; exact ne hz, by rw [c5]; exact pr3⟩ .nil))⟩
  have := hh [u, u2, u3] _ W5 m3 k5 s5 q
  rw [e5] at this
  exact this
/-- a test over the nest, read as if it were clean -/
theorem xt_bigN (i : Nat) {M : Mp Bool} {r : RT α} {xss : List (List α)} (hi : look Γ i = .gen (gNest r xss)) (h : XT X ((bigL Γ).set i (.cl (rL (rL r)) xss)) e M) : XT X Γ e M := by
  obtain ⟨t, p, q⟩ := h
  refine ⟨t, p, fun σ W k g Q P m hh => ?_⟩
  obtain ⟨o, eo, a, vs, rfl, oa, ha, na, pr⟩ := g.look hi (by simp)
  have g2 : Sat ((bigL Γ).set i (.cl (rL (rL r)) xss)) σ (bigW W.H) := by
    have q := Sat.put (Γ := bigL Γ) (sat_big k g) (i := i) (p := .cl (rL (rL r)) xss) (o := some (.ref a)) ⟨_, rfl, a, vs, rfl, ha, pmap pr fun v xs ⟨b, ws, e, _, hh, pr⟩ => ⟨b, ws, e, hh, pmap pr fun _ _ => r.mono k.ex⟩⟩
    rwa [set_same eo] at q
  refine q σ _ (bigW_ok W.H) g2 _ _ m fun x W' m' k' s' g' => ?_
  obtain ⟨k2, gr⟩ := back_big k (KI.keepAll (W := bigW W.H) s' fun _ => rfl)
  exact hh x ⟨W.Hc, W'.H, W.O, W.B⟩ m' k2 gr.step (g.up (gr.up k))
/-- for t in x: t.append(e), of a nest nobody asks for any more -/
theorem xt_forN (i j : Nat) {px p3 p4 p6 p7 q1 q2 : Pos} {y0 : β} {r : RT α} {rb : RT β} {xss : List (List α)} (n0 : Nat) (h : look Γ i = .gen (gNest r xss)) (hij : i ≠ j) (hl : j < Γ.length) (he : XP X (bigL ((Γ.set j .unk).set i .unk)) e (fun P => P y0) rb) (hcalm : X.calm = true) (hnd : X.N.Nodup) (hN : X.N[i]? = some x := by rfl) (hNt : X.N[j]? = some t := by rfl) (hv : Vis X.env.scope x := by first | exact Or.inl rfl | exact Or.inr (Or.inl rfl) | exact Or.inr (Or.inr rfl)) (hxt : Loc X.env.scope t := by first | exact .inl rfl | exact .inr rfl) (hft : X.fn t = true ∨ X.env.scope.names.lookup t = some .local := by first | exact .inl rfl | exact .inr rfl)
    (hd : (x == ("__debug__" : Str)) = false := by decide) (hcd : (x == ("__classdict__" : Str)) = false := by decide)
    (hp : PassesOwn (model X.prog X.w) X.A X.env X.xe)
    (hb1 : ∀ te, PE X e te → PS X (.Expr (.Call (.Attribute (.Name t p3) "append" p4) [e] [] p6) p7) (tDrop (tBM X.K "list" rAppend (tVar j) (tCons te tNil))))
    (hs : ∀ y, foldedSetIterable (.Name x px) X.env y = pure y := by intro _; rfl) :
    XSt X Γ (.For (.Name t q1) (.Name x px) [.Expr (.Call (.Attribute (.Name t p3) "append" p4) [e] [] p6) p7] [] q2)
      (fun κ : Kn Unit B R => ((∀ xs ∈ xss, xs.length ≤ n0) ∧ n0 + xss.length < sizeLine) ∧ κ.nx ()) (fun _ => (Γ.set j .unk).set i .unk) Γb RR := by
  obtain ⟨te, pe, qe⟩ := he
  refine ⟨_, ps_for hp hcalm (pi_list (pe_var hN hv hd hcd)) (pg_name hnd hNt hxt hft) (pss_one (hb1 te pe)) hs, fun σ W k gg κ D ⟨⟨mb, mz⟩, m⟩ h1 _ _ _ => ?_⟩
  obtain ⟨o, eo, a, vs, rfl, oa, hra, na, pr⟩ := gg.look h (by simp)
  refine ⟨.ref a, eo, a, rfl, ⟨vs, sql_of hra⟩, ?_⟩
  have g0 : Sat ((Γ.set j .unk).set i .unk) σ W := sat_unk (sat_unk gg j) i
  have inner : ∀ v ∈ vs, ∃ (b : Addr) (zs : List V), v = V.ref b ∧ W.O b = some i ∧ W.H b = some (.lst zs) ∧ zs.length ≤ n0 := by
    have gen : ∀ {vs : List V} {xss : List (List α)}, Paired (NRow r i W) vs xss → (∀ xs ∈ xss, xs.length ≤ n0) → ∀ v ∈ vs, ∃ (b : Addr) (zs : List V), v = V.ref b ∧ W.O b = some i ∧ W.H b = some (.lst zs) ∧ zs.length ≤ n0 := by
      intro vs xss p
      induction p with
      | nil => intro _ v m; cases m
      | cons hh tt ih =>
        intro mb v m
        rcases List.mem_cons.mp m with rfl | m
        · obtain ⟨b, ws, e, o, q, p2⟩ := hh
          exact ⟨b, ws, e, o, q, by rw [p2.length]; exact mb _ List.mem_cons_self⟩
        · exact ih (fun xs m => mb xs (List.mem_cons_of_mem _ m)) v m
    exact gen pr mb
  have hlen : vs.length = xss.length := pr.length
  show ∃ Iv : Nat → Nat → St → Hp → Prop, _
  refine ⟨fun n m σ' H' => m = vs.length - n ∧ n ≤ vs.length ∧ ∃ W', W'.H = H' ∧ W'.Ok ∧ Step W W' ∧ Sat ((Γ.set j .unk).set i .unk) σ' W' ∧ σ'[i]? = some (some (.ref a)) ∧ σ'.length = σ.length ∧ W'.O a = some i ∧ W'.H a = some (.lst vs) ∧ (∀ v ∈ vs, ∃ (b : Addr) (zs : List V), v = V.ref b ∧ W'.O b = some i ∧ W'.H b = some (.lst zs) ∧ zs.length ≤ n0 + n), ⟨vs.length, by simp, Nat.zero_le _, W, rfl, k, Step.refl W, g0, eo, rfl, oa, hra, inner⟩, ?_⟩
  rintro n n' σ' H' ⟨rfl, hn, W', rfl, k', s', g', eo', el', o', hh', inn⟩
  by_cases hlt : n < vs.length
  · refine .inr ⟨⟨vs, vs[n], sql_of hh', List.getElem?_eq_getElem hlt⟩, fun σ2 H2 => n + 1 ≤ vs.length ∧ ∃ W', W'.H = H2 ∧ W'.Ok ∧ Step W W' ∧ Sat ((Γ.set j .unk).set i .unk) σ2 W' ∧ σ2[i]? = some (some (.ref a)) ∧ σ2.length = σ.length ∧ W'.O a = some i ∧ W'.H a = some (.lst vs) ∧ (∀ v ∈ vs, ∃ (b : Addr) (zs : List V), v = V.ref b ∧ W'.O b = some i ∧ W'.H b = some (.lst zs) ∧ zs.length ≤ n0 + (n + 1)), fun σ2 H2 q => ⟨vs.length - (n + 1), by omega, rfl, q.1, q.2⟩, fun v H2 y => ?_⟩
    obtain ⟨rfl, y⟩ := y
    have ev : vs[n]? = some v := y vs (sql_of hh')
    have mem : v ∈ vs := List.mem_of_getElem? ev
    obtain ⟨b, zs, rfl, ob, hb, lb⟩ := inn v mem
    have hjl : j < σ'.length := by rw [el', SatL.len gg]; exact hl
    have hσ : (σ'.set j (some (V.ref b)))[j]? = some (some (V.ref b)) := by rw [List.getElem?_set_self hjl]
    have nab : a ≠ b := fun z => na (by rw [z]; exact mem)
    have g1 : Sat ((Γ.set j .unk).set i .unk) (σ'.set j (some (V.ref b))) W' := by
      have q := g'.put (i := j) (p := .unk) (o := some (V.ref b)) trivial
      rwa [List.set_comm _ _ hij, List.set_set] at q
    refine ⟨.ref b, hσ, .inl ⟨rfl, _, sql_of hb⟩, ?_⟩
    refine qe (σ'.set j (some (V.ref b))) _ (bigW_ok W'.H) (sat_big k' g1) _ (fun _ => True) trivial fun z u W1 _ k1 s1 g2 _ => ?_
    have e1 : Ex W'.H W1.H := KI.keepAll (W := bigW W'.H) s1 fun _ => rfl
    obtain ⟨kk, gr⟩ := back_big k' e1
    have hb1 := e1 b _ hb
    refine ⟨b, zs, u, rfl, rfl, hb1, by omega, ?_⟩
    have k3 : ((⟨W'.Hc, W1.H, W'.O, W'.B⟩ : Wd).mut b (.lst (zs ++ [u]))).Ok := kk.mut (i := i) ob
    have s3 : Step W' ((⟨W'.Hc, W1.H, W'.O, W'.B⟩ : Wd).mut b (.lst (zs ++ [u]))) := gr.step.trans (step_mut (i := i) ob)
    have eo1 : (σ'.set j (some (V.ref b)))[i]? = some (some (.ref a)) := by
      rw [List.getElem?_set_ne (fun z => hij z.symm)]; exact eo'
    have g3 : Sat ((Γ.set j .unk).set i .unk) (σ'.set j (some (V.ref b))) ((⟨W'.Hc, W1.H, W'.O, W'.B⟩ : Wd).mut b (.lst (zs ++ [u]))) := by
      have q := Sat.mut (p := .unk) (u := .lst (zs ++ [u])) (g1.up (gr.up k')) (show (⟨W'.Hc, W1.H, W'.O, W'.B⟩ : Wd).O b = some i from ob) eo1 trivial
      rwa [List.set_set] at q
    refine ⟨hlt, _, rfl, k3, s'.trans s3, g3, eo1, by rw [List.length_set]; exact el', o', ?_, fun v0 m0 => ?_⟩
    · show upd W1.H b _ a = _
      rw [upd_ne nab]; exact e1 a _ hh'
    · obtain ⟨b0, z0, e0, ob0, hb0, l0⟩ := inn v0 m0
      by_cases w : b0 = b
      · subst w
        refine ⟨b0, zs ++ [u], e0, ob0, ?_, ?_⟩
        · show upd W1.H b0 _ b0 = _
          rw [upd_same]
        · simp; omega
      · exact ⟨b0, z0, e0, ob0, by
          show upd W1.H b _ b0 = _
          rw [upd_ne w]; exact e1 b0 _ hb0, by omega⟩
  · have e : n = vs.length := by omega
    subst e
    exact .inl ⟨⟨vs, sql_of hh', Nat.le_refl _⟩, h1 () σ' W' m k' s' g'⟩
/-- f(a, b), b changes one's own lists -/
theorem xq_blt2 {δ : Type} {id : String} {f : Str} {p : Pos} {rd : List V → Hp → VK → Prop} {Ma : Mp α} {Mb : (β → S → Prop) → Prop} {ra : RT α} {rb : RT β} {rc : RT δ} {G : α × β × Unit → Mp δ} {Γn : S → List SP} (hc : CallR X (.builtin id) rd) (hs : CallS rd (rac ra (rac rb ra0)) rc G) (hv : bootBuiltins f = some (.builtin id)) (hm : X.mg f = none) (ha : XP X Γ a Ma ra) (hb : XQ X Γ b Mb rb Γn)
    (hg : Gl X f := by rfl) (hn : f ≠ "__name__" := by decide) (hdb : (f == ("__debug__" : Str)) = false := by decide)
    (h1 : starEach [a, b] X.env = (false, eval a X.env) :: starEach [b] X.env := by rfl) (h2 : starEach [b] X.env = (false, eval b X.env) :: starEach [] X.env := by rfl) (hpl : (backTo pos (starEach [b] X.env)).any (·.1) = false := by rfl) :
    XQ X Γ (.Call (.Name f p) [a, b] [] pos) (fun P => Ma fun x => Mb fun y s => G (x, y, ()) fun z => P z s) rc Γn := by
  obtain ⟨t1, p1, q1⟩ := ha
  obtain ⟨t2, p2, q2⟩ := hb
  refine ⟨_, pe_callB hc hg hm hv (pa_cons p1 (pa_cons p2 pa_nil h2) h1) hn hdb h1 hpl, fun σ W k g Q P m h => ?_⟩
  refine q1 σ W k g _ _ m fun x v W1 m1 k1 s1 g1 r1 => ?_
  refine q2 σ W1 k1 g1 _ _ m1 fun y s u W2 m2 k2 s2 g2 r2 => ?_
  exact hs W2 k2 [v, u] (x, y, ()) ⟨v, [u], rfl, ra.mono s2.hc r1, u, [], rfl, r2, rfl⟩ Q _ m2 fun z w W3 m3 k3 s3 r3 => h z s w W3 m3 k3 ((s1.trans s2).trans s3.step) (g2.up (s3.up k2)) r3
end
end TM
set_option Elab.async false
set_option linter.all false
set_option maxRecDepth 100000
set_option maxHeartbeats 1000000
namespace TM
open PySem PySem.Spec PyProof.Rows L2 PySem.W PySem.SeqAt
/-! ## sorted(..) of tuples of which the first is the empty one -/
section
variable {prog : Program} {w : World} {A : Around} {s : Shared}
/-- the call of tuple's own __lt__, as sorting makes it -/
theorem call_tuple_lt {E : Value → Shared → Prop} {Q : Value → Shared → Prop} {l b : Addr} {items items2 : Array Value} {e r : Nat → Bool} (hl : s.heap.IsTuple l items) (hb : s.heap.IsTuple b items2)
    (he : ∀ j (h1 : j < items.size) (h2 : j < items2.size), EqAt A.in1 s items[j] items2[j] (e j)) (hr : ∀ j (h1 : j < items.size) (h2 : j < items2.size), e j = false → RcLt A.in1 s items[j] items2[j] (r j))
    (h : Q (.bool (firstLt e r (decide (items.size < items2.size)) (List.range (min items.size items2.size)))) s) : wpAny (model prog w) A (call (.builtin "tuple.__lt__") [.ref l, .ref b]) Q E s := by
  obtain ⟨⟨cls, dd, data, sl⟩, ho, hc, n, hd⟩ := id hl
  obtain ⟨⟨cls2, dd2, data2, sl2⟩, ho2, hc2, n2, hd2⟩ := id hb
  simp only at hc hd hc2 hd2
  subst hc hd hc2 hd2
  exact call_meets PySem.F.slot_tuple_lt ⟨_, ho, rfl⟩ PySem.F.entry_tuple_lt (PySem.F.args_tuple_lt_2 _ _) (tuple_ltAt l b items items2 n n2 dd dd2 sl sl2 e r) ⟨ho, ho2, he, hr, h⟩
/-- one tuple against another -/
theorem oneLt_tup {E : Value → Shared → Prop} {xs ys : List PyData} {a b : Value} {as bs : List Addr} {Q : Bool → Shared → Prop} (ra : Reads s.heap a (.tuple xs) as) (rb : Reads s.heap b (.tuple ys) bs) (h : alike (.tuple xs) (.tuple ys) = true)
    (hu : A.units + min (PyData.tuple xs).depth (PyData.tuple ys).depth < cLine) (hq : Q (dataLt (.tuple xs) (.tuple ys)) s) : wpAny (model prog w) A (oneLt' true a b) Q E s := by
  have hal : alikeAll xs ys = true := by simpa [alike] using h
  cases ra with
  | @tuple l o vs n _ as₁ h1 h2 h3 h4 =>
    cases rb with
    | @tuple l' o' vs' n' _ bs₁ k1 k2 k3 k4 =>
      have n1 : vs.size = xs.length := by simpa using ReadsAll.length _ _ _ h4
      have n2 : vs'.size = ys.length := by simpa using ReadsAll.length _ _ _ k4
      rw [dataLt_tuple, ← firstLt_toks xs ys hal, ← n1, ← n2] at hq
      rw [oneLt'_eq]
      simp only [if_true]
      refine wpAny_bind (wpAny_cRoomFor (room_here hu) ?_)
      refine wpAny_bind (wpAny_callSpecialIfBound?_slot (T := "tuple") ⟨_, h1, h2⟩ PySem.F.slot_tuple_lt (call_tuple_lt (e := pairEq xs ys) (r := fun j => dataLt (xs.getD j .none) (ys.getD j .none)) ⟨_, h1, h2, _, h3⟩ ⟨_, k1, k2, _, k3⟩ (fun j j1 j2 => ?_) (fun j j1 j2 hj => ?_) ?_))
      · have := eqAt_alikeAll xs ys A.in1 s vs.toList vs'.toList _ _ h4 k4 hal (room_in hu) j (by simpa using j1) (by simpa using j2)
        simpa using this
      · have := rcLt_alikeAll xs ys A.in1 s vs.toList vs'.toList _ _ h4 k4 hal (room_in hu) j (by simpa using j1) (by simpa using j2) hj
        simpa using this
      · exact wpAny_truthy_bool hq
/-- all are tuples, the first is the empty one -/
def Sort0 (ds : List PyData) : Prop := (∃ r, ds = .tuple [] :: r) ∧ ∀ d ∈ ds, ∃ xs, d = .tuple xs
theorem firsts0 {M : Model} {E : Value → Shared → Prop} : ∀ {vs : List Value} {ds : List PyData}, EachIs (fun v d => ∃ as, Reads s.heap v d as) vs ds → (∀ d ∈ ds, ∃ xs, d = .tuple xs) → ∀ {Q : List (Option Value) → Shared → Prop}, (∀ fs : List (Option Value), fs.length = vs.length → Q fs s) → wpAny M A (vs.mapM firstOfTuple') Q E s
  | _, _, .nil, _, _, h => by rw [List.mapM_nil]; exact wpAny_pure (h [] rfl)
  | _, _, .cons (a := v) (as := vs) ⟨as, r⟩ t, ht, Q, h => by
    obtain ⟨xs, rfl⟩ := ht _ List.mem_cons_self
    cases r with
    | @tuple a o xs n _ _ ho hc hd hr =>
      rw [List.mapM_cons]
      refine wpAny_bind ?_
      rw [kas_first_eq]
      refine wpAny_bind (Looks.here (show Looks M s.heap (typeOf (.ref a)) o.cls from (Looks.ld ho).andThen .now) ?_)
      rw [hc, if_neg (by first | decide | simp)]
      refine wpAny_bind (listItems_at ho hd (wpAny_pure ?_))
      exact wpAny_bind (firsts0 t (fun d m => ht d (List.mem_cons_of_mem _ m)) (Q := fun bs s' => wpAny M A (pure (xs[0]? :: bs)) Q E s') fun fs hl => wpAny_pure (h _ (by rw [List.length_cons, List.length_cons, hl])))
theorem kind0 {M : Model} {E : Value → Shared → Prop} {vs : List Value} {ds : List PyData} {Q : SortKind → Shared → Prop} (e : EachIs (fun v d => ∃ as, Reads s.heap v d as) vs ds) (hk : Sort0 ds) (h : Q oneType' s) : wpAny M A (keyKind' vs.toArray) Q E s := by
  obtain ⟨⟨r0, rfl⟩, ht⟩ := hk
  have hT : ∀ v ∈ vs, Looks M s.heap (typeOf v) (Value.type "tuple") := fun v hv => by
    obtain ⟨d, hd, as, r⟩ := e.left v hv
    obtain ⟨xs, rfl⟩ := ht d hd
    exact looks_reads r
  cases e with
  | @cons v _ vs _ hr t =>
    obtain ⟨as, r⟩ := hr
    rw [keyKind'_eq, List.mapM_toArray, map_eq_pure_bind]
    refine wpAny_bind (wpAny_bind ?_)
    rw [List.mapM_cons]
    cases r with
    | @tuple a o xs n _ _ ho hc hd hr =>
      have hx : xs = #[] := by
        cases q : xs.toList with
        | nil => exact Array.toList_eq_nil_iff.mp q
        | cons f fr => rw [q] at hr; cases hr
      refine wpAny_bind ?_
      rw [kas_first_eq]
      refine wpAny_bind (Looks.here (show Looks M s.heap (typeOf (.ref a)) o.cls from (Looks.ld ho).andThen .now) ?_)
      rw [hc, if_neg (by first | decide | simp)]
      refine wpAny_bind (listItems_at ho hd (wpAny_pure ?_))
      have x0 : xs[0]? = none := by rw [hx]; rfl
      rw [x0]
      refine wpAny_bind (firsts0 t (fun d m => ht d (List.mem_cons_of_mem _ m)) fun fs hl => wpAny_pure (wpAny_pure ?_))
      have hall : ¬ ((none :: fs : List (Option Value)).toArray.all fun x => x.isSome) = true := by simp
      rw [if_neg hall, if_neg (by simp)]
      rw [oneTypeOnly'_eq, List.mapM_toArray, map_eq_pure_bind]
      refine wpAny_bind (wpAny_bind (wpAny_bind (kas_mapM (r := Value.type "tuple") _ (fun v hv Q' hq => (hT v hv).here hq) (wpAny_pure ?_))))
      have hall : ((List.map (fun _ => Value.type "tuple") (Value.ref a :: vs)).toArray.all fun x => x == Value.type "tuple") = true := by
        simp only [List.all_toArray, List.all_map, List.all_eq_true]
        intro _ _
        rfl
      have h0 : (List.map (fun _ => Value.type "tuple") (Value.ref a :: vs)).toArray[0]? = some (Value.type "tuple") := by simp
      rw [h0]
      simp only [hall, if_true]
      exact wpAny_pure (wpAny_pure h)
theorem sortsAt0 {vs : List Value} {ds : List PyData} (e : EachIs (fun v d => ∃ as, Reads s.heap v d as) vs ds) (hal : AllAlike ds) (hk : Sort0 ds) (hu : ∀ d, d ∈ ds → A.units + d.depth < cLine) : SortsAt prog w A s (dataKind s.heap ds) vs := by
  have room : ∀ {d d' : PyData}, d ∈ ds → A.units + min d.depth d'.depth < cLine := fun {d d'} hd => Nat.lt_of_le_of_lt (Nat.add_le_add_left (Nat.min_le_left _ _) _) (hu d hd)
  refine ⟨fun v hv => ?_, oneType', ?_, fun h2 E Q hq => kind0 e hk hq⟩
  · obtain ⟨d, hd, as, r⟩ := e.left v hv
    exact ⟨_, dataKind_some hal hd r⟩
  · intro E x y a b Q ha hb hq
    obtain ⟨d, as, hd, ra, rfl⟩ := dataKind_inv ha
    obtain ⟨d', as', hd', rb, rfl⟩ := dataKind_inv hb
    have hdd := hal d hd d' hd'
    have hr := room (d' := d') hd
    obtain ⟨xs, rfl⟩ := hk.2 d hd
    obtain ⟨ys, rfl⟩ := hk.2 d' hd'
    rw [keyLt'_oneType]
    exact oneLt_tup ra rb hdd hr hq
end
section
variable {α β : Type}
theorem sorted_data0 {γ : Type} {prog : Program} {w : World} {A : Around} {s : Shared} {E : Value → Shared → Prop} {R : Value → γ → Prop} {enc : γ → PyData} {vs : List Value} {bs : List γ} {l : Addr} {Q : Value → Shared → Prop} (hl : s.heap.IsList l vs.toArray) (e : EachIs R vs bs) (er : EachIs (fun v b => ∃ as, Reads s.heap v (enc b) as) vs bs) (hal : AllAlike (bs.map enc)) (hk : Sortable (bs.map enc) ∨ Sort0 (bs.map enc)) (hL : bs.length ≤ sizeLine)
    (hu : ∀ b, b ∈ bs → A.units + 2 + (enc b).depth < cLine) (h : ∀ out, out.length = bs.length → EachIs R out (bs.mergeSort (dataLe false enc)) → Q (.ref (s.heap.objs.size + 1)) { s with heap := sortedAll s.heap vs (List.toArray out) }) :
    wpAny (model prog w) A (call (.builtin "sorted") [.ref l]) Q E s := by
  rcases hk with hk | hk
  · exact sorted_data hl e er hal hk hL hu h
  have er' : EachIs (fun v b => ∃ as, Reads (sortingHeap (copyHeap s.heap vs) (s.heap.objs.size + 1) vs) v (enc b) as) vs bs := er.mono fun _ _ ⟨as, r⟩ => ⟨as, PyProof.Rows.Reads.keeps (fun _ _ => sorting_copy_old) r⟩
  exact sorted_vals hl (sortsAt0 (s := { s with heap := sortingHeap (copyHeap s.heap vs) (s.heap.objs.size + 1) vs }) (each_map (R := fun v d => ∃ as, Reads (sortingHeap (copyHeap s.heap vs) (s.heap.objs.size + 1) vs) v d as) enc er') hal hk (bound_map hu)) (by rw [e.length]; exact hL)
    (h _ (by rw [sortVals_length false rfl]; exact e.length) (sortVals_data false e er' hal))
def rSort0 (K : PySem.W.Frag) (dd : α → PyData) : List V → Hp → VK → Prop := fun vs H Q => ∃ (a : Addr) (ps : List (V × α)), vs = [V.ref a] ∧ SqL K H a (ps.map (·.1)) ∧ (∀ p ∈ ps, Dp K H p.1 (dd p.2)) ∧ (∀ x y, alike (dd x) (dd y) = true) ∧ (Sortable (ps.map fun p => dd p.2) ∨ Sort0 (ps.map fun p => dd p.2)) ∧ (∀ x, (dd x).depth ≤ 60) ∧
  ∀ p, H p = none → Q (.ref p) (upd H p (.lst ((ps.mergeSort (dataLe false fun q : V × α => dd q.2)).map (·.1))))
theorem cr_sort0 {X : Cx} {dd : α → PyData} (hu : X.A.units + 64 < cLine) : CallR X (.builtin "sorted") (rSort0 X.K dd) := by
  intro pins s σ H vs us Q I r h
  obtain ⟨a, ps, rfl, hs, hd, hal, hk, hdp, q⟩ := h
  obtain ⟨its, rv, hl, hz⟩ := I.list hs
  rw [Vals.ref1 r]
  have e := vals_each rv
  have el : its.length = ps.length := e.length
  have er : ∀ {ps : List (V × α)} {its : List Value}, (∀ p ∈ ps, Dp X.K H p.1 (dd p.2)) → EachIs (fun (u : Value) (p : V × α) => RelV p.1 u) its ps → EachIs (fun v (b : V × α) => ∃ as, Reads s.heap v (dd b.2) as) its ps := by
    intro ps its hd e
    induction e with
    | nil => exact .nil
    | @cons u p us ps h1 _ ih => exact .cons (Dp.reads I _ _ _ (hd p List.mem_cons_self) h1) (ih fun z m => hd z (List.mem_cons_of_mem _ m))
  refine sorted_data0 (R := fun (u : Value) (p : V × α) => RelV p.1 u) (enc := fun p : V × α => dd p.2) hl.isList e (er hd e) (AllAlike.of fun b b' => hal _ _) hk (by rw [List.length_map] at hz; exact hz) (fun b _ => by have := hdp b.2; omega) fun out ho eo => ?_
  obtain ⟨ep, he'⟩ := PyProof.Rows.sortedAll_at s.heap its out.toArray
  have hlen : ((ps.mergeSort (dataLe false fun q : V × α => dd q.2)).map (·.1)).length ≤ sizeLine := by rw [List.length_map, List.length_mergeSort]; rw [List.length_map] at hz; exact hz
  exact ⟨.ref _, upd H (s.heap.objs.size + 1) (.lst ((ps.mergeSort (dataLe false fun q : V × α => dd q.2)).map (·.1))), I.laid (t' := s.toks) (fun _ _ => PyProof.Rows.sortedAll_old) (Nat.le_succ _) ⟨hlen, out, ep, each_vals eo, he'⟩, rfl, q _ (I.hok.fresh (Nat.le_succ _))⟩
variable {X : Cx} {Γ Δ : List SP} {e : Expr} {pos : Pos}
theorem xn_sort0 {p : Pos} {M : Mp (List α)} {r : RT α} {D : DatR r} (O : OrdR D) (hn : D.n ≤ 60) (hu : X.A.units + 64 < cLine) (hm : X.mg "sorted" = none) (ha : XB X Γ e M r) (hg : Gl X "sorted" := by rfl) (h1 : starEach [e] X.env = (false, eval e X.env) :: starEach [] X.env := by rfl) :
    XN X Γ (.Call (.Name "sorted" p) [e] [] pos) (fun P => M fun xs => (Sortable (xs.map D.d) ∨ Sort0 (xs.map D.d)) ∧ ∀ ys : List α, ys.Perm xs → ys.Pairwise (fun x y => O.lt y x = false) → P ys) r := by
  obtain ⟨t, pp, q⟩ := ha
  refine ⟨_, pe_callB (cr_sort0 (dd := D.d) hu) hg hm (by with_unfolding_all rfl) (pa_cons pp pa_nil h1) (by decide) (by decide) h1, fun σ W k s Q P m h => ?_⟩
  refine q σ W k s _ _ m fun xs v W1 ⟨m1, m2⟩ k1 s1 g1 r1 => ?_
  obtain ⟨u, vs, ev, hh, pr⟩ := r1 W1 k1 (Step.refl W1) g1
  obtain ⟨ps, e1, e2, e3⟩ := zip_pair pr
  refine ⟨u, ps, by rw [ev], by rw [e1]; exact sql_of hh, fun p mp => D.ok X.K _ _ _ (r.mono k1.ex (e3 p mp)), O.al, by rw [← e2, List.map_map] at m1; exact m1, fun x => Nat.le_trans (D.dep x) hn, fun l nl => ?_⟩
  have g := grow_lay (W := W1) (o := .lst ((ps.mergeSort (dataLe false fun q : V × α => D.d q.2)).map (·.1))) nl
  have prm : ((ps.mergeSort (dataLe false fun q : V × α => D.d q.2)).map fun p : V × α => p.2).Perm xs := by
    rw [← e2]
    exact (List.mergeSort_perm _ _).map _
  have prd : Paired (r.ok W1.Hc) ((ps.mergeSort (dataLe false fun q : V × α => D.d q.2)).map fun p : V × α => p.1) ((ps.mergeSort (dataLe false fun q : V × α => D.d q.2)).map fun p : V × α => p.2) := pair_zip fun p mp => e3 p (List.mem_mergeSort.mp mp)
  exact h _ l _ (W1.lay l _) (m2 _ prm (merge_srt O ps)) (k1.lay nl) (s1.trans g.step) (g1.up (g.up k1)) (fresh_of s1 nl) (k1.none_of nl) (k1.free nl) upd_same prd
end
end TM
set_option Elab.async false
set_option linter.all false
set_option maxRecDepth 100000
set_option maxHeartbeats 1000000
set_option Elab.async false
set_option linter.all false
set_option maxRecDepth 100000
set_option maxHeartbeats 1000000
namespace TM
open PySem PySem.Spec PyProof.Rows L2
-- printed by gen.py
def topS (i : Nat) : Stmt := PySem.Challenge.pw_treehands_k03_kids_parts_places.main.body.getD i (.Pass ⟨0, 0, 0, 0⟩)
structure M_Book where
  names_told : (List Str)
  kids_told : (List Int)
def r_Book (C_Book : Addr) : RT M_Book := ⟨fun H v b => ∃ p dx v0 v1, v = .ref p ∧ H p = some (.ins C_Book dx [("names_told", v0), ("kids_told", v1)]) ∧ (rL rStr).ok H v0 b.names_told ∧ (rL rInt).ok H v1 b.kids_told,
  fun e ⟨p, dx, v0, v1, h1, h2, kh0, kh1⟩ => ⟨p, dx, v0, v1, h1, e _ _ h2, (rL rStr).mono e kh0, (rL rInt).mono e kh1⟩⟩
theorem f_Book_names_told {C_Book : Addr} : InsF C_Book "names_told" (r_Book C_Book) (rL rStr) M_Book.names_told := fun H v b ⟨p, dx, v0, v1, e, h, kh0, kh1⟩ => ⟨p, dx, _, _, e, h, lk_here, kh0⟩
theorem f_Book_kids_told {C_Book : Addr} : InsF C_Book "kids_told" (r_Book C_Book) (rL rInt) M_Book.kids_told := fun H v b ⟨p, dx, v0, v1, e, h, kh0, kh1⟩ => ⟨p, dx, _, _, e, h, (lk_past (by decide +kernel)).trans lk_here, kh1⟩
theorem nf_Book {C_Book : Addr} : NoF (r_Book C_Book) := fun hu ⟨p, dx, v0, v1, e, h, kv0, kv1⟩ => ⟨p, dx, v0, v1, e, fz_ins hu h, (nf_L nf_str) hu kv0, (nf_L nf_int) hu kv1⟩
theorem no_Book_kids {C_Book : Addr} : InsNo C_Book "kids" (r_Book C_Book) := fun H v b ⟨p, dx, v0, v1, e, h, _⟩ => ⟨p, dx, _, e, h, (lk_past (by decide +kernel)).trans ((lk_past (by decide +kernel)).trans (rfl))⟩
theorem no_Book_many {C_Book : Addr} : InsNo C_Book "many" (r_Book C_Book) := fun H v b ⟨p, dx, v0, v1, e, h, _⟩ => ⟨p, dx, _, e, h, (lk_past (by decide +kernel)).trans ((lk_past (by decide +kernel)).trans (rfl))⟩
structure Txt (K : PySem.W.Frag) (mg : Str → Option Value) (C_Book : Addr) : Prop where
  cl_Book : Cls K C_Book
  na_Book_kids_told : NoAttr K C_Book "kids_told"
  na_Book_names_told : NoAttr K C_Book "names_told"
  b_abs : mg "abs" = none
  b_all : mg "all" = none
  b_bool : mg "bool" = none
  b_divmod : mg "divmod" = none
  b_enumerate : mg "enumerate" = none
  b_int : mg "int" = none
  b_isinstance : mg "isinstance" = none
  b_len : mg "len" = none
  b_list : mg "list" = none
  b_max : mg "max" = none
  b_min : mg "min" = none
  b_range : mg "range" = none
  b_reversed : mg "reversed" = none
  b_set : mg "set" = none
  b_sorted : mg "sorted" = none
  b_tuple : mg "tuple" = none
  b_zip : mg "zip" = none
  g_LETTERS : ∃ t, mg "LETTERS" = some (.str "abcdefghijklmnopqrstuvwxyz" t)
  g_MOST_IN : ∃ t, mg "MOST_IN" = some (.int (40) t)
  g_MOST_SIGNS : ∃ t, mg "MOST_SIGNS" = some (.int (6) t)
def W_is_name (a_text : Str) (a_most : Int) (P : Bool → Prop) : Prop :=
 a_text.length ≤ sizeLine ∧ if (decide ((1 : Int) ≤ (a_text.length : Int))) = true then if (decide ((a_text.length : Int) ≤ a_most)) = true then (signsOf a_text).length ≤ sizeLine ∧ lcW (signsOf a_text) (fun x1 nx2 => nx2 (some (decide (x1 ∈ ("abcdefghijklmnopqrstuvwxyz" : Str).cps.toList)))) [] fun x1l => P (x1l.all id) else P false else if false = true then (signsOf a_text).length ≤ sizeLine ∧ lcW (signsOf a_text) (fun x1 nx2 => nx2 (some (decide (x1 ∈ ("abcdefghijklmnopqrstuvwxyz" : Str).cps.toList)))) [] fun x1l => P (x1l.all id) else P false
abbrev s_is_name : Stmt := topS 21
abbrev N_is_name : List Str := ["text", "most", "letter"]
theorem sc_is_name : FnScope ["text", "most", "letter"] ["text", "most"] (defScope s_is_name) := ⟨rfl, rfl, rfl, by decide +kernel, rfl, by decide +kernel, by decide +kernel⟩
abbrev ps_is_name : List Str := ["text", "most"]
abbrev sp_is_name  : Sp := spC (rsc rStr (rsc rInt rs0)).sps (fun z P => W_is_name z.1 z.2.1 P) (rrc rBl)
theorem ok_is_name {P : Program} {w : World} {K : PySem.W.Frag} {mg : Str → Option Value} {base : Heap} {C_Book : Addr} {f : Addr} {fd : FuncData} (F : Fun K "is_name" "is_name" s_is_name f fd) (T : Txt K mg C_Book)  : FnOk P w K mg base CX0 1 f fd ps_is_name (sp_is_name ) :=
  have S := sc_is_name
  fn_C (n := 1) F S (fun _ => rfl) rfl (rcx none rBl) (fun _ _ _ h => h.2) (fun cdv A outer s H E hr z =>
 xs_retX (ba := none) trivial (xp_and (xp_chain op_le os_le op_le os_le xp_int (xp_blt call_len_str cs_lenS PySem.boot_len T.b_len (xa_cons (xp_var 0 rfl) xa_nil)) (xp_var 1 rfl)) (xp_one (xp_all rfl T.b_all (xb_new (xn_lc (xlc_1 (x := "letter") 2 (xil (xi_str (xp_var 0 rfl))) rfl (fun x1 _ _ _ _ _ => (xp_cmp op_inS os_inSign rfl (xp_var 2 rfl) (xp_gstr (Classical.choose_spec T.g_LETTERS))))) rfl S.nd (blkOk_by (N := N_is_name) (sc := defScope s_is_name) (by decide +kernel)) (fun _ _ _ _ _ => pg_name (i := 2) S.nd rfl (by first | exact .inl rfl | exact .inr rfl)))))))) (fun _ _ h => by exact h)
def W_check_book (a_signs : (List (Str × Int))) (P : Unit → Prop) : Prop :=
 (fun P14 : Bool → Prop => if (decide ((1 : Int) ≤ (a_signs.length : Int))) = true then P14 (!(decide ((a_signs.length : Int) ≤ (6 : Int)))) else P14 (!false)) (fun b15 => if b15 = true then False else
 (fun x1 : (List Str) => (fun x2 : Int => forW a_signs (x1, x2) (fun x4 s3 nx5 =>
 (fun P140 : Bool → Prop => W_is_name x4.1 (3 : Int) fun r9 => if (!r9) = true then P140 true else if (decide (x4.1 ∈ s3.1)) = true then P140 true else if (decide ((0 : Int) ≤ x4.2)) = true then P140 (!(decide (x4.2 ≤ (2 : Int)))) else P140 (!false)) (fun b151 => if b151 = true then False else
 s3.1.length < sizeLine ∧ (fun x7 : List Str => (fun x8 : Int => nx5 (x7, x8)) (s3.2 + (if (decide (x4.2 = (0 : Int))) then (1 : Int) else 0))) (s3.1 ++ [x4.1]))) (fun s3 =>
 (fun nx13 : Unit → Prop => if (decide (s3.2 = (0 : Int))) = true then False else nx13 ()) (fun s12 =>
 P ()))) (0 : Int)) ([] : List Str))
abbrev s_check_book : Stmt := topS 22
abbrev N_check_book : List Str := ["signs", "names", "leaves", "name", "kids"]
theorem sc_check_book : FnScope ["signs", "names", "leaves", "name", "kids"] ["signs"] (defScope s_check_book) := ⟨rfl, rfl, rfl, by decide +kernel, rfl, by decide +kernel, by decide +kernel⟩
abbrev ps_check_book : List Str := ["signs"]
abbrev sp_check_book  : Sp := spC (rsc (rL (rP rStr rInt)) rs0).sps (fun z P => W_check_book z.1 P) (rrc rNon)
theorem ok_check_book {P : Program} {w : World} {K : PySem.W.Frag} {mg : Str → Option Value} {base : Heap} {C_Book : Addr} {f : Addr} {fd : FuncData} (F : Fun K "check_book" "check_book" s_check_book f fd) (T : Txt K mg C_Book) (G_is_name : Glob P w K mg base "is_name" 1 ps_is_name (sp_is_name )) : FnOk P w K mg base CX0 2 f fd ps_check_book (sp_check_book ) :=
  have S := sc_check_book
  fn_P (n := 4) F S (fun _ => rfl) rfl (Γn := fun _ : Unit => [.unk, .unk, .unk, .unk, .unk]) (fun cdv A outer s H E hr z =>
 xs_cons (xt_ifx (xt_not (xt_chain op_le os_le op_le os_le xp_int (xp_lenL T.b_len (xb_cl (xp_var 0 rfl))) (xp_gint (Classical.choose_spec T.g_MOST_SIGNS)))) (xs_raise)) (fun _ =>
 xs_cons (xt_setN 1 (xn_lst (r := rStr) xh_nil) (show 1 < 5 from by decide) S.nd) (fun x1 =>
 xs_cons (xt_set 2 xp_int S.nd) (fun x2 =>
 xs_cons (xt_for (Γs := fun s3 : ((List Str) × Int) => [.cl (rL (rP rStr rInt)) z.1, .own rStr s3.1, .cl rInt s3.2, .unk, .unk]) (x1, x2) PassesOwn.never rfl (xi_list (xp_var 0 rfl)) (xg_tup2 3 4 S.nd (pg_tup rfl (pgs_cons (pg_name (i := 3) S.nd rfl (by first | exact .inl rfl | exact .inr rfl)) (pgs_cons (pg_name (i := 4) S.nd rfl (by first | exact .inl rfl | exact .inr rfl)) pgs_nil))))
 (fun x4 s3 =>
 xs_cons (xt_ifx (XW.t (xw_or (xt_not (xt_val (xg_call G_is_name hr (by decide) (xa_cons (xp_var 3 rfl) (xa_cons xp_int xa_nil))))) (xw_or (xt_inL fStr (xp_var 3 rfl) (xb_own 1 rfl)) (xw_or1 (xt_not (xt_chain op_le os_le op_le os_le xp_int (xp_var 4 rfl) xp_int)))))) (xs_raise)) (fun _ =>
 xs_cons (xt_app 1 rfl (xp_var 3 rfl) (hpe := (fun te h => ps_expr (pe_bm PySem.F.plainAttrs_list PySem.F.slot_list_append PySem.F.type_list_append mt_append (pe_var (i := 1) rfl (by first | exact Or.inl rfl | exact Or.inr (Or.inl rfl) | exact Or.inr (Or.inr rfl))) (pa_cons h pa_nil))))) (fun x7 =>
 xs_cons (xt_set 2 (xp_op op_add os_add (xp_var 2 rfl) (xp_ty call_int1 cs_intB (by with_unfolding_all rfl) T.b_int (xa_cons (xp_cmp op_eq (os_eq fInt) (nomark _) (xp_var 4 rfl) xp_int) xa_nil))) S.nd) (fun x8 =>
 xs_nil (x7, x8) ⟨.inr rfl, .inr rfl, .inr rfl, .inl rfl, .inl rfl, trivial⟩)))) ⟨.inr rfl, .inr rfl, .inr rfl, .inl rfl, .inl rfl, trivial⟩) (fun s3 =>
 xs_cons (xt_if (Γn := fun s12 : Unit => [.cl (rL (rP rStr rInt)) z.1, .own rStr s3.1, .cl rInt s3.2, .unk, .unk]) (xt_cmp op_eq (os_eq fInt) (nomark _) (xp_var 2 rfl) xp_int) (xs_raise) (xs_nil () ⟨.inr rfl, .inr rfl, .inr rfl, .inl rfl, .inl rfl, trivial⟩)) (fun s12 =>
 xs_nil () ⟨.inl rfl, .inl rfl, .inl rfl, .inl rfl, .inl rfl, trivial⟩)))))) (fun _ _ h => by exact h)
def W_Book___init__ (signs : List (Str × Int)) (P : M_Book → Prop) : Prop := W_check_book signs fun _ => signs.length ≤ sizeLine ∧ lcW signs (fun x nx => nx (some x.1)) [] fun l => signs.length ≤ sizeLine ∧ lcW signs (fun x nx => nx (some x.2)) [] fun m => P ⟨l, m⟩
def RJ_Book (Hc Hb : Hp) (ws : List V) (x : List (Str × Int) × Unit) : Prop := ∃ v, ws = [v] ∧ (rL (rP rStr rInt)).ok Hb v x.1
theorem rj_Book : ∀ H vs x, (rac (rL (rP rStr rInt)) ra0).ok H vs x → RJ_Book H H vs x := fun H vs x ⟨v, ws, e, h, e2⟩ => by
  have e2 : ws = [] := e2
  subst e2; exact ⟨v, e, h⟩
theorem rl_Book : ∀ Hc Hb vs x, jLend (rL (rP rStr rInt)) jNil Hc Hb vs x → RJ_Book Hc Hb vs x := fun Hc Hb vs x ⟨v, ws, e, h, e2⟩ => by
  have e2 : ws = [] := e2
  subst e2; exact ⟨v, e, h⟩
abbrev ps_Book___init__ : List Str := ["self", "signs"]
abbrev sp_Book___init__ (C_Book : Addr) : Sp := spJ C_Book RJ_Book (fun z P => W_Book___init__ z.1 P) (r_Book C_Book)
abbrev s_Book___init__ : Stmt := inClass (topS 23) 0
abbrev N_Book___init__ : List Str := ["self", "signs", "name", "kids"]
theorem sc_Book___init__ : FnScope ["self", "signs", "name", "kids"] ["self", "signs"] (defScope s_Book___init__) := ⟨rfl, rfl, rfl, by decide +kernel, rfl, by decide +kernel, by decide +kernel⟩
theorem ok_Book___init__ {P : Program} {w : World} {K : PySem.W.Frag} {mg : Str → Option Value} {base : Heap} {C_Book : Addr} {f : Addr} {fd : FuncData} (F : Fun K "__init__" "Book.__init__" s_Book___init__ f fd) (T : Txt K mg C_Book) (G_check_book : Glob P w K mg base "check_book" 2 ps_check_book sp_check_book) : FnOk P w K mg base CX0 3 f fd ps_Book___init__ (sp_Book___init__ C_Book) :=
  have S := sc_Book___init__
  fn_K (n := 2) (S := fun _ => List Str × List Int) (Γ := fun _ => [.unk, .unk]) (Λ := fun z => [.unk, .cl (rL (rP rStr rInt)) z.1]) (FF' := fun _ s => ffAdd (ffAdd ffNil "names_told" (rL rStr) s.1) "kids_told" (rL rInt) s.2) (fun _ s => ⟨s.1, s.2⟩) F S (fun _ _ _ _ ⟨v, e, _⟩ => by rw [e]; rfl) rfl
    (fun Hc Hb ws z ⟨v, e, h⟩ _ p B => by subst e; exact ⟨⟨trivial, trivial, trivial⟩, trivial, ⟨v, rfl, h⟩, trivial⟩)
    (fun cdv A outer s H E hr z =>
      xk_expB (f := "names_told") ffn_nil.ok (by simp [clus]) (by simp [clus]) (xg_call G_check_book hr (by decide) (xa_cons (xp_var 1 rfl) xa_nil))
      (xk_setB T.cl_Book T.na_Book_names_told ffn_nil.ok (by simp [clus]) (by simp [clus]) rfl (cv_new cv_str) (fun H1 => xn_new 0 rfl (xn_lc (xlc_2 (x := "name") (y := "kids") 2 3 (by decide) (xil (xi_list (xp_var 1 rfl))) rfl rfl (fun x1 _ _ _ _ _ => (xp_var 2 rfl))) rfl S.nd (blkOk_by (N := N_Book___init__) (sc := defScope s_Book___init__) (by decide +kernel)) (fun _ _ _ _ _ => (pg_tup rfl (pgs_cons (pg_name (i := 2) S.nd rfl (by first | exact .inl rfl | exact .inr rfl)) (pgs_cons (pg_name (i := 3) S.nd rfl (by first | exact .inl rfl | exact .inr rfl)) pgs_nil)))))) (fun l =>
      xk_setB T.cl_Book T.na_Book_kids_told (ffn_add ffn_nil (by decide)).ok (by simp [clus]) (by simp [clus]) rfl (cv_new cv_int) (fun H1 => xn_new 0 rfl (xn_lc (xlc_2 (x := "name") (y := "kids") 2 3 (by decide) (xil (xi_list (xp_var 1 rfl))) rfl rfl (fun x1 _ _ _ _ _ => (xp_var 3 rfl))) rfl S.nd (blkOk_by (N := N_Book___init__) (sc := defScope s_Book___init__) (by decide +kernel)) (fun _ _ _ _ _ => (pg_tup rfl (pgs_cons (pg_name (i := 2) S.nd rfl (by first | exact .inl rfl | exact .inr rfl)) (pgs_cons (pg_name (i := 3) S.nd rfl (by first | exact .inl rfl | exact .inr rfl)) pgs_nil)))))) (fun m =>
      xk_nil (l, m) fun _ _ h => h))))
    (fun _ _ h => h) (fun _ => by simp [clus])
    (fun z s Hc fs p dx ⟨fs1, v1, e1, ⟨fs0, v0, e0, en, h0⟩, h1⟩ hp => by
      have en : fs0 = [] := en
      subst en e0 e1; exact ⟨p, dx, v0, v1, rfl, hp, h0, h1⟩)
    (fun z s Hc Hc' fs e ⟨fs1, v1, e1, ⟨fs0, v0, e0, en, h0⟩, h1⟩ => ⟨fs1, v1, e1, ⟨fs0, v0, e0, en, (rL rStr).mono e h0⟩, (rL rInt).mono e h1⟩)

def W_Book_many (a_self : M_Book) (P : Int → Prop) : Prop :=
 P (a_self.names_told.length : Int)
abbrev s_Book_many : Stmt := inClass (topS 23) 1
abbrev N_Book_many : List Str := ["self"]
theorem sc_Book_many : FnScope ["self"] ["self"] (defScope s_Book_many) := ⟨rfl, rfl, rfl, by decide +kernel, rfl, by decide +kernel, by decide +kernel⟩
abbrev ps_Book_many : List Str := ["self"]
abbrev sp_Book_many (C_Book : Addr) : Sp := spC (rsc (r_Book C_Book) rs0).sps (fun z P => W_Book_many z.1 P) (rrc rInt)
theorem ok_Book_many {P : Program} {w : World} {K : PySem.W.Frag} {mg : Str → Option Value} {base : Heap} {C_Book : Addr} {f : Addr} {fd : FuncData} (F : Fun K "many" "Book.many" s_Book_many f fd) (T : Txt K mg C_Book)  : FnOk P w K mg base CX0 1 f fd ps_Book_many (sp_Book_many C_Book) :=
  have S := sc_Book_many
  fn_C (n := 0) F S (fun _ => rfl) rfl (rcx none rInt) (fun _ _ _ h => h.2) (fun cdv A outer s H E hr z =>
 xs_retX (ba := none) trivial (xp_lenL T.b_len (xb_cl (xp_fld f_Book_names_told T.cl_Book T.na_Book_names_told (xp_var 0 rfl))))) (fun _ _ h => by exact h)
def W_Book_kids (a_self : M_Book) (a_sign : Int) (P : Int → Prop) : Prop :=
 ∃ y1, atI a_self.kids_told a_sign = some y1 ∧ P y1
abbrev s_Book_kids : Stmt := inClass (topS 23) 3
abbrev N_Book_kids : List Str := ["self", "sign"]
theorem sc_Book_kids : FnScope ["self", "sign"] ["self", "sign"] (defScope s_Book_kids) := ⟨rfl, rfl, rfl, by decide +kernel, rfl, by decide +kernel, by decide +kernel⟩
abbrev ps_Book_kids : List Str := ["self", "sign"]
abbrev sp_Book_kids (C_Book : Addr) : Sp := spC (rsc (r_Book C_Book) (rsc rInt rs0)).sps (fun z P => W_Book_kids z.1 z.2.1 P) (rrc rInt)
theorem ok_Book_kids {P : Program} {w : World} {K : PySem.W.Frag} {mg : Str → Option Value} {base : Heap} {C_Book : Addr} {f : Addr} {fd : FuncData} (F : Fun K "kids" "Book.kids" s_Book_kids f fd) (T : Txt K mg C_Book)  : FnOk P w K mg base CX0 1 f fd ps_Book_kids (sp_Book_kids C_Book) :=
  have S := sc_Book_kids
  fn_C (n := 0) F S (fun _ => rfl) rfl (rcx none rInt) (fun _ _ _ h => h.2) (fun cdv A outer s H E hr z =>
 xs_retX (ba := none) trivial (xp_ixL (xb_cl (xp_fld f_Book_kids_told T.cl_Book T.na_Book_kids_told (xp_var 0 rfl))) (xp_var 1 rfl))) (fun _ _ h => by exact h)
def W_end_of (a_book : M_Book) (a_row : (List Int)) (a_start : Int) (P : Int → Prop) : Prop :=
 (fun x1 : Int => (RgOk a_start ∧ RgOk (a_row.length : Int)) ∧ forW (rangeL a_start ((a_row.length : Int) - a_start).toNat) (x1) (fun x3 s2 nx4 =>
 (fun P13 : Bool → Prop => ∃ y6, atI a_row x3 = some y6 ∧ if (decide ((0 : Int) ≤ y6)) = true then W_Book_many a_book fun r12 => P13 (!(decide (y6 < r12))) else P13 (!false)) (fun b14 => if b14 = true then P (-(1 : Int)) else
 ∃ y8, atI a_row x3 = some y8 ∧ W_Book_kids a_book y8 fun r11 => (fun x7 : Int => (fun nx10 : Unit → Prop => if (decide (x7 = (0 : Int))) = true then P (x3 + (1 : Int)) else nx10 ()) (fun s9 =>
 nx4 (x7))) ((s2 + r11) - (1 : Int)))) (fun s2 =>
 P (-(1 : Int)))) (1 : Int)
abbrev s_end_of : Stmt := topS 7
abbrev N_end_of : List Str := ["book", "row", "start", "wanted", "spot"]
theorem sc_end_of : FnScope ["book", "row", "start", "wanted", "spot"] ["book", "row", "start"] (defScope s_end_of) := ⟨rfl, rfl, rfl, by decide +kernel, rfl, by decide +kernel, by decide +kernel⟩
abbrev ps_end_of : List Str := ["book", "row", "start"]
abbrev sp_end_of (C_Book : Addr) : Sp := spC (rsc (r_Book C_Book) (rsc (rT rInt) (rsc rInt rs0))).sps (fun z P => W_end_of z.1 z.2.1 z.2.2.1 P) (rrc rInt)
theorem ok_end_of {P : Program} {w : World} {K : PySem.W.Frag} {mg : Str → Option Value} {base : Heap} {C_Book : Addr} {f : Addr} {fd : FuncData} (F : Fun K "end_of" "end_of" s_end_of f fd) (T : Txt K mg C_Book) (G_Book_kids : MethG P w K mg base C_Book "kids" 1 ps_Book_kids (sp_Book_kids C_Book)) (G_Book_many : MethG P w K mg base C_Book "many" 1 ps_Book_many (sp_Book_many C_Book)) : FnOk P w K mg base CX0 2 f fd ps_end_of (sp_end_of C_Book) :=
  have S := sc_end_of
  fn_C (n := 2) F S (fun _ => rfl) rfl (rcx none rInt) (fun _ _ _ h => h.2) (fun cdv A outer s H E hr z =>
 xs_cons (xt_set 3 xp_int S.nd) (fun x1 =>
 xs_cons (xt_for (Γs := fun s2 : (Int) => [.cl (r_Book C_Book) z.1, .cl (rT rInt) z.2.1, .cl rInt z.2.2.1, .cl rInt s2, .unk]) (x1) PassesOwn.never rfl (xi_range2 T.b_range (xp_var 2 rfl) (xp_blt call_len_seq cs_lenT PySem.boot_len T.b_len (xa_cons (xp_var 1 rfl) xa_nil))) (xg_name 4 S.nd)
 (fun x3 s2 =>
 xs_cons (xt_ifx (xt_not (xt_chain op_le os_le op_lt os_lt xp_int (xp_ix ix_tup os_ixT (xp_var 1 rfl) (xp_var 4 rfl)) (xg_meth0 no_Book_many T.cl_Book G_Book_many hr (by decide) (xp_var 0 rfl)))) (xs_retX (ba := none) trivial (xp_neg xp_int))) (fun _ =>
 xs_cons (xt_set 3 (xp_op op_sub os_sub (xp_op op_add os_add (xp_var 3 rfl) (xg_meth no_Book_kids T.cl_Book G_Book_kids hr (by decide) (xp_var 0 rfl) (xa_cons (xp_ix ix_tup os_ixT (xp_var 1 rfl) (xp_var 4 rfl)) xa_nil))) xp_int) S.nd) (fun x7 =>
 xs_cons (xt_if (Γn := fun s9 : Unit => [.cl (r_Book C_Book) z.1, .cl (rT rInt) z.2.1, .cl rInt z.2.2.1, .cl rInt x7, .cl rInt x3]) (xt_cmp op_eq (os_eq fInt) (nomark _) (xp_var 3 rfl) xp_int) (xs_retX (ba := none) trivial (xp_op op_add os_add (xp_var 4 rfl) xp_int)) (xs_nil () ⟨.inr rfl, .inr rfl, .inr rfl, .inr rfl, .inr rfl, trivial⟩)) (fun s9 =>
 xs_nil (x7) ⟨.inr rfl, .inr rfl, .inr rfl, .inr rfl, .inl rfl, trivial⟩)))) ⟨.inr rfl, .inr rfl, .inr rfl, .inr rfl, .inl rfl, trivial⟩) (fun s2 =>
 xs_retX (ba := none) trivial (xp_neg xp_int)))) (fun _ _ h => by exact h)
def W_is_tree (a_book : M_Book) (a_tree : (List Int)) (P : Bool → Prop) : Prop :=
 if (decide ((a_tree.length : Int) ≤ (40 : Int))) = true then W_end_of a_book a_tree (0 : Int) fun r1 => P (decide (r1 = (a_tree.length : Int))) else P false
abbrev s_is_tree : Stmt := topS 8
abbrev N_is_tree : List Str := ["book", "tree"]
theorem sc_is_tree : FnScope ["book", "tree"] ["book", "tree"] (defScope s_is_tree) := ⟨rfl, rfl, rfl, by decide +kernel, rfl, by decide +kernel, by decide +kernel⟩
abbrev ps_is_tree : List Str := ["book", "tree"]
abbrev sp_is_tree (C_Book : Addr) : Sp := spC (rsc (r_Book C_Book) (rsc (rT rInt) rs0)).sps (fun z P => W_is_tree z.1 z.2.1 P) (rrc rBl)
theorem ok_is_tree {P : Program} {w : World} {K : PySem.W.Frag} {mg : Str → Option Value} {base : Heap} {C_Book : Addr} {f : Addr} {fd : FuncData} (F : Fun K "is_tree" "is_tree" s_is_tree f fd) (T : Txt K mg C_Book) (G_end_of : Glob P w K mg base "end_of" 2 ps_end_of (sp_end_of C_Book)) : FnOk P w K mg base CX0 3 f fd ps_is_tree (sp_is_tree C_Book) :=
  have S := sc_is_tree
  fn_C (n := 0) F S (fun _ => rfl) rfl (rcx none rBl) (fun _ _ _ h => h.2) (fun cdv A outer s H E hr z =>
 xs_retX (ba := none) trivial (xp_and (xp_cmp op_le os_le (nomark _) (xp_blt call_len_seq cs_lenT PySem.boot_len T.b_len (xa_cons (xp_var 1 rfl) xa_nil)) (xp_gint (Classical.choose_spec T.g_MOST_IN))) (xp_one (xp_cmp op_eq (os_eq fInt) (nomark _) (xg_call G_end_of hr (by decide) (xa_cons (xp_var 0 rfl) (xa_cons (xp_var 1 rfl) (xa_cons xp_int xa_nil)))) (xp_blt call_len_seq cs_lenT PySem.boot_len T.b_len (xa_cons (xp_var 1 rfl) xa_nil)))))) (fun _ _ h => by exact h)
def W_check_tree (a_book : M_Book) (a_tree : (List Int)) (P : Unit → Prop) : Prop :=
 (fun nx2 : Unit → Prop => W_is_tree a_book a_tree fun r3 => if (!r3) = true then False else nx2 ()) (fun s1 =>
 P ())
abbrev s_check_tree : Stmt := topS 9
abbrev N_check_tree : List Str := ["book", "tree"]
theorem sc_check_tree : FnScope ["book", "tree"] ["book", "tree"] (defScope s_check_tree) := ⟨rfl, rfl, rfl, by decide +kernel, rfl, by decide +kernel, by decide +kernel⟩
abbrev ps_check_tree : List Str := ["book", "tree"]
abbrev sp_check_tree (C_Book : Addr) : Sp := spC (rsc (r_Book C_Book) (rsc (rT rInt) rs0)).sps (fun z P => W_check_tree z.1 z.2.1 P) (rrc rNon)
theorem ok_check_tree {P : Program} {w : World} {K : PySem.W.Frag} {mg : Str → Option Value} {base : Heap} {C_Book : Addr} {f : Addr} {fd : FuncData} (F : Fun K "check_tree" "check_tree" s_check_tree f fd) (T : Txt K mg C_Book) (G_is_tree : Glob P w K mg base "is_tree" 3 ps_is_tree (sp_is_tree C_Book)) : FnOk P w K mg base CX0 4 f fd ps_check_tree (sp_check_tree C_Book) :=
  have S := sc_check_tree
  fn_P (n := 0) F S (fun _ => rfl) rfl (Γn := fun _ : Unit => [.unk, .unk]) (fun cdv A outer s H E hr z =>
 xs_cons (xt_if (Γn := fun s1 : Unit => [.cl (r_Book C_Book) z.1, .cl (rT rInt) z.2.1]) (xt_not (xt_val (xg_call G_is_tree hr (by decide) (xa_cons (xp_var 0 rfl) (xa_cons (xp_var 1 rfl) xa_nil))))) (xs_raise) (xs_nil () ⟨.inr rfl, .inr rfl, trivial⟩)) (fun s1 =>
 xs_nil () ⟨.inl rfl, .inl rfl, trivial⟩)) (fun _ _ h => by exact h)
def W_kids_in (a_book : M_Book) (a_row : (List Int)) (P : (List (List Int)) → Prop) : Prop :=
 (fun x1 : (List (List Int)) => (fun x2 : Int => ∃ y3, atI a_row (0 : Int) = some y3 ∧ W_Book_kids a_book y3 fun r12 => RgOk r12 ∧ forW (rangeL 0 r12.toNat) (x1, x2) (fun x5 s4 nx6 =>
 W_end_of a_book a_row s4.2 fun r11 => (fun x8 : Int => s4.1.length < sizeLine ∧ (fun x9 : List (List Int) => (fun x10 : Int => nx6 (x9, x10)) x8) (s4.1 ++ [(cutL a_row (some s4.2) (some x8))])) r11) (fun s4 =>
 P s4.1)) (1 : Int)) ([] : List (List Int))
abbrev s_kids_in : Stmt := topS 10
abbrev N_kids_in : List Str := ["book", "row", "found", "start", "turn", "stop"]
theorem sc_kids_in : FnScope ["book", "row", "found", "start", "turn", "stop"] ["book", "row"] (defScope s_kids_in) := ⟨rfl, rfl, rfl, by decide +kernel, rfl, by decide +kernel, by decide +kernel⟩
abbrev ps_kids_in : List Str := ["book", "row"]
abbrev sp_kids_in (C_Book : Addr) : Sp := spC (rsc (r_Book C_Book) (rsc (rT rInt) rs0)).sps (fun z P => W_kids_in z.1 z.2.1 P) (rrn (rT rInt))
theorem ok_kids_in {P : Program} {w : World} {K : PySem.W.Frag} {mg : Str → Option Value} {base : Heap} {C_Book : Addr} {f : Addr} {fd : FuncData} (F : Fun K "kids_in" "kids_in" s_kids_in f fd) (T : Txt K mg C_Book) (G_Book_kids : MethG P w K mg base C_Book "kids" 1 ps_Book_kids (sp_Book_kids C_Book)) (G_end_of : Glob P w K mg base "end_of" 2 ps_end_of (sp_end_of C_Book)) : FnOk P w K mg base CX0 3 f fd ps_kids_in (sp_kids_in C_Book) :=
  have S := sc_kids_in
  fn_C (n := 4) F S (fun _ => rfl) rfl (rnx none (rT rInt)) (fun _ _ _ h => h.2) (fun cdv A outer s H E hr z =>
 xs_cons (xt_setN 2 (xn_lst (r := (rT rInt)) xh_nil) (show 2 < 6 from by decide) S.nd) (fun x1 =>
 xs_cons (xt_set 3 xp_int S.nd) (fun x2 =>
 xs_cons (xt_for (Γs := fun s4 : ((List (List Int)) × Int) => [.cl (r_Book C_Book) z.1, .cl (rT rInt) z.2.1, .own (rT rInt) s4.1, .cl rInt s4.2, .unk, .unk]) (x1, x2) PassesOwn.never rfl (xi_range1 T.b_range (xg_meth no_Book_kids T.cl_Book G_Book_kids hr (by decide) (xp_var 0 rfl) (xa_cons (xp_ix ix_tup os_ixT (xp_var 1 rfl) xp_int) xa_nil))) (xg_name 4 S.nd)
 (fun x5 s4 =>
 xs_cons (xt_set 5 (xg_call G_end_of hr (by decide) (xa_cons (xp_var 0 rfl) (xa_cons (xp_var 1 rfl) (xa_cons (xp_var 3 rfl) xa_nil)))) S.nd) (fun x8 =>
 xs_cons (xt_app 2 rfl (xp_sliceT (xp_var 1 rfl) (xo_some (xp_var 3 rfl)) (xo_some (xp_var 5 rfl))) (hpe := (fun te h => ps_expr (pe_bm PySem.F.plainAttrs_list PySem.F.slot_list_append PySem.F.type_list_append mt_append (pe_var (i := 2) rfl (by first | exact Or.inl rfl | exact Or.inr (Or.inl rfl) | exact Or.inr (Or.inr rfl))) (pa_cons h pa_nil))))) (fun x9 =>
 xs_cons (xt_set 3 (xp_var 5 rfl) S.nd) (fun x10 =>
 xs_nil (x9, x10) ⟨.inr rfl, .inr rfl, .inr rfl, .inr rfl, .inl rfl, .inl rfl, trivial⟩)))) ⟨.inr rfl, .inr rfl, .inr rfl, .inr rfl, .inl rfl, .inl rfl, trivial⟩) (fun s4 =>
 xs_retXO (ba := none) 2 trivial rfl)))) (fun _ _ h => by exact h)
def W_kids_of (a_book : M_Book) (a_tree : (List Int)) (P : (List (List Int)) → Prop) : Prop :=
 W_check_tree a_book a_tree fun r2 => W_kids_in a_book a_tree fun r1 => P r1
abbrev s_kids_of : Stmt := topS 11
abbrev N_kids_of : List Str := ["book", "tree"]
theorem sc_kids_of : FnScope ["book", "tree"] ["book", "tree"] (defScope s_kids_of) := ⟨rfl, rfl, rfl, by decide +kernel, rfl, by decide +kernel, by decide +kernel⟩
abbrev ps_kids_of : List Str := ["book", "tree"]
abbrev sp_kids_of (C_Book : Addr) : Sp := spC (rsc (r_Book C_Book) (rsc (rT rInt) rs0)).sps (fun z P => W_kids_of z.1 z.2.1 P) (rrn (rT rInt))
theorem ok_kids_of {P : Program} {w : World} {K : PySem.W.Frag} {mg : Str → Option Value} {base : Heap} {C_Book : Addr} {f : Addr} {fd : FuncData} (F : Fun K "kids_of" "kids_of" s_kids_of f fd) (T : Txt K mg C_Book) (G_check_tree : Glob P w K mg base "check_tree" 4 ps_check_tree (sp_check_tree C_Book)) (G_kids_in : Glob P w K mg base "kids_in" 3 ps_kids_in (sp_kids_in C_Book)) : FnOk P w K mg base CX0 5 f fd ps_kids_of (sp_kids_of C_Book) :=
  have S := sc_kids_of
  fn_C (n := 0) F S (fun _ => rfl) rfl (rnx none (rT rInt)) (fun _ _ _ h => h.2) (fun cdv A outer s H E hr z =>
 xs_cons (xt_expr (xg_call G_check_tree hr (by decide) (xa_cons (xp_var 0 rfl) (xa_cons (xp_var 1 rfl) xa_nil)))) (fun _ =>
 xs_retXN (ba := none) trivial (xg_callN G_kids_in hr (by decide) (xa_cons (xp_var 0 rfl) (xa_cons (xp_var 1 rfl) xa_nil))))) (fun _ _ h => by exact h)
def W_height (a_book : M_Book) (a_tree : (List Int)) (P : Int → Prop) : Prop :=
 W_check_tree a_book a_tree fun r17 => (fun x1 : (List Int) => forW a_tree.reverse (x1) (fun x3 s2 nx4 =>
 (fun x6 : Int => W_Book_kids a_book x3 fun r15 => RgOk r15 ∧ forW (rangeL 0 r15.toNat) (s2, x6) (fun x8 s7 nx9 =>
 ∃ ys12 y13, s7.1 = ys12 ++ [y13] ∧ (fun x11 : Int × List Int => nx9 (x11.2, x11.1)) ((if y13 > s7.2 then y13 else s7.2), ys12)) (fun s7 =>
 s7.1.length < sizeLine ∧ (fun x14 : List Int => nx4 (x14)) (s7.1 ++ [(s7.2 + (1 : Int))]))) (0 : Int)) (fun s2 =>
 ∃ y16, atI s2 (0 : Int) = some y16 ∧ P y16)) ([] : List Int)
abbrev s_height : Stmt := topS 12
abbrev N_height : List Str := ["book", "tree", "stack", "sign", "tall", "turn"]
theorem sc_height : FnScope ["book", "tree", "stack", "sign", "tall", "turn"] ["book", "tree"] (defScope s_height) := ⟨rfl, rfl, rfl, by decide +kernel, rfl, by decide +kernel, by decide +kernel⟩
abbrev ps_height : List Str := ["book", "tree"]
abbrev sp_height (C_Book : Addr) : Sp := spC (rsc (r_Book C_Book) (rsc (rT rInt) rs0)).sps (fun z P => W_height z.1 z.2.1 P) (rrc rInt)
theorem ok_height {P : Program} {w : World} {K : PySem.W.Frag} {mg : Str → Option Value} {base : Heap} {C_Book : Addr} {f : Addr} {fd : FuncData} (F : Fun K "height" "height" s_height f fd) (T : Txt K mg C_Book) (G_Book_kids : MethG P w K mg base C_Book "kids" 1 ps_Book_kids (sp_Book_kids C_Book)) (G_check_tree : Glob P w K mg base "check_tree" 4 ps_check_tree (sp_check_tree C_Book)) : FnOk P w K mg base CX0 5 f fd ps_height (sp_height C_Book) :=
  have S := sc_height
  fn_C (n := 4) F S (fun _ => rfl) rfl (rcx none rInt) (fun _ _ _ h => h.2) (fun cdv A outer s H E hr z =>
 xs_cons (xt_expr (xg_call G_check_tree hr (by decide) (xa_cons (xp_var 0 rfl) (xa_cons (xp_var 1 rfl) xa_nil)))) (fun _ =>
 xs_cons (xt_setN 2 (xn_lst (r := rInt) xh_nil) (show 2 < 6 from by decide) S.nd) (fun x1 =>
 xs_cons (xt_for (Γs := fun s2 : ((List Int)) => [.cl (r_Book C_Book) z.1, .cl (rT rInt) z.2.1, .own rInt s2, .unk, .unk, .unk]) (x1) PassesOwn.never rfl (xi_tup (xp_revT (xp_var 1 rfl))) (xg_name 3 S.nd)
 (fun x3 s2 =>
 xs_cons (xt_set 4 xp_int S.nd) (fun x6 =>
 xs_cons (xt_for (Γs := fun s7 : ((List Int) × Int) => [.cl (r_Book C_Book) z.1, .cl (rT rInt) z.2.1, .own rInt s7.1, .cl rInt x3, .cl rInt s7.2, .unk]) (s2, x6) PassesOwn.never rfl (xi_range1 T.b_range (xg_meth no_Book_kids T.cl_Book G_Book_kids hr (by decide) (xp_var 0 rfl) (xa_cons (xp_var 3 rfl) xa_nil))) (xg_name 5 S.nd)
 (fun x8 s7 =>
 xs_cons (xt_setQ 4 (xq_blt2 (call_max2 rfl) cs_max2 (by with_unfolding_all rfl) T.b_max (xp_var 4 rfl) (xq_pop 2 rfl)) S.nd) (fun x11 =>
 xs_nil (x11.2, x11.1) ⟨.inr rfl, .inr rfl, .inr rfl, .inr rfl, .inr rfl, .inl rfl, trivial⟩)) ⟨.inr rfl, .inr rfl, .inr rfl, .inr rfl, .inr rfl, .inl rfl, trivial⟩) (fun s7 =>
 xs_cons (xt_app 2 rfl (xp_op op_add os_add (xp_var 4 rfl) xp_int) (hpe := (fun te h => ps_expr (pe_bm PySem.F.plainAttrs_list PySem.F.slot_list_append PySem.F.type_list_append mt_append (pe_var (i := 2) rfl (by first | exact Or.inl rfl | exact Or.inr (Or.inl rfl) | exact Or.inr (Or.inr rfl))) (pa_cons h pa_nil))))) (fun x14 =>
 xs_nil (x14) ⟨.inr rfl, .inr rfl, .inr rfl, .inl rfl, .inl rfl, .inl rfl, trivial⟩)))) ⟨.inr rfl, .inr rfl, .inr rfl, .inl rfl, .inl rfl, .inl rfl, trivial⟩) (fun s2 =>
 xs_retX (ba := none) trivial (xp_ixL (xb_own 2 rfl) xp_int))))) (fun _ _ h => by exact h)
def W_rows_in (a_book : M_Book) (a_row : (List Int)) (P : (List (List Int)) → Prop) : Prop :=
 (fun x1 : (List (List Int)) => RgOk (a_row.length : Int) ∧ forW (rangeL 0 (a_row.length : Int).toNat) (x1) (fun x3 s2 nx4 =>
 W_end_of a_book a_row x3 fun r7 => s2.length < sizeLine ∧ (fun x6 : List (List Int) => nx4 (x6)) (s2 ++ [(cutL a_row (some x3) (some r7))])) (fun s2 =>
 P s2)) ([] : List (List Int))
abbrev s_rows_in : Stmt := topS 13
abbrev N_rows_in : List Str := ["book", "row", "found", "start"]
theorem sc_rows_in : FnScope ["book", "row", "found", "start"] ["book", "row"] (defScope s_rows_in) := ⟨rfl, rfl, rfl, by decide +kernel, rfl, by decide +kernel, by decide +kernel⟩
abbrev ps_rows_in : List Str := ["book", "row"]
abbrev sp_rows_in (C_Book : Addr) : Sp := spC (rsc (r_Book C_Book) (rsc (rT rInt) rs0)).sps (fun z P => W_rows_in z.1 z.2.1 P) (rrn (rT rInt))
theorem ok_rows_in {P : Program} {w : World} {K : PySem.W.Frag} {mg : Str → Option Value} {base : Heap} {C_Book : Addr} {f : Addr} {fd : FuncData} (F : Fun K "rows_in" "rows_in" s_rows_in f fd) (T : Txt K mg C_Book) (G_end_of : Glob P w K mg base "end_of" 2 ps_end_of (sp_end_of C_Book)) : FnOk P w K mg base CX0 3 f fd ps_rows_in (sp_rows_in C_Book) :=
  have S := sc_rows_in
  fn_C (n := 2) F S (fun _ => rfl) rfl (rnx none (rT rInt)) (fun _ _ _ h => h.2) (fun cdv A outer s H E hr z =>
 xs_cons (xt_setN 2 (xn_lst (r := (rT rInt)) xh_nil) (show 2 < 4 from by decide) S.nd) (fun x1 =>
 xs_cons (xt_for (Γs := fun s2 : ((List (List Int))) => [.cl (r_Book C_Book) z.1, .cl (rT rInt) z.2.1, .own (rT rInt) s2, .unk]) (x1) PassesOwn.never rfl (xi_range1 T.b_range (xp_blt call_len_seq cs_lenT PySem.boot_len T.b_len (xa_cons (xp_var 1 rfl) xa_nil))) (xg_name 3 S.nd)
 (fun x3 s2 =>
 xs_cons (xt_app 2 rfl (xp_sliceT (xp_var 1 rfl) (xo_some (xp_var 3 rfl)) (xo_some (xg_call G_end_of hr (by decide) (xa_cons (xp_var 0 rfl) (xa_cons (xp_var 1 rfl) (xa_cons (xp_var 3 rfl) xa_nil)))))) (hpe := (fun te h => ps_expr (pe_bm PySem.F.plainAttrs_list PySem.F.slot_list_append PySem.F.type_list_append mt_append (pe_var (i := 2) rfl (by first | exact Or.inl rfl | exact Or.inr (Or.inl rfl) | exact Or.inr (Or.inr rfl))) (pa_cons h pa_nil))))) (fun x6 =>
 xs_nil (x6) ⟨.inr rfl, .inr rfl, .inr rfl, .inl rfl, trivial⟩)) ⟨.inr rfl, .inr rfl, .inr rfl, .inl rfl, trivial⟩) (fun s2 =>
 xs_retXO (ba := none) 2 trivial rfl))) (fun _ _ h => by exact h)
def W_key_of (a_book : M_Book) (a_row : (List Int)) (P : (List (Int × Int)) → Prop) : Prop :=
 (fun x1 : (List Int) => (fun x2 : (List (Int × Int)) => forW a_row.reverse (x1, x2) (fun x4 s3 nx5 =>
 (fun x7 : Int => W_Book_kids a_book x4 fun r17 => RgOk r17 ∧ forW (rangeL 0 r17.toNat) (s3.1, x7) (fun x9 s8 nx10 =>
 ∃ ys13 y14, s8.1 = ys13 ++ [y14] ∧ (fun x12 : Int × List Int => nx10 (x12.2, x12.1)) ((s8.2 + y14), ys13)) (fun s8 =>
 s8.1.length < sizeLine ∧ (fun x15 : List Int => s3.2.length < sizeLine ∧ (fun x16 : List (Int × Int) => nx5 (x15, x16)) (s3.2 ++ [(s8.2, x4)])) (s8.1 ++ [s8.2]))) (1 : Int)) (fun s3 =>
 P s3.2.reverse)) ([] : List (Int × Int))) ([] : List Int)
abbrev s_key_of : Stmt := topS 14
abbrev N_key_of : List Str := ["book", "row", "stack", "found", "sign", "size", "turn"]
theorem sc_key_of : FnScope ["book", "row", "stack", "found", "sign", "size", "turn"] ["book", "row"] (defScope s_key_of) := ⟨rfl, rfl, rfl, by decide +kernel, rfl, by decide +kernel, by decide +kernel⟩
abbrev ps_key_of : List Str := ["book", "row"]
abbrev sp_key_of (C_Book : Addr) : Sp := spC (rsc (r_Book C_Book) (rsc (rT rInt) rs0)).sps (fun z P => W_key_of z.1 z.2.1 P) (rrc (rT (rP rInt rInt)))
theorem ok_key_of {P : Program} {w : World} {K : PySem.W.Frag} {mg : Str → Option Value} {base : Heap} {C_Book : Addr} {f : Addr} {fd : FuncData} (F : Fun K "key_of" "key_of" s_key_of f fd) (T : Txt K mg C_Book) (G_Book_kids : MethG P w K mg base C_Book "kids" 1 ps_Book_kids (sp_Book_kids C_Book)) : FnOk P w K mg base CX0 2 f fd ps_key_of (sp_key_of C_Book) :=
  have S := sc_key_of
  fn_C (n := 5) F S (fun _ => rfl) rfl (rcx none (rT (rP rInt rInt))) (fun _ _ _ h => h.2) (fun cdv A outer s H E hr z =>
 xs_cons (xt_setN 2 (xn_lst (r := rInt) xh_nil) (show 2 < 7 from by decide) S.nd) (fun x1 =>
 xs_cons (xt_setN 3 (xn_lst (r := (rP rInt rInt)) xh_nil) (show 3 < 7 from by decide) S.nd) (fun x2 =>
 xs_cons (xt_for (Γs := fun s3 : ((List Int) × (List (Int × Int))) => [.cl (r_Book C_Book) z.1, .cl (rT rInt) z.2.1, .own rInt s3.1, .own (rP rInt rInt) s3.2, .unk, .unk, .unk]) (x1, x2) PassesOwn.never rfl (xi_tup (xp_revT (xp_var 1 rfl))) (xg_name 4 S.nd)
 (fun x4 s3 =>
 xs_cons (xt_set 5 xp_int S.nd) (fun x7 =>
 xs_cons (xt_for (Γs := fun s8 : ((List Int) × Int) => [.cl (r_Book C_Book) z.1, .cl (rT rInt) z.2.1, .own rInt s8.1, .own (rP rInt rInt) s3.2, .cl rInt x4, .cl rInt s8.2, .unk]) (s3.1, x7) PassesOwn.never rfl (xi_range1 T.b_range (xg_meth no_Book_kids T.cl_Book G_Book_kids hr (by decide) (xp_var 0 rfl) (xa_cons (xp_var 4 rfl) xa_nil))) (xg_name 6 S.nd)
 (fun x9 s8 =>
 xs_cons (xt_setQ 5 (xq_op op_add os_add (xp_var 5 rfl) (xq_pop 2 rfl)) S.nd) (fun x12 =>
 xs_nil (x12.2, x12.1) ⟨.inr rfl, .inr rfl, .inr rfl, .inr rfl, .inr rfl, .inr rfl, .inl rfl, trivial⟩)) ⟨.inr rfl, .inr rfl, .inr rfl, .inr rfl, .inr rfl, .inr rfl, .inl rfl, trivial⟩) (fun s8 =>
 xs_cons (xt_app 2 rfl (xp_var 5 rfl) (hpe := (fun te h => ps_expr (pe_bm PySem.F.plainAttrs_list PySem.F.slot_list_append PySem.F.type_list_append mt_append (pe_var (i := 2) rfl (by first | exact Or.inl rfl | exact Or.inr (Or.inl rfl) | exact Or.inr (Or.inr rfl))) (pa_cons h pa_nil))))) (fun x15 =>
 xs_cons (xt_app 3 rfl (xp_tup2 (xp_var 5 rfl) (xp_var 4 rfl)) (hpe := (fun te h => ps_expr (pe_bm PySem.F.plainAttrs_list PySem.F.slot_list_append PySem.F.type_list_append mt_append (pe_var (i := 3) rfl (by first | exact Or.inl rfl | exact Or.inr (Or.inl rfl) | exact Or.inr (Or.inr rfl))) (pa_cons h pa_nil))))) (fun x16 =>
 xs_nil (x15, x16) ⟨.inr rfl, .inr rfl, .inr rfl, .inr rfl, .inl rfl, .inl rfl, .inl rfl, trivial⟩))))) ⟨.inr rfl, .inr rfl, .inr rfl, .inr rfl, .inl rfl, .inl rfl, .inl rfl, trivial⟩) (fun s3 =>
 xs_retX (ba := none) trivial (xp_tupleL T.b_tuple (xb_new (xn_revL (xb_own 3 rfl)))))))) (fun _ _ h => by exact h)
def W_parts (a_book : M_Book) (a_tree : (List Int)) (P : (List (List Int)) → Prop) : Prop :=
 W_check_tree a_book a_tree fun r14 => (fun x1 : (List ((List (Int × Int)) × (List Int))) => W_rows_in a_book a_tree fun r13 => forW r13 (x1) (fun x3 s2 nx4 =>
 W_key_of a_book x3 fun r7 => s2.length < sizeLine ∧ (fun x6 : (List ((List (Int × Int)) × (List Int))) => nx4 (x6)) (putA s2 r7 x3)) (fun s2 =>
 PySem.W.Sortable (s2.map fun z => (dT (dP dInt dInt)).d z.1) ∧ ∀ ys11 : (List (List (Int × Int))), ys11.Perm (s2.map (·.1)) → ys11.Pairwise (fun x y => (oT (oP oInt oInt)).lt y x = false) → ys11.length ≤ sizeLine ∧ lcW ys11 (fun x9 nx10 => ∃ y12, lookA s2 x9 = some y12 ∧ nx10 (some y12)) [] fun x9l => P x9l)) []
abbrev s_parts : Stmt := topS 15
abbrev N_parts : List Str := ["book", "tree", "found", "row", "key"]
theorem sc_parts : FnScope ["book", "tree", "found", "row", "key"] ["book", "tree"] (defScope s_parts) := ⟨rfl, rfl, rfl, by decide +kernel, rfl, by decide +kernel, by decide +kernel⟩
abbrev ps_parts : List Str := ["book", "tree"]
abbrev sp_parts (C_Book : Addr) : Sp := spC (rsc (r_Book C_Book) (rsc (rT rInt) rs0)).sps (fun z P => W_parts z.1 z.2.1 P) (rrn (rT rInt))
theorem ok_parts {P : Program} {w : World} {K : PySem.W.Frag} {mg : Str → Option Value} {base : Heap} {C_Book : Addr} {f : Addr} {fd : FuncData} (F : Fun K "parts" "parts" s_parts f fd) (T : Txt K mg C_Book) (G_check_tree : Glob P w K mg base "check_tree" 4 ps_check_tree (sp_check_tree C_Book)) (G_key_of : Glob P w K mg base "key_of" 2 ps_key_of (sp_key_of C_Book)) (G_rows_in : Glob P w K mg base "rows_in" 3 ps_rows_in (sp_rows_in C_Book)) : FnOk P w K mg base CX0 5 f fd ps_parts (sp_parts C_Book) :=
  have S := sc_parts
  fn_C (n := 3) F S (fun _ => rfl) rfl (rnx none (rT rInt)) (fun _ _ _ h => h.2) (fun cdv A outer s H E hr z =>
 xs_cons (xt_expr (xg_call G_check_tree hr (by decide) (xa_cons (xp_var 0 rfl) (xa_cons (xp_var 1 rfl) xa_nil)))) (fun _ =>
 xs_cons (xt_dnew (dkoN (knT (knP knInt knInt)) (by decide) isR_T hr.units) (rT rInt) 2 (show 2 < 5 from by decide) S.nd) (fun x1 =>
 xs_cons (xt_for (Γs := fun s2 : ((List ((List (Int × Int)) × (List Int)))) => [.cl (r_Book C_Book) z.1, .cl (rT rInt) z.2.1, .gen (gDic (dkN P w (knT (knP knInt knInt))) (rT rInt) s2), .unk, .unk]) (x1) PassesOwn.never rfl (xi_list (XN.p (xg_callN G_rows_in hr (by decide) (xa_cons (xp_var 0 rfl) (xa_cons (xp_var 1 rfl) xa_nil))))) (xg_name 3 S.nd)
 (fun x3 s2 =>
 xs_cons (xt_dput (dkoN (knT (knP knInt knInt)) (by decide) isR_T hr.units) 2 rfl (xp_var 3 rfl) (xg_call G_key_of hr (by decide) (xa_cons (xp_var 0 rfl) (xa_cons (xp_var 3 rfl) xa_nil)))) (fun x6 =>
 xs_nil (x6) ⟨.inr rfl, .inr rfl, .inr rfl, .inl rfl, .inl rfl, trivial⟩)) ⟨.inr rfl, .inr rfl, .inr rfl, .inl rfl, .inl rfl, trivial⟩) (fun s2 =>
 xs_retXN (ba := none) trivial (xn_lockD (dkzN (knT (knP knInt knInt)) (by decide) isR_T hr.units rfl) 2 rfl (feB (And.intro trivial (And.intro trivial (And.intro trivial (And.intro trivial trivial))))) (nf_T nf_int) (fun la8 => (xn_lc (xlc_1 (x := "key") 4 (xil (xi_list (XN.p (xn_sortN (k := (knT (knP knInt knInt))) (D := (dT (dP dInt dInt))) (oT (oP oInt oInt)) (by decide) hr.units rfl T.b_sorted (xp_dfa (xp_var 2 rfl)))))) rfl (fun x9 _ _ _ _ _ => (xp_ix (dkzN (knT (knP knInt knInt)) (by decide) isR_T hr.units rfl).hget (os_getF (dkzN (knT (knP knInt knInt)) (by decide) isR_T hr.units rfl)) (xp_dfa (xp_var 2 rfl)) (xp_var 4 rfl)))) rfl S.nd (blkOk_by (N := N_parts) (sc := defScope s_parts) (by decide +kernel)) (fun _ _ _ _ _ => pg_name (i := 4) S.nd rfl (by first | exact .inl rfl | exact .inr rfl))))))))) (fun _ _ h => by exact h)
def W_places_in (a_book : M_Book) (a_row : (List Int)) (P : (List ((List Int) × Int)) → Prop) : Prop :=
 (fun x1 : (List ((List Int) × Int)) => (fun x2 : Int => whileW (fun s3 P6 => P6 (decide (s3.2 < (s3.1.length : Int)))) (fun s3 nx4 =>
 ∃ y8, atI s3.1 s3.2 = some y8 ∧ (fun x7 : ((List Int) × Int) => (fun x9 : Int => (fun x10 : Int => ∃ y11, atI a_row x7.2 = some y11 ∧ W_Book_kids a_book y11 fun r19 => RgOk r19 ∧ forW (rangeL 0 r19.toNat) (s3.1, x10) (fun x13 s12 nx14 =>
 x7.1.length + ([x13] : List Int).length ≤ sizeLine ∧ s12.1.length < sizeLine ∧ (fun x16 : List ((List Int) × Int) => W_end_of a_book a_row s12.2 fun r18 => (fun x17 : Int => nx14 (x16, x17)) r18) (s12.1 ++ [((x7.1 ++ ([x13] : List Int)), s12.2)])) (fun s12 =>
 nx4 (s12.1, x9))) (x7.2 + (1 : Int))) (s3.2 + (1 : Int))) y8) (x1, x2) (fun s3 =>
 P s3.1)) (0 : Int)) ([(([] : List Int), (0 : Int))] : List ((List Int) × Int))
abbrev s_places_in : Stmt := topS 16
abbrev N_places_in : List Str := ["book", "row", "found", "spot", "stop", "kid", "place", "start"]
theorem sc_places_in : FnScope ["book", "row", "found", "spot", "stop", "kid", "place", "start"] ["book", "row"] (defScope s_places_in) := ⟨rfl, rfl, rfl, by decide +kernel, rfl, by decide +kernel, by decide +kernel⟩
abbrev ps_places_in : List Str := ["book", "row"]
abbrev sp_places_in (C_Book : Addr) : Sp := spC (rsc (r_Book C_Book) (rsc (rT rInt) rs0)).sps (fun z P => W_places_in z.1 z.2.1 P) (rrn (rP (rT rInt) rInt))
theorem ok_places_in {P : Program} {w : World} {K : PySem.W.Frag} {mg : Str → Option Value} {base : Heap} {C_Book : Addr} {f : Addr} {fd : FuncData} (F : Fun K "places_in" "places_in" s_places_in f fd) (T : Txt K mg C_Book) (G_Book_kids : MethG P w K mg base C_Book "kids" 1 ps_Book_kids (sp_Book_kids C_Book)) (G_end_of : Glob P w K mg base "end_of" 2 ps_end_of (sp_end_of C_Book)) : FnOk P w K mg base CX0 3 f fd ps_places_in (sp_places_in C_Book) :=
  have S := sc_places_in
  fn_C (n := 6) F S (fun _ => rfl) rfl (rnx none (rP (rT rInt) rInt)) (fun _ _ _ h => h.2) (fun cdv A outer s H E hr z =>
 xs_cons (xt_setN 2 (xn_lst (r := (rP (rT rInt) rInt)) (xh_cons (xp_tup2 (xp_tupH (r := rInt) xh_nil) xp_int) xh_nil)) (show 2 < 8 from by decide) S.nd) (fun x1 =>
 xs_cons (xt_set 3 xp_int S.nd) (fun x2 =>
 xs_cons (xt_while (Γs := fun s3 : ((List ((List Int) × Int)) × Int) => [.cl (r_Book C_Book) z.1, .cl (rT rInt) z.2.1, .own (rP (rT rInt) rInt) s3.1, .cl rInt s3.2, .unk, .unk, .unk, .unk]) (x1, x2) PassesOwn.never (fun s3 => (xt_cmp op_lt os_lt (nomark _) (xp_var 3 rfl) (xp_lenL T.b_len (xb_own 2 rfl))))
 (fun s3 =>
 xs_cons (xt_unp (xp_ixL (xb_own 2 rfl) (xp_var 3 rfl)) (xg_tup2 6 7 S.nd (pg_tup rfl (pgs_cons (pg_name (i := 6) S.nd rfl (by first | exact .inl rfl | exact .inr rfl)) (pgs_cons (pg_name (i := 7) S.nd rfl (by first | exact .inl rfl | exact .inr rfl)) pgs_nil))))) (fun x7 =>
 xs_cons (xt_set 3 (xp_op op_add os_add (xp_var 3 rfl) xp_int) S.nd) (fun x9 =>
 xs_cons (xt_set 4 (xp_op op_add os_add (xp_var 7 rfl) xp_int) S.nd) (fun x10 =>
 xs_cons (xt_for (Γs := fun s12 : ((List ((List Int) × Int)) × Int) => [.cl (r_Book C_Book) z.1, .cl (rT rInt) z.2.1, .own (rP (rT rInt) rInt) s12.1, .cl rInt x9, .cl rInt s12.2, .unk, .cl (rT rInt) x7.1, .cl rInt x7.2]) (s3.1, x10) PassesOwn.never rfl (xi_range1 T.b_range (xg_meth no_Book_kids T.cl_Book G_Book_kids hr (by decide) (xp_var 0 rfl) (xa_cons (xp_ix ix_tup os_ixT (xp_var 1 rfl) (xp_var 7 rfl)) xa_nil))) (xg_name 5 S.nd)
 (fun x13 s12 =>
 xs_cons (xt_app 2 rfl (xp_tup2 (xp_op op_catA os_catA (xp_var 6 rfl) (xp_tupH (r := rInt) (xh_cons (xp_var 5 rfl) xh_nil))) (xp_var 4 rfl)) (hpe := (fun te h => ps_expr (pe_bm PySem.F.plainAttrs_list PySem.F.slot_list_append PySem.F.type_list_append mt_append (pe_var (i := 2) rfl (by first | exact Or.inl rfl | exact Or.inr (Or.inl rfl) | exact Or.inr (Or.inr rfl))) (pa_cons h pa_nil))))) (fun x16 =>
 xs_cons (xt_set 4 (xg_call G_end_of hr (by decide) (xa_cons (xp_var 0 rfl) (xa_cons (xp_var 1 rfl) (xa_cons (xp_var 4 rfl) xa_nil)))) S.nd) (fun x17 =>
 xs_nil (x16, x17) ⟨.inr rfl, .inr rfl, .inr rfl, .inr rfl, .inr rfl, .inl rfl, .inr rfl, .inr rfl, trivial⟩))) ⟨.inr rfl, .inr rfl, .inr rfl, .inr rfl, .inr rfl, .inl rfl, .inr rfl, .inr rfl, trivial⟩) (fun s12 =>
 xs_nil (s12.1, x9) ⟨.inr rfl, .inr rfl, .inr rfl, .inr rfl, .inl rfl, .inl rfl, .inl rfl, .inl rfl, trivial⟩))))) ⟨.inr rfl, .inr rfl, .inr rfl, .inr rfl, .inl rfl, .inl rfl, .inl rfl, .inl rfl, trivial⟩) (fun s3 =>
 xs_retXO (ba := none) 2 trivial rfl)))) (fun _ _ h => by exact h)
def W_places (a_book : M_Book) (a_tree : (List Int)) (P : (List (List Int)) → Prop) : Prop :=
 W_check_tree a_book a_tree fun r5 => W_places_in a_book a_tree fun r4 => r4.length ≤ sizeLine ∧ lcW r4 (fun x2 nx3 => nx3 (some x2.1)) [] fun x2l => (PySem.W.Sortable (x2l.map (dT dInt).d) ∨ Sort0 (x2l.map (dT dInt).d)) ∧ ∀ ys1 : (List (List Int)), ys1.Perm x2l → ys1.Pairwise (fun x y => (oT oInt).lt y x = false) → P ys1
abbrev s_places : Stmt := topS 17
abbrev N_places : List Str := ["book", "tree", "place", "start"]
theorem sc_places : FnScope ["book", "tree", "place", "start"] ["book", "tree"] (defScope s_places) := ⟨rfl, rfl, rfl, by decide +kernel, rfl, by decide +kernel, by decide +kernel⟩
abbrev ps_places : List Str := ["book", "tree"]
abbrev sp_places (C_Book : Addr) : Sp := spC (rsc (r_Book C_Book) (rsc (rT rInt) rs0)).sps (fun z P => W_places z.1 z.2.1 P) (rrn (rT rInt))
theorem ok_places {P : Program} {w : World} {K : PySem.W.Frag} {mg : Str → Option Value} {base : Heap} {C_Book : Addr} {f : Addr} {fd : FuncData} (F : Fun K "places" "places" s_places f fd) (T : Txt K mg C_Book) (G_check_tree : Glob P w K mg base "check_tree" 4 ps_check_tree (sp_check_tree C_Book)) (G_places_in : Glob P w K mg base "places_in" 3 ps_places_in (sp_places_in C_Book)) : FnOk P w K mg base CX0 5 f fd ps_places (sp_places C_Book) :=
  have S := sc_places
  fn_C (n := 2) F S (fun _ => rfl) rfl (rnx none (rT rInt)) (fun _ _ _ h => h.2) (fun cdv A outer s H E hr z =>
 xs_cons (xt_expr (xg_call G_check_tree hr (by decide) (xa_cons (xp_var 0 rfl) (xa_cons (xp_var 1 rfl) xa_nil)))) (fun _ =>
 xs_retXN (ba := none) trivial (xn_sort0 (r := (rT rInt)) (D := (dT dInt)) (oT oInt) (by decide) hr.units T.b_sorted (xb_new (xn_lc (xlc_2 (x := "place") (y := "start") 2 3 (by decide) (xil (xi_list (XN.p (xg_callN G_places_in hr (by decide) (xa_cons (xp_var 0 rfl) (xa_cons (xp_var 1 rfl) xa_nil)))))) rfl rfl (fun x2 _ _ _ _ _ => (xp_var 2 rfl))) rfl S.nd (blkOk_by (N := N_places) (sc := defScope s_places) (by decide +kernel)) (fun _ _ _ _ _ => (pg_tup rfl (pgs_cons (pg_name (i := 2) S.nd rfl (by first | exact .inl rfl | exact .inr rfl)) (pgs_cons (pg_name (i := 3) S.nd rfl (by first | exact .inl rfl | exact .inr rfl)) pgs_nil))))))))) (fun _ _ h => by exact h)
def W__law_box (a__law_script : (List Int)) (a__law_k : Int) (P : (List Int) → Prop) : Prop :=
 CMulX (7919 : Int) a__law_k ∧ (fun x1 : Int => (fun nx5 : (Int) → Prop => if (decide (a__law_k < (a__law_script.length : Int))) = true then ∃ y7, atI a__law_script a__law_k = some y7 ∧ (fun x6 : Int => nx5 (x6)) y7 else nx5 (x1)) (fun s4 =>
 0 < (2 : Int) ∧ if (decide ((s4 % (2 : Int)) = (0 : Int))) = true then CDiv s4 (2 : Int) ∧ 0 < (2147483647 : Int) ∧ P ([(s4 / (2 : Int)), ((if s4 < 0 then -s4 else s4) % (2147483647 : Int))] : List Int) else
 (fun x8 : Int => RgOk (16 : Int) ∧ forW (rangeL 0 (16 : Int).toNat) (x8) (fun x10 s9 nx11 =>
 0 < (2147483647 : Int) ∧ CMulX (s4 % (2147483647 : Int)) (48271 : Int) ∧ CMulX (7919 : Int) x10 ∧ 0 < (2147483647 : Int) ∧ (fun x13 : Int => CMulX x13 x13 ∧ 0 < (2147483629 : Int) ∧ (fun x14 : Int => CMulX s9 (2147483647 : Int) ∧ CMulX x14 (x14 + (13 : Int)) ∧ 0 < (2147483647 : Int) ∧ (fun x15 : Int => nx11 (x15)) ((s9 * (2147483647 : Int)) + ((x14 * (x14 + (13 : Int))) % (2147483647 : Int)))) ((x13 * x13) % (2147483629 : Int))) (((((s4 % (2147483647 : Int)) * (48271 : Int)) + ((7919 : Int) * x10)) + (1 : Int)) % (2147483647 : Int))) (fun s9 =>
 0 < (2147483647 : Int) ∧ P ([s9, ((if s4 < 0 then -s4 else s4) % (2147483647 : Int))] : List Int))) (0 : Int))) (((7919 : Int) * a__law_k) + (13 : Int))
abbrev s__law_box : Stmt := topS 25
abbrev N__law_box : List Str := ["_law_script", "_law_k", "_law_here", "_law_number", "_law_j", "_law_piece"]
theorem sc__law_box : FnScope ["_law_script", "_law_k", "_law_here", "_law_number", "_law_j", "_law_piece"] ["_law_script", "_law_k"] (defScope s__law_box) := ⟨rfl, rfl, rfl, by decide +kernel, rfl, by decide +kernel, by decide +kernel⟩
abbrev ps__law_box : List Str := ["_law_script", "_law_k"]
abbrev sp__law_box (K : PySem.W.Frag)  : Sp := spC (rsc (rLK K) (rsc rInt rs0)).sps (fun z P => W__law_box z.1 z.2.1 P) (rrn rInt)
theorem ok__law_box {P : Program} {w : World} {K : PySem.W.Frag} {mg : Str → Option Value} {base : Heap} {C_Book : Addr} {f : Addr} {fd : FuncData} (F : Fun K "_law_box" "_law_box" s__law_box f fd) (T : Txt K mg C_Book)  : FnOk P w K mg base CX0 1 f fd ps__law_box (sp__law_box K) :=
  have S := sc__law_box
  fn_C (n := 4) F S (fun _ => rfl) rfl (rnx none rInt) (fun _ _ _ h => h.2) (fun cdv A outer s H E hr z =>
 xs_cons (xt_set 2 (xp_op op_add os_add (xp_op op_mulX os_mul xp_int (xp_var 1 rfl)) xp_int) S.nd) (fun x1 =>
 xs_cons (xt_if (Γn := fun s4 : (Int) => [.cl (rLK K) z.1, .cl rInt z.2.1, .cl rInt s4, .unk, .unk, .unk]) (xt_cmp op_lt os_lt (nomark _) (xp_var 1 rfl) (xp_blt call_len_seq cs_lenK PySem.boot_len T.b_len (xa_cons (xp_var 0 rfl) xa_nil))) (xs_cons (xt_set 2 (xp_ix ix_list os_ixK (xp_var 0 rfl) (xp_var 1 rfl)) S.nd) (fun x6 =>
 xs_nil (x6) ⟨.inr rfl, .inr rfl, .inr rfl, .inl rfl, .inl rfl, .inl rfl, trivial⟩)) (xs_nil (x1) ⟨.inr rfl, .inr rfl, .inr rfl, .inl rfl, .inl rfl, .inl rfl, trivial⟩)) (fun s4 =>
 xs_cons (xt_ifx (xt_cmp op_eq (os_eq fInt) (nomark _) (xp_op op_mod os_mod (xp_var 2 rfl) xp_int) xp_int) (xs_retXN (ba := none) trivial (xn_lst (r := rInt) (xh_cons (xp_op op_fdiv os_div (xp_var 2 rfl) xp_int) (xh_cons (xp_op op_mod os_mod (xp_blt call_abs cs_abs (by with_unfolding_all rfl) T.b_abs (xa_cons (xp_var 2 rfl) xa_nil)) xp_int) xh_nil))))) (fun _ =>
 xs_cons (xt_set 3 xp_int S.nd) (fun x8 =>
 xs_cons (xt_for (Γs := fun s9 : (Int) => [.cl (rLK K) z.1, .cl rInt z.2.1, .cl rInt s4, .cl rInt s9, .unk, .unk]) (x8) PassesOwn.never rfl (xi_range1 T.b_range xp_int) (xg_name 4 S.nd)
 (fun x10 s9 =>
 xs_cons (xt_set 5 (xp_op op_mod os_mod (xp_op op_add os_add (xp_op op_add os_add (xp_op op_mulX os_mul (xp_op op_mod os_mod (xp_var 2 rfl) xp_int) xp_int) (xp_op op_mulX os_mul xp_int (xp_var 4 rfl))) xp_int) xp_int) S.nd) (fun x13 =>
 xs_cons (xt_set 5 (xp_op op_mod os_mod (xp_op op_mulX os_mul (xp_var 5 rfl) (xp_var 5 rfl)) xp_int) S.nd) (fun x14 =>
 xs_cons (xt_set 3 (xp_op op_add os_add (xp_op op_mulX os_mul (xp_var 3 rfl) xp_int) (xp_op op_mod os_mod (xp_op op_mulX os_mul (xp_var 5 rfl) (xp_op op_add os_add (xp_var 5 rfl) xp_int)) xp_int)) S.nd) (fun x15 =>
 xs_nil (x15) ⟨.inr rfl, .inr rfl, .inr rfl, .inr rfl, .inl rfl, .inl rfl, trivial⟩)))) ⟨.inr rfl, .inr rfl, .inr rfl, .inr rfl, .inl rfl, .inl rfl, trivial⟩) (fun s9 =>
 xs_retXN (ba := none) trivial (xn_lst (r := rInt) (xh_cons (xp_var 3 rfl) (xh_cons (xp_op op_mod os_mod (xp_blt call_abs cs_abs (by with_unfolding_all rfl) T.b_abs (xa_cons (xp_var 2 rfl) xa_nil)) xp_int) xh_nil))))))))) (fun _ _ h => by exact h)
abbrev s__law_more : Stmt := topS 26
theorem sc__law_more : FnScope ["_law_box_here", "_law_number", "_law_j"] ["_law_box_here"] (defScope s__law_more) := ⟨rfl, rfl, rfl, by decide +kernel, rfl, by decide +kernel, by decide +kernel⟩
theorem ok__law_more {P : Program} {w : World} {K : PySem.W.Frag} {mg : Str → Option Value} {base : Heap} {C_Book : Addr} {f : Addr} {fd : FuncData} (Fn : Fun K "_law_more" "_law_more" s__law_more f fd) (T : Txt K mg C_Book) : FnOk P w K mg base CX0 1 f fd ["_law_box_here"] spMore := by
  have S := sc__law_more
  exact fn_M (n := 2) Fn S rfl (fun cdv A outer s H E hr a x y =>
      xs_cons (xt_set 1 xp_int S.nd) (fun n0 =>
      xs_cons (xt_for (Γs := fun s : Int × List Int => [.ownA a rInt s.2, .cl rInt s.1, .unk]) (n0, [x, y]) PassesOwn.never rfl (xi_range1 T.b_range xp_int) (xg_name 2 S.nd) (fun j s =>
        xs_cons (xt_setIA 0 (xq_p (xp_op op_mod os_mod (xp_op op_add os_add (xp_op op_mulX os_mul (xp_ixA 0 rfl xp_int) xp_int) xp_int) xp_int)) (fun _ => rfl) (fun _ => xp_int)) (fun z =>
        xs_cons (xt_set 1 (xp_op op_add os_add (xp_op op_mulX os_mul (xp_var 1 rfl) xp_int) (xp_op op_mod os_mod (xp_op op_fdiv os_div (xp_ixA 0 rfl xp_int) xp_int) xp_int)) S.nd) (fun n =>
        xs_nil (n, z.2) ⟨.inr rfl, .inr rfl, .inl rfl, trivial⟩))) ⟨.inr rfl, .inr rfl, .inl rfl, trivial⟩) (fun s =>
      xs_retL 0 (fun L => ∃ y', L = [x, y'] ∧ 0 ≤ y' ∧ y' < 2147483647) rfl (xp_var 1 rfl) (fun n v W' e o hh ⟨y', eL, a0, a1⟩ => ⟨e, o, y', by rw [hh, eL]; rfl, a0, a1⟩))))
    (fun a x y y0 y1 => ⟨⟨by decide, by decide⟩, more_plain y0 y1 fun n y' n0 n1 a0 a1 => ⟨⟨y', rfl, a0, a1⟩, n0, n1⟩⟩)

def W__law_take (n : Int) (P : Int → Prop) : Prop := (0 < n ∧ n ≤ 2 ^ 100) ∧ ∀ d : Int, 0 ≤ d → d < n → P d
abbrev ps__law_take : List Str := ["_law_box_here", "_law_count"]
abbrev sp__law_take : Sp := spB (rsc rInt rs0).sps (fun z P => W__law_take z.1 P) (rrc rInt)
abbrev s__law_take : Stmt := topS 27
theorem sc__law_take : FnScope ["_law_box_here", "_law_count", "_law_rest_of", "_law_digit"] ["_law_box_here", "_law_count"] (defScope s__law_take) := ⟨rfl, rfl, rfl, by decide +kernel, rfl, by decide +kernel, by decide +kernel⟩
theorem ok__law_take {P : Program} {w : World} {K : PySem.W.Frag} {mg : Str → Option Value} {base : Heap} {C_Book : Addr} {f : Addr} {fd : FuncData} (Fn : Fun K "_law_take" "_law_take" s__law_take f fd) (T : Txt K mg C_Book) (Gm : Glob P w K mg base "_law_more" 1 ["_law_box_here"] spMore) : FnOk P w K mg base CX0 2 f fd ["_law_box_here", "_law_count"] sp__law_take :=
  have S := sc__law_take
  fn_B (n := 2) Fn S (fun _ => rfl) rfl (fun a => rcx (some a) rInt) (fun _ _ _ _ h => h)
    (fun cdv A outer s H E hr a z => xs_open 0 rfl fun x y =>
      xs_cons (xt_if (Γn := fun s : List Int => [.ownA a rInt s, .cl rInt z.1, .unk, .unk]) (xt_chain op_le os_le op_lt os_lt xp_int (xp_ixA 0 rfl xp_int) (xp_var 1 rfl))
        (xs_cons (xt_setIA 0 (xq_op op_add os_add (xp_ixA 0 rfl xp_int) (xq_op op_mulX os_mul (xp_var 1 rfl) (xq_more 0 rfl Gm hr (by decide)))) (fun _ => rfl) (fun _ => xp_int)) (fun u => xs_nil u.2 ⟨.inr rfl, .inr rfl, .inl rfl, .inl rfl, trivial⟩))
        (xs_nil [x, y] ⟨.inr rfl, .inr rfl, .inl rfl, .inl rfl, trivial⟩)) (fun s =>
      xs_cons (xt_unp (xp_blt call_divmodW cs_divmod (by with_unfolding_all rfl) T.b_divmod (xa_cons (xp_ixA 0 rfl xp_int) (xa_cons (xp_var 1 rfl) xa_nil))) (xg_tup2 2 3 S.nd (pg_tup rfl (pgs_cons (pg_name (i := 2) S.nd rfl (by first | exact .inl rfl | exact .inr rfl)) (pgs_cons (pg_name (i := 3) S.nd rfl (by first | exact .inl rfl | exact .inr rfl)) pgs_nil))))) (fun d =>
      xs_cons (xt_setIA 0 (xq_p (xp_var 2 rfl)) (fun _ => rfl) (fun _ => xp_int)) (fun u =>
      xs_retL 0 (fun L => ∃ x' y', L = [x', y'] ∧ x'.natAbs < 2 ^ boxBits ∧ 0 ≤ y' ∧ y' < 2147483647) rfl (xp_var 3 rfl) (fun n v W' e o hh ⟨x', y', eL, a0, a1, a2⟩ => ⟨⟨o, x', y', by rw [hh, eL]; rfl, a0, a1, a2⟩, e⟩)))))
    (fun a z P h x y hx y0 y1 => take_plain hx y0 y1 h.1.1 h.1.2 h.2)

def W__law_signs  (P : (List (Str × Int)) → Prop) : Prop :=
 (fun x1 : Str × (List (Str × Int)) => W__law_take (6 : Int) fun r35 => RgOk ((1 : Int) + r35) ∧ forW (rangeL 0 ((1 : Int) + r35).toNat) (x1.2) (fun x3 s2 nx4 =>
 W__law_take (3 : Int) fun r18 => RgOk ((1 : Int) + r18) ∧ (rangeL 0 ((1 : Int) + r18).toNat).length ≤ sizeLine ∧ lcW (rangeL 0 ((1 : Int) + r18).toNat) (fun x7 nx8 => W__law_take (26 : Int) fun r19 => x1.1.length ≤ sizeLine ∧ ∃ c9, atI x1.1.cps.toList r19 = some c9 ∧ nx8 (some (⟨#[c9]⟩ : Str))) [] fun x7l => (x7l.map (·.length)).sum + x7l.length * ("" : Str).length ≤ 16777216 ∧ (fun x6 : Str => (fun nx15 : ((List (Str × Int))) → Prop => s2.length ≤ sizeLine ∧ lcW s2 (fun x10 nx11 => nx11 (some x10.1)) [] fun x10l => if (!decide (x6 ∈ x10l)) = true then W__law_take (3 : Int) fun r17 => s2.length < sizeLine ∧ (fun x16 : List (Str × Int) => nx15 (x16)) (s2 ++ [(x6, r17)]) else nx15 (s2)) (fun s14 =>
 nx4 (s14))) (Txt.join ("" : Str) x7l)) (fun s2 =>
 W__law_take (s2.length : Int) fun r34 => (fun x20 : Int => (fun nx29 : ((List (Str × Int))) → Prop => s2.length ≤ sizeLine ∧ lcW s2 (fun x21 nx22 => nx22 (some x21.2)) [] fun x21l => 0 < x21l.length ∧ ∀ m23, m23 ∈ x21l → (∀ y, y ∈ x21l → m23 ≤ y) → if (decide ((0 : Int) < m23)) = true then ∃ y31, atI s2 x20 = some y31 ∧ (0 : Int) = 0 ∧ ∃ j33, ixN s2.length x20 = some j33 ∧ (fun x32 : List (Str × Int) => nx29 (x32)) (s2.set j33 (y31.1, (0 : Int))) else nx29 (s2)) (fun s28 =>
 P s28)) r34)) (("abcdefghijklmnopqrstuvwxyz" : Str), ([] : List (Str × Int)))
abbrev s__law_signs : Stmt := topS 28
abbrev N__law_signs : List Str := ["_law_box_here", "_law_turn", "_law_spot", "_law_letters", "_law_found", "_law_name", "_law_letter", "_law_one", "_law_kids_here"]
theorem sc__law_signs : FnScope ["_law_box_here", "_law_turn", "_law_spot", "_law_letters", "_law_found", "_law_name", "_law_letter", "_law_one", "_law_kids_here"] ["_law_box_here"] (defScope s__law_signs) := ⟨rfl, rfl, rfl, by decide +kernel, rfl, by decide +kernel, by decide +kernel⟩
abbrev ps__law_signs : List Str := ["_law_box_here"]
abbrev sp__law_signs  : Sp := spB rs0.sps (fun z P => W__law_signs  P) (rrn (rP rStr rInt))
theorem ok__law_signs {P : Program} {w : World} {K : PySem.W.Frag} {mg : Str → Option Value} {base : Heap} {C_Book : Addr} {f : Addr} {fd : FuncData} (F : Fun K "_law_signs" "_law_signs" s__law_signs f fd) (T : Txt K mg C_Book) (G__law_take : Glob P w K mg base "_law_take" 2 ps__law_take (sp__law_take )) : FnOk P w K mg base CX0 3 f fd ps__law_signs (sp__law_signs ) :=
  have S := sc__law_signs
  fn_B (n := 8) F S (fun _ => rfl) rfl (fun a => rnx (some a) (rP rStr rInt)) (fun _ _ _ _ h => h) (fun cdv A outer s H E hr a z =>
 xs_cons (xt_parPNc 3 4 xp_str (xn_lst (r := (rP rStr rInt)) xh_nil) rfl S.nd (pg_tup rfl (pgs_cons (pg_name (i := 3) S.nd rfl (by first | exact .inl rfl | exact .inr rfl)) (pgs_cons (pg_name (i := 4) S.nd rfl (by first | exact .inl rfl | exact .inr rfl)) pgs_nil)))) (fun x1 =>
 xs_cons (xt_for (Γs := fun s2 : ((List (Str × Int))) => [.bx a, .unk, .unk, .cl rStr x1.1, .own (rP rStr rInt) s2, .unk, .unk, .unk, .unk]) (x1.2) PassesOwn.never rfl (xi_range1 T.b_range (xp_op op_add os_add xp_int (xg_callB 0 rfl G__law_take hr (by decide) (xa_cons xp_int xa_nil)))) (xg_name 1 S.nd)
 (fun x3 s2 =>
 xs_cons (xt_set 5 (xp_join xp_str (xb_new (xn_lc (xlc_1 (x := "_law_letter") 6 (xil (xi_range1 T.b_range (xp_op op_add os_add xp_int (xg_callB 0 rfl G__law_take hr (by decide) (xa_cons xp_int xa_nil))))) rfl (fun x7 _ _ _ _ _ => (xp_ix ix_str os_ixS (xp_var 3 rfl) (xg_callB 0 rfl G__law_take hr (by decide) (xa_cons xp_int xa_nil))))) rfl S.nd (blkOk_by (N := N__law_signs) (sc := defScope s__law_signs) (by decide +kernel)) (fun _ _ _ _ _ => pg_name (i := 6) S.nd rfl (by first | exact .inl rfl | exact .inr rfl))))) S.nd) (fun x6 =>
 xs_cons (xt_if (Γn := fun s14 : ((List (Str × Int))) => [.bx a, .cl rInt x3, .unk, .cl rStr x1.1, .own (rP rStr rInt) s14, .cl rStr x6, .unk, .unk, .unk]) (xt_ninL fStr (xp_var 5 rfl) (xb_new (xn_lc (xlc_2 (x := "_law_one") (y := "_law_kids_here") 7 8 (by decide) (xil_own 4 rfl (by decide)) rfl rfl (fun x10 _ _ _ _ _ => (xp_var 7 rfl))) rfl S.nd (blkOk_by (N := N__law_signs) (sc := defScope s__law_signs) (by decide +kernel)) (fun _ _ _ _ _ => (pg_tup rfl (pgs_cons (pg_name (i := 7) S.nd rfl (by first | exact .inl rfl | exact .inr rfl)) (pgs_cons (pg_name (i := 8) S.nd rfl (by first | exact .inl rfl | exact .inr rfl)) pgs_nil))))))) (xs_cons (xt_app 4 rfl (xp_tup2 (xp_var 5 rfl) (xg_callB 0 rfl G__law_take hr (by decide) (xa_cons xp_int xa_nil))) (hpe := (fun te h => ps_expr (pe_bm PySem.F.plainAttrs_list PySem.F.slot_list_append PySem.F.type_list_append mt_append (pe_var (i := 4) rfl (by first | exact Or.inl rfl | exact Or.inr (Or.inl rfl) | exact Or.inr (Or.inr rfl))) (pa_cons h pa_nil))))) (fun x16 =>
 xs_nil (x16) ⟨.inr rfl, .inr rfl, .inl rfl, .inr rfl, .inr rfl, .inr rfl, .inl rfl, .inl rfl, .inl rfl, trivial⟩)) (xs_nil (s2) ⟨.inr rfl, .inr rfl, .inl rfl, .inr rfl, .inr rfl, .inr rfl, .inl rfl, .inl rfl, .inl rfl, trivial⟩)) (fun s14 =>
 xs_nil (s14) ⟨.inr rfl, .inl rfl, .inl rfl, .inr rfl, .inr rfl, .inl rfl, .inl rfl, .inl rfl, .inl rfl, trivial⟩))) ⟨.inr rfl, .inl rfl, .inl rfl, .inr rfl, .inr rfl, .inl rfl, .inl rfl, .inl rfl, .inl rfl, trivial⟩) (fun s2 =>
 xs_cons (xt_set 2 (xg_callB 0 rfl G__law_take hr (by decide) (xa_cons (xp_lenL T.b_len (xb_own 4 rfl)) xa_nil)) S.nd) (fun x20 =>
 xs_cons (xt_if (Γn := fun s28 : ((List (Str × Int))) => [.bx a, .unk, .cl rInt x20, .cl rStr x1.1, .own (rP rStr rInt) s28, .unk, .unk, .unk, .unk]) (xt_cmp op_gt os_gt (nomark _) (xp_minL rfl T.b_min (xb_new (xn_lc (xlc_2 (x := "_law_name") (y := "_law_kids_here") 5 8 (by decide) (xil_own 4 rfl (by decide)) rfl rfl (fun x21 _ _ _ _ _ => (xp_var 8 rfl))) rfl S.nd (blkOk_by (N := N__law_signs) (sc := defScope s__law_signs) (by decide +kernel)) (fun _ _ _ _ _ => (pg_tup rfl (pgs_cons (pg_name (i := 5) S.nd rfl (by first | exact .inl rfl | exact .inr rfl)) (pgs_cons (pg_name (i := 8) S.nd rfl (by first | exact .inl rfl | exact .inr rfl)) pgs_nil))))))) xp_int) (xs_cons (xt_setI 4 rfl (xp_tup2 (xp_ix ix_tup os_ix0 (xp_ixL (xb_own 4 rfl) (xp_var 2 rfl)) xp_int) xp_int) (xp_var 2 rfl)) (fun x32 =>
 xs_nil (x32) ⟨.inr rfl, .inl rfl, .inr rfl, .inr rfl, .inr rfl, .inl rfl, .inl rfl, .inl rfl, .inl rfl, trivial⟩)) (xs_nil (s2) ⟨.inr rfl, .inl rfl, .inr rfl, .inr rfl, .inr rfl, .inl rfl, .inl rfl, .inl rfl, .inl rfl, trivial⟩)) (fun s28 =>
 xs_retXO (ba := some a) 4 rfl rfl))))) (fun _ _ _ h => by exact h)
def W__law_row (a__law_signs_here : (List (Str × Int))) (a__law_most : Int) (P : (List Int) → Prop) : Prop :=
 (fun x1 : (List Int) × Int => whileW (fun s2 P5 => P5 (decide ((0 : Int) < s2.2))) (fun s2 nx3 =>
 (fun x6 : Int => RgOk (a__law_signs_here.length : Int) ∧ (rangeL 0 (a__law_signs_here.length : Int).toNat).length ≤ sizeLine ∧ lcW (rangeL 0 (a__law_signs_here.length : Int).toNat) (fun x8 nx9 => (fun Pb : Bool → Prop => ∃ y11, atI a__law_signs_here x8 = some y11 ∧ (1 : Int) = 1 ∧ if (decide ((0 : Int) < y11.2)) = true then Pb (decide (y11.2 ≤ x6)) else Pb false) (fun b => if b = true then nx9 (some x8) else nx9 none)) [] fun x8l => (fun x7 : List Int => (fun nx18 : ((List Int)) → Prop => (fun P24 : Bool → Prop => ((dL dInt).g x7 ∧ (dL dInt).g ([] : List Int)) ∧ if (decide (x7 = ([] : List Int))) = true then P24 true else W__law_take (3 : Int) fun r26 => P24 (decide (r26 = (0 : Int)))) (fun b25 => if b25 = true then RgOk (a__law_signs_here.length : Int) ∧ (rangeL 0 (a__law_signs_here.length : Int).toNat).length ≤ sizeLine ∧ lcW (rangeL 0 (a__law_signs_here.length : Int).toNat) (fun x20 nx21 => ∃ y23, atI a__law_signs_here x20 = some y23 ∧ (1 : Int) = 1 ∧ if (decide (y23.2 = (0 : Int))) = true then nx21 (some x20) else nx21 none) [] fun x20l => (fun x19 : List Int => nx18 (x19)) x20l else nx18 (x7))) (fun s17 =>
 W__law_take (s17.length : Int) fun r33 => ∃ y28, atI s17 r33 = some y28 ∧ (fun x27 : Int => s2.1.length < sizeLine ∧ (fun x29 : List Int => ∃ y32, atI a__law_signs_here x27 = some y32 ∧ (1 : Int) = 1 ∧ (fun x30 : Int => nx3 (x29, x30)) ((s2.2 - (1 : Int)) + y32.2)) (s2.1 ++ [x27])) y28)) x8l) ((a__law_most - (s2.1.length : Int)) - s2.2)) (x1.1, x1.2) (fun s2 =>
 P s2.1)) (([] : List Int), (1 : Int))
abbrev s__law_row : Stmt := topS 29
abbrev N__law_row : List Str := ["_law_box_here", "_law_signs_here", "_law_most", "_law_row_here", "_law_wanted", "_law_room", "_law_some", "_law_sign"]
theorem sc__law_row : FnScope ["_law_box_here", "_law_signs_here", "_law_most", "_law_row_here", "_law_wanted", "_law_room", "_law_some", "_law_sign"] ["_law_box_here", "_law_signs_here", "_law_most"] (defScope s__law_row) := ⟨rfl, rfl, rfl, by decide +kernel, rfl, by decide +kernel, by decide +kernel⟩
abbrev ps__law_row : List Str := ["_law_box_here", "_law_signs_here", "_law_most"]
abbrev sp__law_row  : Sp := spB (rsc (rL (rP rStr rInt)) (rsc rInt rs0)).sps (fun z P => W__law_row z.1 z.2.1 P) (rrc (rT rInt))
theorem ok__law_row {P : Program} {w : World} {K : PySem.W.Frag} {mg : Str → Option Value} {base : Heap} {C_Book : Addr} {f : Addr} {fd : FuncData} (F : Fun K "_law_row" "_law_row" s__law_row f fd) (T : Txt K mg C_Book) (G__law_take : Glob P w K mg base "_law_take" 2 ps__law_take (sp__law_take )) : FnOk P w K mg base CX0 3 f fd ps__law_row (sp__law_row ) :=
  have S := sc__law_row
  fn_B (n := 5) F S (fun _ => rfl) rfl (fun a => rcx (some a) (rT rInt)) (fun _ _ _ _ h => h) (fun cdv A outer s H E hr a z =>
 xs_cons (xt_parNP 3 4 (xn_lst (r := rInt) xh_nil) xp_int rfl S.nd) (fun x1 =>
 xs_cons (xt_while (Γs := fun s2 : ((List Int) × Int) => [.bx a, .cl (rL (rP rStr rInt)) z.1, .cl rInt z.2.1, .own rInt s2.1, .cl rInt s2.2, .unk, .unk, .unk]) (x1.1, x1.2) PassesOwn.never (fun s2 => (xt_cmp op_gt os_gt (nomark _) (xp_var 4 rfl) xp_int))
 (fun s2 =>
 xs_cons (xt_set 5 (xp_op op_sub os_sub (xp_op op_sub os_sub (xp_var 2 rfl) (xp_lenL T.b_len (xb_own 3 rfl))) (xp_var 4 rfl)) S.nd) (fun x6 =>
 xs_cons (xt_lcC 6 (xlc_1if (x := "_law_sign") 7 (xil (xi_range1 T.b_range (xp_lenL T.b_len (xb_cl (xp_var 1 rfl))))) rfl (fun x8 _ _ _ _ _ => (xt_chain op_lt os_lt op_le os_le xp_int (xp_ix ix_tup os_ix1 (xp_ixL (xb_cl (xp_var 1 rfl)) (xp_var 7 rfl)) xp_int) (xp_var 5 rfl))) (fun x8 _ _ _ _ _ => (xp_var 7 rfl))) rfl S.nd (blkOk_by (N := N__law_row) (sc := defScope s__law_row) (by decide +kernel)) (fun _ _ _ _ _ => pg_name (i := 7) S.nd rfl (by first | exact .inl rfl | exact .inr rfl))) (fun x7 =>
 xs_cons (xt_if (Γn := fun s17 : ((List Int)) => [.bx a, .cl (rL (rP rStr rInt)) z.1, .cl rInt z.2.1, .own rInt s2.1, .cl rInt s2.2, .cl rInt x6, .cl (rL rInt) s17, .unk]) (XW.t (xw_or (xt_cmp (op_eqD hr.units) (os_eqD (dL dInt) (by decide)) (nomark _) (xp_var 6 rfl) (XN.p (xn_lst (r := rInt) xh_nil))) (xw_or1 (xt_cmp op_eq (os_eq fInt) (nomark _) (xg_callB 0 rfl G__law_take hr (by decide) (xa_cons xp_int xa_nil)) xp_int)))) (xs_cons (xt_lcC 6 (xlc_1if (x := "_law_sign") 7 (xil (xi_range1 T.b_range (xp_lenL T.b_len (xb_cl (xp_var 1 rfl))))) rfl (fun x20 _ _ _ _ _ => (xt_cmp op_eq (os_eq fInt) (nomark _) (xp_ix ix_tup os_ix1 (xp_ixL (xb_cl (xp_var 1 rfl)) (xp_var 7 rfl)) xp_int) xp_int)) (fun x20 _ _ _ _ _ => (xp_var 7 rfl))) rfl S.nd (blkOk_by (N := N__law_row) (sc := defScope s__law_row) (by decide +kernel)) (fun _ _ _ _ _ => pg_name (i := 7) S.nd rfl (by first | exact .inl rfl | exact .inr rfl))) (fun x19 =>
 xs_nil (x19) ⟨.inr rfl, .inr rfl, .inr rfl, .inr rfl, .inr rfl, .inr rfl, .inr rfl, .inl rfl, trivial⟩)) (xs_nil (x7) ⟨.inr rfl, .inr rfl, .inr rfl, .inr rfl, .inr rfl, .inr rfl, .inr rfl, .inl rfl, trivial⟩)) (fun s17 =>
 xs_cons (xt_set 7 (xp_ixL (xb_cl (xp_var 6 rfl)) (xg_callB 0 rfl G__law_take hr (by decide) (xa_cons (xp_lenL T.b_len (xb_cl (xp_var 6 rfl))) xa_nil))) S.nd) (fun x27 =>
 xs_cons (xt_app 3 rfl (xp_var 7 rfl) (hpe := (fun te h => ps_expr (pe_bm PySem.F.plainAttrs_list PySem.F.slot_list_append PySem.F.type_list_append mt_append (pe_var (i := 3) rfl (by first | exact Or.inl rfl | exact Or.inr (Or.inl rfl) | exact Or.inr (Or.inr rfl))) (pa_cons h pa_nil))))) (fun x29 =>
 xs_cons (xt_set 4 (xp_op op_add os_add (xp_op op_sub os_sub (xp_var 4 rfl) xp_int) (xp_ix ix_tup os_ix1 (xp_ixL (xb_cl (xp_var 1 rfl)) (xp_var 7 rfl)) xp_int)) S.nd) (fun x30 =>
 xs_nil (x29, x30) ⟨.inr rfl, .inr rfl, .inr rfl, .inr rfl, .inr rfl, .inl rfl, .inl rfl, .inl rfl, trivial⟩))))))) ⟨.inr rfl, .inr rfl, .inr rfl, .inr rfl, .inr rfl, .inl rfl, .inl rfl, .inl rfl, trivial⟩) (fun s2 =>
 xs_retX (ba := some a) rfl (xp_tupleL T.b_tuple (xb_own 3 rfl))))) (fun _ _ _ h => by exact h)
def W__law_kids (a__law_signs_here : (List (Str × Int))) (a__law_row_here : (List Int)) (P : (List (List Int)) → Prop) : Prop :=
 (fun x1 : (List (List Int)) × Int => ∃ y4, atI a__law_row_here (0 : Int) = some y4 ∧ ∃ y5, atI a__law_signs_here y4 = some y5 ∧ (1 : Int) = 1 ∧ RgOk y5.2 ∧ forW (rangeL 0 y5.2.toNat) (x1.1, x1.2) (fun x7 s6 nx8 =>
 (fun x10 : Int × Int => whileW (fun s11 P14 => P14 (decide ((0 : Int) < s11.2))) (fun s11 nx12 =>
 ∃ y18, atI a__law_row_here s11.1 = some y18 ∧ ∃ y19, atI a__law_signs_here y18 = some y19 ∧ (1 : Int) = 1 ∧ (fun x15 : Int => (fun x20 : Int => nx12 (x20, x15)) (s11.1 + (1 : Int))) ((s11.2 - (1 : Int)) + y19.2)) (x10.1, x10.2) (fun s11 =>
 s6.1.length < sizeLine ∧ (fun x21 : List (List Int) => (fun x22 : Int => nx8 (x21, x22)) s11.1) (s6.1 ++ [(cutL a__law_row_here (some s6.2) (some s11.1))]))) (s6.2, (1 : Int))) (fun s6 =>
 P s6.1)) (([] : List (List Int)), (1 : Int))
abbrev s__law_kids : Stmt := topS 30
abbrev N__law_kids : List Str := ["_law_signs_here", "_law_row_here", "_law_turn", "_law_found", "_law_begin", "_law_stop", "_law_wanted"]
theorem sc__law_kids : FnScope ["_law_signs_here", "_law_row_here", "_law_turn", "_law_found", "_law_begin", "_law_stop", "_law_wanted"] ["_law_signs_here", "_law_row_here"] (defScope s__law_kids) := ⟨rfl, rfl, rfl, by decide +kernel, rfl, by decide +kernel, by decide +kernel⟩
abbrev ps__law_kids : List Str := ["_law_signs_here", "_law_row_here"]
abbrev sp__law_kids  : Sp := spC (rsc (rL (rP rStr rInt)) (rsc (rT rInt) rs0)).sps (fun z P => W__law_kids z.1 z.2.1 P) (rrn (rT rInt))
theorem ok__law_kids {P : Program} {w : World} {K : PySem.W.Frag} {mg : Str → Option Value} {base : Heap} {C_Book : Addr} {f : Addr} {fd : FuncData} (F : Fun K "_law_kids" "_law_kids" s__law_kids f fd) (T : Txt K mg C_Book)  : FnOk P w K mg base CX0 1 f fd ps__law_kids (sp__law_kids ) :=
  have S := sc__law_kids
  fn_C (n := 5) F S (fun _ => rfl) rfl (rnx none (rT rInt)) (fun _ _ _ h => h.2) (fun cdv A outer s H E hr z =>
 xs_cons (xt_parNP 3 4 (xn_lst (r := (rT rInt)) xh_nil) xp_int rfl S.nd) (fun x1 =>
 xs_cons (xt_for (Γs := fun s6 : ((List (List Int)) × Int) => [.cl (rL (rP rStr rInt)) z.1, .cl (rT rInt) z.2.1, .unk, .own (rT rInt) s6.1, .cl rInt s6.2, .unk, .unk]) (x1.1, x1.2) PassesOwn.never rfl (xi_range1 T.b_range (xp_ix ix_tup os_ix1 (xp_ixL (xb_cl (xp_var 0 rfl)) (xp_ix ix_tup os_ixT (xp_var 1 rfl) xp_int)) xp_int)) (xg_name 2 S.nd)
 (fun x7 s6 =>
 xs_cons (xt_parPP 5 6 (xp_var 4 rfl) xp_int rfl S.nd) (fun x10 =>
 xs_cons (xt_while (Γs := fun s11 : (Int × Int) => [.cl (rL (rP rStr rInt)) z.1, .cl (rT rInt) z.2.1, .cl rInt x7, .own (rT rInt) s6.1, .cl rInt s6.2, .cl rInt s11.1, .cl rInt s11.2]) (x10.1, x10.2) PassesOwn.never (fun s11 => (xt_cmp op_gt os_gt (nomark _) (xp_var 6 rfl) xp_int))
 (fun s11 =>
 xs_cons (xt_set 6 (xp_op op_add os_add (xp_op op_sub os_sub (xp_var 6 rfl) xp_int) (xp_ix ix_tup os_ix1 (xp_ixL (xb_cl (xp_var 0 rfl)) (xp_ix ix_tup os_ixT (xp_var 1 rfl) (xp_var 5 rfl))) xp_int)) S.nd) (fun x15 =>
 xs_cons (xt_set 5 (xp_op op_add os_add (xp_var 5 rfl) xp_int) S.nd) (fun x20 =>
 xs_nil (x20, x15) ⟨.inr rfl, .inr rfl, .inr rfl, .inr rfl, .inr rfl, .inr rfl, .inr rfl, trivial⟩))) ⟨.inr rfl, .inr rfl, .inr rfl, .inr rfl, .inr rfl, .inr rfl, .inr rfl, trivial⟩) (fun s11 =>
 xs_cons (xt_app 3 rfl (xp_sliceT (xp_var 1 rfl) (xo_some (xp_var 4 rfl)) (xo_some (xp_var 5 rfl))) (hpe := (fun te h => ps_expr (pe_bm PySem.F.plainAttrs_list PySem.F.slot_list_append PySem.F.type_list_append mt_append (pe_var (i := 3) rfl (by first | exact Or.inl rfl | exact Or.inr (Or.inl rfl) | exact Or.inr (Or.inr rfl))) (pa_cons h pa_nil))))) (fun x21 =>
 xs_cons (xt_set 4 (xp_var 5 rfl) S.nd) (fun x22 =>
 xs_nil (x21, x22) ⟨.inr rfl, .inr rfl, .inl rfl, .inr rfl, .inr rfl, .inl rfl, .inl rfl, trivial⟩))))) ⟨.inr rfl, .inr rfl, .inl rfl, .inr rfl, .inr rfl, .inl rfl, .inl rfl, trivial⟩) (fun s6 =>
 xs_retXO (ba := none) 3 trivial rfl))) (fun _ _ h => by exact h)
def W__law_key (a__law_signs_here : (List (Str × Int))) (a__law_row_here : (List Int)) (P : (List Int) → Prop) : Prop :=
 (fun x1 : (List Int) × (List Int) => forW a__law_row_here.reverse (x1.1, x1.2) (fun x3 s2 nx4 =>
 (fun x6 : Int => ∃ y8, atI a__law_signs_here x3 = some y8 ∧ (1 : Int) = 1 ∧ RgOk y8.2 ∧ forW (rangeL 0 y8.2.toNat) (s2.1, x6) (fun x10 s9 nx11 =>
 ∃ ys14 y15, s9.1 = ys14 ++ [y15] ∧ (fun x13 : Int × List Int => nx11 (x13.2, x13.1)) ((s9.2 + y15), ys14)) (fun s9 =>
 s9.1.length < sizeLine ∧ (fun x16 : List Int => s2.2.length < sizeLine ∧ (fun x17 : List Int => nx4 (x16, x17)) (s2.2 ++ [s9.2])) (s9.1 ++ [s9.2]))) (1 : Int)) (fun s2 =>
 (fun x18 : (List Int) => forW (List.zip s2.2.reverse a__law_row_here) (x18) (fun x20 s19 nx21 =>
 s19.length + ([x20.1, x20.2] : List Int).length ≤ sizeLine ∧ (fun x23 : (List Int) => nx21 (x23)) (s19 ++ ([x20.1, x20.2] : List Int))) (fun s19 =>
 P s19)) ([] : List Int))) (([] : List Int), ([] : List Int))
abbrev s__law_key : Stmt := topS 31
abbrev N__law_key : List Str := ["_law_signs_here", "_law_row_here", "_law_sign", "_law_found", "_law_waiting", "_law_sizes", "_law_size", "_law_turn"]
theorem sc__law_key : FnScope ["_law_signs_here", "_law_row_here", "_law_sign", "_law_found", "_law_waiting", "_law_sizes", "_law_size", "_law_turn"] ["_law_signs_here", "_law_row_here"] (defScope s__law_key) := ⟨rfl, rfl, rfl, by decide +kernel, rfl, by decide +kernel, by decide +kernel⟩
abbrev ps__law_key : List Str := ["_law_signs_here", "_law_row_here"]
abbrev sp__law_key  : Sp := spC (rsc (rL (rP rStr rInt)) (rsc (rT rInt) rs0)).sps (fun z P => W__law_key z.1 z.2.1 P) (rrc (rT rInt))
theorem ok__law_key {P : Program} {w : World} {K : PySem.W.Frag} {mg : Str → Option Value} {base : Heap} {C_Book : Addr} {f : Addr} {fd : FuncData} (F : Fun K "_law_key" "_law_key" s__law_key f fd) (T : Txt K mg C_Book)  : FnOk P w K mg base CX0 1 f fd ps__law_key (sp__law_key ) :=
  have S := sc__law_key
  fn_C (n := 6) F S (fun _ => rfl) rfl (rcx none (rT rInt)) (fun _ _ _ h => h.2) (fun cdv A outer s H E hr z =>
 xs_cons (xt_parNN 4 5 (xn_lst (r := rInt) xh_nil) (xn_lst (r := rInt) xh_nil) rfl S.nd) (fun x1 =>
 xs_cons (xt_for (Γs := fun s2 : ((List Int) × (List Int)) => [.cl (rL (rP rStr rInt)) z.1, .cl (rT rInt) z.2.1, .unk, .unk, .own rInt s2.1, .own rInt s2.2, .unk, .unk]) (x1.1, x1.2) PassesOwn.never rfl (xi_revT T.b_reversed (xp_var 1 rfl)) (xg_name 2 S.nd)
 (fun x3 s2 =>
 xs_cons (xt_set 6 xp_int S.nd) (fun x6 =>
 xs_cons (xt_for (Γs := fun s9 : ((List Int) × Int) => [.cl (rL (rP rStr rInt)) z.1, .cl (rT rInt) z.2.1, .cl rInt x3, .unk, .own rInt s9.1, .own rInt s2.2, .cl rInt s9.2, .unk]) (s2.1, x6) PassesOwn.never rfl (xi_range1 T.b_range (xp_ix ix_tup os_ix1 (xp_ixL (xb_cl (xp_var 0 rfl)) (xp_var 2 rfl)) xp_int)) (xg_name 7 S.nd)
 (fun x10 s9 =>
 xs_cons (xt_setQ 6 (xq_op op_add os_add (xp_var 6 rfl) (xq_pop 4 rfl)) S.nd) (fun x13 =>
 xs_nil (x13.2, x13.1) ⟨.inr rfl, .inr rfl, .inr rfl, .inl rfl, .inr rfl, .inr rfl, .inr rfl, .inl rfl, trivial⟩)) ⟨.inr rfl, .inr rfl, .inr rfl, .inl rfl, .inr rfl, .inr rfl, .inr rfl, .inl rfl, trivial⟩) (fun s9 =>
 xs_cons (xt_app 4 rfl (xp_var 6 rfl) (hpe := (fun te h => ps_expr (pe_bm PySem.F.plainAttrs_list PySem.F.slot_list_append PySem.F.type_list_append mt_append (pe_var (i := 4) rfl (by first | exact Or.inl rfl | exact Or.inr (Or.inl rfl) | exact Or.inr (Or.inr rfl))) (pa_cons h pa_nil))))) (fun x16 =>
 xs_cons (xt_app 5 rfl (xp_var 6 rfl) (hpe := (fun te h => ps_expr (pe_bm PySem.F.plainAttrs_list PySem.F.slot_list_append PySem.F.type_list_append mt_append (pe_var (i := 5) rfl (by first | exact Or.inl rfl | exact Or.inr (Or.inl rfl) | exact Or.inr (Or.inr rfl))) (pa_cons h pa_nil))))) (fun x17 =>
 xs_nil (x16, x17) ⟨.inr rfl, .inr rfl, .inl rfl, .inl rfl, .inr rfl, .inr rfl, .inl rfl, .inl rfl, trivial⟩))))) ⟨.inr rfl, .inr rfl, .inl rfl, .inl rfl, .inr rfl, .inr rfl, .inl rfl, .inl rfl, trivial⟩) (fun s2 =>
 xs_cons (xt_set 3 (xp_tupH (r := rInt) xh_nil) S.nd) (fun x18 =>
 xs_frz 5 rfl (xs_cons (xt_for (Γs := fun s19 : ((List Int)) => [.cl (rL (rP rStr rInt)) z.1, .cl (rT rInt) z.2.1, .unk, .cl (rT rInt) s19, .own rInt s2.1, .cl (rL rInt) s2.2, .unk, .unk]) (x18) PassesOwn.never rfl (xi_zipRev T.b_zip T.b_reversed (xp_var 5 rfl) (xp_var 1 rfl)) (xg_tup2 6 2 S.nd (pg_tup rfl (pgs_cons (pg_name (i := 6) S.nd rfl (by first | exact .inl rfl | exact .inr rfl)) (pgs_cons (pg_name (i := 2) S.nd rfl (by first | exact .inl rfl | exact .inr rfl)) pgs_nil))))
 (fun x20 s19 =>
 xs_cons (xt_set 3 (xp_op op_catA os_catA (xp_var 3 rfl) (xp_tupH (r := rInt) (xh_cons (xp_var 6 rfl) (xh_cons (xp_var 2 rfl) xh_nil)))) S.nd) (fun x23 =>
 xs_nil (x23) ⟨.inr rfl, .inr rfl, .inl rfl, .inr rfl, .inr rfl, .inr rfl, .inl rfl, .inl rfl, trivial⟩)) ⟨.inr rfl, .inr rfl, .inl rfl, .inr rfl, .inr rfl, .inr rfl, .inl rfl, .inl rfl, trivial⟩) (fun s19 =>
 xs_retX (ba := none) trivial (xp_var 3 rfl))))))) (fun _ _ h => by exact h)
def W__law_lines (a__law_signs_here : (List (Str × Int))) (a__law_row_here : (List Int)) (P : (List ((List Int) × (List Int))) → Prop) : Prop :=
 (fun x1 : (List ((List Int) × (List Int))) × Int => whileW (fun s2 P5 => P5 (decide (s2.2 < (s2.1.length : Int)))) (fun s2 nx3 =>
 ∃ y7, atI s2.1 s2.2 = some y7 ∧ (fun x6 : ((List Int) × (List Int)) => (fun x8 : Int => W__law_kids a__law_signs_here x6.2 fun r14 => forW (enumF 0 r14) (s2.1) (fun x10 s9 nx11 =>
 x6.1.length + ([x10.1] : List Int).length ≤ sizeLine ∧ s9.length < sizeLine ∧ (fun x13 : List ((List Int) × (List Int)) => nx11 (x13)) (s9 ++ [((x6.1 ++ ([x10.1] : List Int)), x10.2)])) (fun s9 =>
 nx3 (s9, x8))) (s2.2 + (1 : Int))) y7) (x1.1, x1.2) (fun s2 =>
 P s2.1)) (([(([] : List Int), a__law_row_here)] : List ((List Int) × (List Int))), (0 : Int))
abbrev s__law_lines : Stmt := topS 32
abbrev N__law_lines : List Str := ["_law_signs_here", "_law_row_here", "_law_found", "_law_spot", "_law_place", "_law_some", "_law_number", "_law_kid"]
theorem sc__law_lines : FnScope ["_law_signs_here", "_law_row_here", "_law_found", "_law_spot", "_law_place", "_law_some", "_law_number", "_law_kid"] ["_law_signs_here", "_law_row_here"] (defScope s__law_lines) := ⟨rfl, rfl, rfl, by decide +kernel, rfl, by decide +kernel, by decide +kernel⟩
abbrev ps__law_lines : List Str := ["_law_signs_here", "_law_row_here"]
abbrev sp__law_lines  : Sp := spC (rsc (rL (rP rStr rInt)) (rsc (rT rInt) rs0)).sps (fun z P => W__law_lines z.1 z.2.1 P) (rrn (rP (rT rInt) (rT rInt)))
theorem ok__law_lines {P : Program} {w : World} {K : PySem.W.Frag} {mg : Str → Option Value} {base : Heap} {C_Book : Addr} {f : Addr} {fd : FuncData} (F : Fun K "_law_lines" "_law_lines" s__law_lines f fd) (T : Txt K mg C_Book) (G__law_kids : Glob P w K mg base "_law_kids" 1 ps__law_kids (sp__law_kids )) : FnOk P w K mg base CX0 2 f fd ps__law_lines (sp__law_lines ) :=
  have S := sc__law_lines
  fn_C (n := 6) F S (fun _ => rfl) rfl (rnx none (rP (rT rInt) (rT rInt))) (fun _ _ _ h => h.2) (fun cdv A outer s H E hr z =>
 xs_cons (xt_parNP 2 3 (xn_lst (r := (rP (rT rInt) (rT rInt))) (xh_cons (xp_tup2 (xp_tupH (r := rInt) xh_nil) (xp_var 1 rfl)) xh_nil)) xp_int rfl S.nd) (fun x1 =>
 xs_cons (xt_while (Γs := fun s2 : ((List ((List Int) × (List Int))) × Int) => [.cl (rL (rP rStr rInt)) z.1, .cl (rT rInt) z.2.1, .own (rP (rT rInt) (rT rInt)) s2.1, .cl rInt s2.2, .unk, .unk, .unk, .unk]) (x1.1, x1.2) PassesOwn.never (fun s2 => (xt_cmp op_lt os_lt (nomark _) (xp_var 3 rfl) (xp_lenL T.b_len (xb_own 2 rfl))))
 (fun s2 =>
 xs_cons (xt_unp (xp_ixL (xb_own 2 rfl) (xp_var 3 rfl)) (xg_tup2 4 5 S.nd (pg_tup rfl (pgs_cons (pg_name (i := 4) S.nd rfl (by first | exact .inl rfl | exact .inr rfl)) (pgs_cons (pg_name (i := 5) S.nd rfl (by first | exact .inl rfl | exact .inr rfl)) pgs_nil))))) (fun x6 =>
 xs_cons (xt_set 3 (xp_op op_add os_add (xp_var 3 rfl) xp_int) S.nd) (fun x8 =>
 xs_cons (xt_for (Γs := fun s9 : ((List ((List Int) × (List Int)))) => [.cl (rL (rP rStr rInt)) z.1, .cl (rT rInt) z.2.1, .own (rP (rT rInt) (rT rInt)) s9, .cl rInt x8, .cl (rT rInt) x6.1, .cl (rT rInt) x6.2, .unk, .unk]) (s2.1) PassesOwn.never rfl (xi_enum T.b_enumerate (XN.p (xg_callN G__law_kids hr (by decide) (xa_cons (xp_var 0 rfl) (xa_cons (xp_var 5 rfl) xa_nil))))) (xg_tup2 6 7 S.nd (pg_tup rfl (pgs_cons (pg_name (i := 6) S.nd rfl (by first | exact .inl rfl | exact .inr rfl)) (pgs_cons (pg_name (i := 7) S.nd rfl (by first | exact .inl rfl | exact .inr rfl)) pgs_nil))))
 (fun x10 s9 =>
 xs_cons (xt_app 2 rfl (xp_tup2 (xp_op op_catA os_catA (xp_var 4 rfl) (xp_tupH (r := rInt) (xh_cons (xp_var 6 rfl) xh_nil))) (xp_var 7 rfl)) (hpe := (fun te h => ps_expr (pe_bm PySem.F.plainAttrs_list PySem.F.slot_list_append PySem.F.type_list_append mt_append (pe_var (i := 2) rfl (by first | exact Or.inl rfl | exact Or.inr (Or.inl rfl) | exact Or.inr (Or.inr rfl))) (pa_cons h pa_nil))))) (fun x13 =>
 xs_nil (x13) ⟨.inr rfl, .inr rfl, .inr rfl, .inr rfl, .inr rfl, .inr rfl, .inl rfl, .inl rfl, trivial⟩)) ⟨.inr rfl, .inr rfl, .inr rfl, .inr rfl, .inr rfl, .inr rfl, .inl rfl, .inl rfl, trivial⟩) (fun s9 =>
 xs_nil (s9, x8) ⟨.inr rfl, .inr rfl, .inr rfl, .inr rfl, .inl rfl, .inl rfl, .inl rfl, .inl rfl, trivial⟩)))) ⟨.inr rfl, .inr rfl, .inr rfl, .inr rfl, .inl rfl, .inl rfl, .inl rfl, .inl rfl, trivial⟩) (fun s2 =>
 xs_retXO (ba := none) 2 trivial rfl))) (fun _ _ h => by exact h)
end TM
set_option Elab.async false
set_option linter.all false
set_option maxRecDepth 100000
set_option maxHeartbeats 1000000
namespace TM
open PySem PySem.Spec PyProof.Rows L2
def W_law (a__law_script : (List Int)) (P : Bool → Prop) : Prop :=
 RgOk (if (if (3 : Int) < (a__law_script.length : Int) then (3 : Int) else (a__law_script.length : Int)) > (1 : Int) then (if (3 : Int) < (a__law_script.length : Int) then (3 : Int) else (a__law_script.length : Int)) else (1 : Int)) ∧ forW (rangeL 0 (if (if (3 : Int) < (a__law_script.length : Int) then (3 : Int) else (a__law_script.length : Int)) > (1 : Int) then (if (3 : Int) < (a__law_script.length : Int) then (3 : Int) else (a__law_script.length : Int)) else (1 : Int)).toNat) () (fun x2 s1 nx3 =>
 W__law_box a__law_script x2 fun r51 => (∃ u7 v8 : Int, r51 = [u7, v8] ∧ u7.natAbs < 2 ^ boxBits ∧ 0 ≤ v8 ∧ v8 < 2147483647) ∧ ∀ b6 : Addr, W__law_signs  fun r50 => (fun x9 : (List (Str × Int)) => W__law_take (4 : Int) fun r48 => ∃ y11, atI ([(1 : Int), (3 : Int), (12 : Int), (40 : Int)] : List Int) r48 = some y11 ∧ W__law_row x9 y11 fun r49 => (fun x10 : (List Int) => W_Book___init__ x9 fun r47 => (fun x12 : M_Book => W__law_lines x9 x10 fun r46 => (fun x13 : (List ((List Int) × (List Int))) => W__law_kids x9 x10 fun r45 => (fun x14 : (List (List Int)) => (fun x15P : (List ((List Int) × (List Int))) → Prop => x13.length ≤ sizeLine ∧ lcW x13 (fun x20 nx21 => nx21 (some x20.2)) [] fun x20l => (x20l.length < 64 ∧ PySem.W.Sortable (x20l.map (dT dInt).d)) ∧ ∀ ys19 : (List (List Int)), ys19.Nodup → (∀ x, x ∈ ys19 ↔ x ∈ x20l) → ys19.Pairwise (fun x y => (oT oInt).lt y x = false) → ys19.length ≤ sizeLine ∧ lcW ys19 (fun x17 nx18 => W__law_key x9 x17 fun r44 => nx18 (some (r44, x17))) [] fun x17l => PySem.W.Sortable (x17l.map (dP (dT dInt) (dT dInt)).d) ∧ ∀ ys16 : (List ((List Int) × (List Int))), ys16.Perm x17l → ys16.Pairwise (fun x y => (oP (oT oInt) (oT oInt)).lt y x = false) → x15P ys16) (fun x15 => x15.length ≤ sizeLine ∧ lcW x15 (fun x23 nx24 => nx24 (some x23.2)) [] fun x23l => (fun x22 : List (List Int) => (fun x25P : (List (List Int)) → Prop => x13.length ≤ sizeLine ∧ lcW x13 (fun x27 nx28 => nx28 (some x27.1)) [] fun x27l => (PySem.W.Sortable (x27l.map (dT dInt).d) ∨ Sort0 (x27l.map (dT dInt).d)) ∧ ∀ ys26 : (List (List Int)), ys26.Perm x27l → ys26.Pairwise (fun x y => (oT oInt).lt y x = false) → x25P ys26) (fun x25 => W_height x12 x10 fun r43 => (fun x29 : Int => (fun P41 : Bool → Prop => if false = true then P41 true else x25.length ≤ sizeLine ∧ lcW x25 (fun x30 nx31 => nx31 (some (x30.length : Int))) [] fun x30l => 0 < x30l.length ∧ ∀ m32, m32 ∈ x30l → (∀ y, y ∈ x30l → y ≤ m32) → P41 (!decide (x29 = ((1 : Int) + m32)))) (fun b42 => if b42 = true then P false else
 RgOk (2 : Int) ∧ forW (rangeL 0 (2 : Int).toNat) () (fun x34 s33 nx35 =>
 W_kids_of x12 x10 fun r38 => W_parts x12 x10 fun r39 => W_places x12 x10 fun r40 => (fun x37 : List (List (List Int)) => ((dL (dL (dT dInt))).g x37 ∧ (dL (dL (dT dInt))).g ([x14, x22, x25] : List (List (List Int)))) ∧ if (!decide (x37 = ([x14, x22, x25] : List (List (List Int))))) = true then P false else
 ((∀ xs ∈ x37, xs.length ≤ 1000) ∧ 1000 + x37.length < sizeLine) ∧ nx35 ()) ([r38, r39, r40])) (fun s33 =>
 nx3 ()))) r43)) x23l)) r45) r46) r47) r49) r50) (fun s1 =>
 P true)
abbrev s_law : Stmt := topS 33
abbrev N_law : List Str := ["_law_script", "_law_k", "_law_box_here", "_law_signs_here", "_law_row_here", "_law_book", "_law_lines_here", "_law_kids_here", "_law_some", "_law_due", "_law_spots", "_law_tall", "_law_turn", "_law_found", "_law_told", "_law_one", "_law_key_here", "_law_place", "_law_kid"]
theorem sc_law : FnScope ["_law_script", "_law_k", "_law_box_here", "_law_signs_here", "_law_row_here", "_law_book", "_law_lines_here", "_law_kids_here", "_law_some", "_law_due", "_law_spots", "_law_tall", "_law_turn", "_law_found", "_law_told", "_law_one", "_law_key_here", "_law_place", "_law_kid"] ["_law_script"] (defScope s_law) := ⟨rfl, rfl, rfl, by decide +kernel, rfl, by decide +kernel, by decide +kernel⟩
abbrev ps_law : List Str := ["_law_script"]
abbrev sp_law (K : PySem.W.Frag)  : Sp := spC (rsc (rLK K) rs0).sps (fun z P => W_law z.1 P) (rrc rBl)
theorem ok_law {P : Program} {w : World} {K : PySem.W.Frag} {mg : Str → Option Value} {base : Heap} {C_Book : Addr} {f : Addr} {fd : FuncData} (F : Fun K "law" "law" s_law f fd) (T : Txt K mg C_Book) (G_Book___init__ : MakeJ P w K mg base "Book" C_Book 3 ps_Book___init__ (sp_Book___init__ C_Book)) (G__law_box : Glob P w K mg base "_law_box" 1 ps__law_box (sp__law_box K)) (G__law_key : Glob P w K mg base "_law_key" 1 ps__law_key (sp__law_key )) (G__law_kids : Glob P w K mg base "_law_kids" 1 ps__law_kids (sp__law_kids )) (G__law_lines : Glob P w K mg base "_law_lines" 2 ps__law_lines (sp__law_lines )) (G__law_row : Glob P w K mg base "_law_row" 3 ps__law_row (sp__law_row )) (G__law_signs : Glob P w K mg base "_law_signs" 3 ps__law_signs (sp__law_signs )) (G__law_take : Glob P w K mg base "_law_take" 2 ps__law_take (sp__law_take )) (G_height : Glob P w K mg base "height" 5 ps_height (sp_height C_Book)) (G_kids_of : Glob P w K mg base "kids_of" 5 ps_kids_of (sp_kids_of C_Book)) (G_parts : Glob P w K mg base "parts" 5 ps_parts (sp_parts C_Book)) (G_places : Glob P w K mg base "places" 5 ps_places (sp_places C_Book)) : FnOk P w K mg base CX0 6 f fd ps_law (sp_law K) :=
  have S := sc_law
  fn_C (n := 18) F S (fun _ => rfl) rfl (rcx none rBl) (fun _ _ _ h => h.2) (fun cdv A outer s H E hr z =>
 xs_cons (xt_for (Γs := fun s1 : Unit => [.cl (rLK K) z.1, .unk, .unk, .unk, .unk, .unk, .unk, .unk, .unk, .unk, .unk, .unk, .unk, .unk, .unk, .unk, .unk, .unk, .unk]) () PassesOwn.never rfl (xi_range1 T.b_range (xp_blt (call_max2 rfl) cs_max2 (by with_unfolding_all rfl) T.b_max (xa_cons xp_int (xa_cons (xp_blt (call_min2 rfl) cs_min2 (by with_unfolding_all rfl) T.b_min (xa_cons (xp_blt call_len_seq cs_lenK PySem.boot_len T.b_len (xa_cons (xp_var 0 rfl) xa_nil)) (xa_cons xp_int xa_nil))) xa_nil)))) (xg_name 1 S.nd)
 (fun x2 s1 =>
 xs_cons (xt_setBx 2 (xg_callN G__law_box hr (by decide) (xa_cons (xp_var 0 rfl) (xa_cons (xp_var 1 rfl) xa_nil))) S.nd) (fun b6 =>
 xs_cons (xt_set 3 (XN.p (xg_callBN 2 rfl G__law_signs hr (by decide) xa_nil)) S.nd) (fun x9 =>
 xs_cons (xt_set 4 (xg_callB 2 rfl G__law_row hr (by decide) (xa_cons (xp_var 3 rfl) (xa_cons (xp_ixL (xb_new (xn_lst (r := rInt) (xh_cons xp_int (xh_cons xp_int (xh_cons xp_int (xh_cons xp_int xh_nil)))))) (xg_callB 2 rfl G__law_take hr (by decide) (xa_cons xp_int xa_nil))) xa_nil))) S.nd) (fun x10 =>
 xs_cons (xt_set 5 (xg_make G_Book___init__ rj_Book hr (by decide) (xa_cons (xp_var 3 rfl) xa_nil)) S.nd) (fun x12 =>
 xs_cons (xt_set 6 (XN.p (xg_callN G__law_lines hr (by decide) (xa_cons (xp_var 3 rfl) (xa_cons (xp_var 4 rfl) xa_nil)))) S.nd) (fun x13 =>
 xs_cons (xt_set 7 (XN.p (xg_callN G__law_kids hr (by decide) (xa_cons (xp_var 3 rfl) (xa_cons (xp_var 4 rfl) xa_nil)))) S.nd) (fun x14 =>
 xs_cons (xt_set 8 (XN.p (xn_sortD (r := (rP (rT rInt) (rT rInt))) (D := (dP (dT dInt) (dT dInt))) (oP (oT oInt) (oT oInt)) (by decide) hr.units T.b_sorted (xb_new (xn_lc (xlc_1 (x := "_law_one") 15 (xil (xi_list (XN.p (xn_sortSet (r := (rT rInt)) (D := (dT dInt)) (oT oInt) ivT rfl hr.units T.b_sorted T.b_set (xb_new (xn_lc (xlc_2 (x := "_law_place") (y := "_law_kid") 17 18 (by decide) (xil (xi_list (xp_var 6 rfl))) rfl rfl (fun x20 _ _ _ _ _ => (xp_var 18 rfl))) rfl S.nd (blkOk_by (N := N_law) (sc := defScope s_law) (by decide +kernel)) (fun _ _ _ _ _ => (pg_tup rfl (pgs_cons (pg_name (i := 17) S.nd rfl (by first | exact .inl rfl | exact .inr rfl)) (pgs_cons (pg_name (i := 18) S.nd rfl (by first | exact .inl rfl | exact .inr rfl)) pgs_nil)))))))))) rfl (fun x17 _ _ _ _ _ => (xp_tup2 (xg_call G__law_key hr (by decide) (xa_cons (xp_var 3 rfl) (xa_cons (xp_var 15 rfl) xa_nil))) (xp_var 15 rfl)))) rfl S.nd (blkOk_by (N := N_law) (sc := defScope s_law) (by decide +kernel)) (fun _ _ _ _ _ => pg_name (i := 15) S.nd rfl (by first | exact .inl rfl | exact .inr rfl)))))) S.nd) (fun x15 =>
 xs_cons (xt_lcC 9 (xlc_2 (x := "_law_key_here") (y := "_law_one") 16 15 (by decide) (xil (xi_list (xp_var 8 rfl))) rfl rfl (fun x23 _ _ _ _ _ => (xp_var 15 rfl))) rfl S.nd (blkOk_by (N := N_law) (sc := defScope s_law) (by decide +kernel)) (fun _ _ _ _ _ => (pg_tup rfl (pgs_cons (pg_name (i := 16) S.nd rfl (by first | exact .inl rfl | exact .inr rfl)) (pgs_cons (pg_name (i := 15) S.nd rfl (by first | exact .inl rfl | exact .inr rfl)) pgs_nil))))) (fun x22 =>
 xs_cons (xt_set 10 (XN.p (xn_sort0 (r := (rT rInt)) (D := (dT dInt)) (oT oInt) (by decide) hr.units T.b_sorted (xb_new (xn_lc (xlc_2 (x := "_law_place") (y := "_law_kid") 17 18 (by decide) (xil (xi_list (xp_var 6 rfl))) rfl rfl (fun x27 _ _ _ _ _ => (xp_var 17 rfl))) rfl S.nd (blkOk_by (N := N_law) (sc := defScope s_law) (by decide +kernel)) (fun _ _ _ _ _ => (pg_tup rfl (pgs_cons (pg_name (i := 17) S.nd rfl (by first | exact .inl rfl | exact .inr rfl)) (pgs_cons (pg_name (i := 18) S.nd rfl (by first | exact .inl rfl | exact .inr rfl)) pgs_nil)))))))) S.nd) (fun x25 =>
 xs_cons (xt_set 11 (xg_call G_height hr (by decide) (xa_cons (xp_var 5 rfl) (xa_cons (xp_var 4 rfl) xa_nil))) S.nd) (fun x29 =>
 xs_cons (xt_ifx (XW.t (xw_or (xt_val (xp_isi (bb := false) (N := "bool") T.b_isinstance T.b_bool tn_int (xp_var 11 rfl) (by decide +kernel) (by with_unfolding_all rfl))) (xw_or1 (xt_cmp op_ne (os_ne fInt) (nomark _) (xp_var 11 rfl) (xp_op op_add os_add xp_int (xp_maxL rfl T.b_max (xb_new (xn_lc (xlc_1 (x := "_law_place") 17 (xil (xi_list (xp_var 10 rfl))) rfl (fun x30 _ _ _ _ _ => (xp_blt call_len_seq cs_lenT PySem.boot_len T.b_len (xa_cons (xp_var 17 rfl) xa_nil)))) rfl S.nd (blkOk_by (N := N_law) (sc := defScope s_law) (by decide +kernel)) (fun _ _ _ _ _ => pg_name (i := 17) S.nd rfl (by first | exact .inl rfl | exact .inr rfl)))))))))) (xs_retX (ba := none) trivial xp_bl)) (fun _ =>
 xs_cons (xt_for (Γs := fun s33 : Unit => [.cl (rLK K) z.1, .cl rInt x2, .bx b6, .cl (rL (rP rStr rInt)) x9, .cl (rT rInt) x10, .cl (r_Book C_Book) x12, .cl (rL (rP (rT rInt) (rT rInt))) x13, .cl (rL (rT rInt)) x14, .cl (rL (rP (rT rInt) (rT rInt))) x15, .cl (rL (rT rInt)) x22, .cl (rL (rT rInt)) x25, .cl rInt x29, .unk, .unk, .unk, .unk, .unk, .unk, .unk]) () PassesOwn.never rfl (xi_range1 T.b_range xp_int) (xg_name 12 S.nd)
 (fun x34 s33 =>
 xs_cons (xt_nest3 13 (xg_callN G_kids_of hr (by decide) (xa_cons (xp_var 5 rfl) (xa_cons (xp_var 4 rfl) xa_nil))) (xg_callN G_parts hr (by decide) (xa_cons (xp_var 5 rfl) (xa_cons (xp_var 4 rfl) xa_nil))) (xg_callN G_places hr (by decide) (xa_cons (xp_var 5 rfl) (xa_cons (xp_var 4 rfl) xa_nil))) S.nd) (fun x37 =>
 xs_cons (xt_ifx (xt_bigN 13 rfl (xt_cmp (op_neD hr.units) (os_neD (dL (dL (dT dInt))) (by decide)) (nomark _) (xp_var 13 rfl) (XN.p (xn_lst (r := (rL (rT rInt))) (xh_cons (xp_var 7 rfl) (xh_cons (xp_var 9 rfl) (xh_cons (xp_var 10 rfl) xh_nil))))))) (xs_retX (ba := none) trivial xp_bl)) (fun _ =>
 xs_cons (xt_forN 13 14 1000 rfl (by decide) (by show 14 < 19; decide) (xp_tupH (r := rInt) xh_nil) rfl S.nd (hp := PassesOwn.never) (hb1 := (fun te h => ps_expr (pe_bm PySem.F.plainAttrs_list PySem.F.slot_list_append PySem.F.type_list_append mt_append (pe_var (i := 14) rfl (by first | exact Or.inl rfl | exact Or.inr (Or.inl rfl) | exact Or.inr (Or.inr rfl))) (pa_cons h pa_nil))))) (fun _ =>
 xs_nil () ⟨.inr rfl, .inr rfl, .inr rfl, .inr rfl, .inr rfl, .inr rfl, .inr rfl, .inr rfl, .inr rfl, .inr rfl, .inr rfl, .inr rfl, .inl rfl, .inl rfl, .inl rfl, .inl rfl, .inl rfl, .inl rfl, .inl rfl, trivial⟩)))) ⟨.inr rfl, .inr rfl, .inr rfl, .inr rfl, .inr rfl, .inr rfl, .inr rfl, .inr rfl, .inr rfl, .inr rfl, .inr rfl, .inr rfl, .inl rfl, .inl rfl, .inl rfl, .inl rfl, .inl rfl, .inl rfl, .inl rfl, trivial⟩) (fun s33 =>
 xs_nil () ⟨.inr rfl, .inl rfl, .inl rfl, .inl rfl, .inl rfl, .inl rfl, .inl rfl, .inl rfl, .inl rfl, .inl rfl, .inl rfl, .inl rfl, .inl rfl, .inl rfl, .inl rfl, .inl rfl, .inl rfl, .inl rfl, .inl rfl, trivial⟩))))))))))))) ⟨.inr rfl, .inl rfl, .inl rfl, .inl rfl, .inl rfl, .inl rfl, .inl rfl, .inl rfl, .inl rfl, .inl rfl, .inl rfl, .inl rfl, .inl rfl, .inl rfl, .inl rfl, .inl rfl, .inl rfl, .inl rfl, .inl rfl, trivial⟩) (fun s1 =>
 xs_retX (ba := none) trivial xp_bl)) (fun _ _ h => by exact h)
end TM
namespace TM
open PySem PySem.Spec PyProof.Rows L2
/-! ## plain words: the box, the signs, the book -/
theorem lcW_ix {α β : Type} {f : α → (Option β → Prop) → Prop} (I : Nat → List β → Prop) : ∀ {xs : List α} {j : Nat} {acc : List β} {k : List β → Prop}, I j acc → (∀ i x acc nx, xs[i]? = some x → I (j + i) acc → (I (j + i + 1) acc → nx none) → (∀ y, I (j + i + 1) (acc ++ [y]) → nx (some y)) → f x nx) → (∀ l, I (j + xs.length) l → k l) → lcW xs f acc k
  | [], j, acc, k, h, _, q => q _ h
  | x :: xs, j, acc, k, h, hf, q => by
    have next : ∀ acc', I (j + 1) acc' → lcW xs f acc' k := fun acc' h' => by
      refine lcW_ix I (j := j + 1) h' (fun i y a nx e hi h1 h2 => hf (i + 1) y a nx (by simpa using e) (by rw [show j + (i + 1) = j + 1 + i by omega]; exact hi) (fun z => h1 (by rw [show j + 1 + i + 1 = j + (i + 1) + 1 by omega]; exact z)) fun y z => h2 y (by rw [show j + 1 + i + 1 = j + (i + 1) + 1 by omega]; exact z)) fun l hl => q l ?_
      rw [List.length_cons, show j + (xs.length + 1) = j + 1 + xs.length by omega]; exact hl
    exact hf 0 x acc _ rfl h (fun z => next _ z) fun y z => next _ z
theorem rangeL_at {n i : Nat} {x : Int} (h : (rangeL 0 n)[i]? = some x) : x = (i : Int) ∧ i < n := by
  have hi : i < n := by
    have := (List.getElem?_eq_some_iff.mp h).1
    rwa [rangeL_len] at this
  rw [rangeL_get hi] at h
  cases h
  exact ⟨by omega, hi⟩
theorem atI_nat {α : Type} {xs : List α} {i : Nat} (h : i < xs.length) : atI xs (i : Int) = some xs[i] := by
  unfold atI ixN
  rw [if_pos (by omega), if_pos (by omega)]
  show xs[(i : Int).toNat]? = _
  rw [Int.toNat_natCast, List.getElem?_eq_getElem h]
theorem atI_int {α : Type} {xs : List α} {i : Int} (h0 : 0 ≤ i) (h1 : i < xs.length) : ∃ y, atI xs i = some y ∧ xs[i.toNat]? = some y := by
  have e : i = ((i.toNat : Nat) : Int) := by omega
  have h : i.toNat < xs.length := by omega
  refine ⟨xs[i.toNat], ?_, List.getElem?_eq_getElem h⟩
  conv => lhs; rw [e]
  exact atI_nat h
theorem rg {i : Int} (h0 : 0 ≤ i) (h1 : i < 1000000) : RgOk i := ⟨by omega, by omega⟩
theorem natAbs_of_bits {z : Int} {n : Nat} (h : Builtin.Int.intBits z ≤ n) : z.natAbs < 2 ^ n := Nat.lt_of_lt_of_le (PyProof.Rows.natAbs_lt_pow_bits z) (Nat.pow_le_pow_right (by decide) h)
theorem box_end {s : Int} {P : List Int → Prop} (hs : s.natAbs < 2 ^ 1048576) (h : ∀ u v : Int, u.natAbs < 2 ^ boxBits → 0 ≤ v → v < 2147483647 → P [u, v]) :
    0 < (2 : Int) ∧ if (decide ((s % (2 : Int)) = (0 : Int))) = true then CDiv s (2 : Int) ∧ 0 < (2147483647 : Int) ∧ P ([(s / (2 : Int)), ((if s < 0 then -s else s) % (2147483647 : Int))] : List Int) else
 (fun x8 : Int => RgOk (16 : Int) ∧ forW (rangeL 0 (16 : Int).toNat) (x8) (fun x10 s9 nx11 =>
 0 < (2147483647 : Int) ∧ CMulX (s % (2147483647 : Int)) (48271 : Int) ∧ CMulX (7919 : Int) x10 ∧ 0 < (2147483647 : Int) ∧ (fun x13 : Int => CMulX x13 x13 ∧ 0 < (2147483629 : Int) ∧ (fun x14 : Int => CMulX s9 (2147483647 : Int) ∧ CMulX x14 (x14 + (13 : Int)) ∧ 0 < (2147483647 : Int) ∧ (fun x15 : Int => nx11 (x15)) ((s9 * (2147483647 : Int)) + ((x14 * (x14 + (13 : Int))) % (2147483647 : Int)))) ((x13 * x13) % (2147483629 : Int))) (((((s % (2147483647 : Int)) * (48271 : Int)) + ((7919 : Int) * x10)) + (1 : Int)) % (2147483647 : Int))) (fun s9 =>
 0 < (2147483647 : Int) ∧ P ([s9, ((if s < 0 then -s else s) % (2147483647 : Int))] : List Int))) (0 : Int) := by
  have v0 := Int.emod_nonneg (if s < 0 then -s else s) (show (2147483647 : Int) ≠ 0 by decide)
  have v1 := Int.emod_lt_of_pos (if s < 0 then -s else s) (show (0 : Int) < 2147483647 by decide)
  refine ⟨by decide, ?_⟩
  by_cases e : s % 2 = 0
  · rw [if_pos (by simpa using e)]
    refine ⟨⟨by decide, by decide⟩, by decide, h _ _ (Nat.lt_of_le_of_lt (div_small (by decide)) (Nat.lt_of_lt_of_le hs (Nat.pow_le_pow_right (by decide) (by decide)))) v0 v1⟩
  · rw [if_neg (by simpa using e)]
    show RgOk 16 ∧ _
    refine ⟨rg (by decide) (by decide), ?_⟩
    refine forW_inv (I := fun j s9 => 0 ≤ s9 ∧ s9 < 2147483647 ^ j ∧ j ≤ 16) (j := 0) ⟨Int.le_refl 0, by decide, by decide⟩ ?_ ?_
    · rintro i x s9 nx hi ⟨n0, n1, hj⟩ hn
      obtain ⟨rfl, hi16⟩ := rangeL_at hi
      have hi16 : i < 16 := hi16
      have a0 := Int.emod_nonneg s (show (2147483647 : Int) ≠ 0 by decide)
      have a1 := Int.emod_lt_of_pos s (show (0 : Int) < 2147483647 by decide)
      refine ⟨by decide, mulx_ok (a := 31) (b := 17) (by omega) (by decide) (by decide), mulx_ok (a := 17) (b := 17) (by decide) (by omega) (by decide), by decide, ?_⟩
      show CMulX _ _ ∧ _
      generalize hz : (s % 2147483647 * 48271 + 7919 * (i : Int) + 1) % 2147483647 = z
      have z0 : 0 ≤ z := by rw [← hz]; exact Int.emod_nonneg _ (by decide)
      have z1 : z < 2147483647 := by rw [← hz]; exact Int.emod_lt_of_pos _ (by decide)
      refine ⟨mulx_ok (a := 31) (b := 31) (by omega) (by omega) (by decide), by decide, ?_⟩
      show CMulX _ _ ∧ _
      generalize hy : z * z % 2147483629 = y
      have y0 : 0 ≤ y := by rw [← hy]; exact Int.emod_nonneg _ (by decide)
      have y1 : y < 2147483629 := by rw [← hy]; exact Int.emod_lt_of_pos _ (by decide)
      have nb : s9.natAbs < 2 ^ 496 := by
        have h12 : (2147483647 : Int) ^ (0 + i) ≤ 2147483647 ^ 16 := (by decide +kernel : ∀ i : Fin 16, (2147483647 : Int) ^ (0 + i.val) ≤ 2147483647 ^ 16) ⟨i, hi16⟩
        have h13 : (2147483647 : Int) ^ 16 < 2 ^ 496 := by decide
        have : s9 < 2 ^ 496 := Int.lt_trans (Int.lt_of_lt_of_le n1 h12) h13
        omega
      refine ⟨mulx_ok (a := 496) (b := 31) nb (by decide) (by decide), mulx_ok (a := 31) (b := 32) (by omega) (by omega) (by decide), by decide, hn _ ⟨?_, ?_, by omega⟩⟩
      · have := Int.emod_nonneg (y * (y + 13)) (show (2147483647 : Int) ≠ 0 by decide)
        have : 0 ≤ s9 * 2147483647 := Int.mul_nonneg n0 (by decide)
        omega
      · have := Int.emod_lt_of_pos (y * (y + 13)) (show (0 : Int) < 2147483647 by decide)
        rw [Int.pow_succ]
        generalize (2147483647 : Int) ^ (0 + i) = q at *
        omega
    · rintro s9 ⟨n0, n1, _⟩
      refine ⟨by decide, h _ _ ?_ v0 v1⟩
      have h13 : (2147483647 : Int) ^ 16 < 2 ^ 496 := by decide
      have n1 : s9 < 2147483647 ^ 16 := by
        have := n1
        rw [rangeL_len] at this
        exact this
      have : s9.natAbs < 2 ^ 496 := by
        have := Int.lt_trans n1 h13
        omega
      exact Nat.lt_of_lt_of_le this (Nat.pow_le_pow_right (by decide) (by decide))
theorem box_plain {script : List Int} {k : Int} {P : List Int → Prop} (hs : ∀ n ∈ script, Builtin.Int.intBits n ≤ 1048576) (hl : script.length ≤ 63) (k0 : 0 ≤ k) (k1 : k < 1000) (h : ∀ u v : Int, u.natAbs < 2 ^ boxBits → 0 ≤ v → v < 2147483647 → P [u, v]) : W__law_box script k P := by
  refine ⟨mulx_ok (a := 17) (b := 17) (by decide) (by omega) (by decide), ?_⟩
  show if decide (k < (script.length : Int)) = true then _ else _
  by_cases e : k < (script.length : Int)
  · rw [if_pos (by simpa using e)]
    obtain ⟨y, h1, h2⟩ := atI_int k0 e
    exact ⟨y, h1, box_end (natAbs_of_bits (hs y (List.mem_of_getElem? h2))) h⟩
  · rw [if_neg (by simpa using e)]
    refine box_end ?_ h
    have : (7919 * k + 13).natAbs < 2 ^ 30 := by omega
    exact Nat.lt_of_lt_of_le this (Nat.pow_le_pow_right (by decide) (by decide))
end TM
namespace TM
open PySem PySem.Spec PyProof.Rows L2
abbrev abc : List Nat := ("abcdefghijklmnopqrstuvwxyz" : Str).cps.toList
structure NameOk (t : Str) : Prop where
  l1 : 1 ≤ t.length
  l3 : t.length ≤ 3
  ab : ∀ c ∈ t.cps.toList, c ∈ abc
structure SG0 (s : List (Str × Int)) : Prop where
  nm : ∀ x ∈ s, NameOk x.1
  nd : (s.map (·.1)).Nodup
  kd : ∀ x ∈ s, 0 ≤ x.2 ∧ x.2 ≤ 2
structure SG (s : List (Str × Int)) : Prop extends SG0 s where
  n1 : 1 ≤ s.length
  n6 : s.length ≤ 6
  lf : ∃ x ∈ s, x.2 = 0
theorem NameOk.strOk {t : Str} (h : NameOk t) : PySem.PyData.strOk t = true := by
  unfold PySem.PyData.strOk
  rw [Array.all_eq_true_iff_forall_mem]
  intro c hc
  have := h.ab c (by simpa using hc)
  have : ∀ c ∈ abc, c < 0x110000 := by decide +kernel
  exact decide_eq_true (this c (h.ab c (by simpa using hc)))
theorem len_line {n : Nat} (h : n ≤ 1000) : n ≤ sizeLine := Nat.le_trans h (by decide)
theorem len_lt {n : Nat} (h : n ≤ 1000) : n < sizeLine := Nat.lt_of_le_of_lt h (by decide)
theorem tk {n : Int} {P : Int → Prop} (h0 : 0 < n) (h1 : n ≤ 1000000) (h : ∀ d : Int, 0 ≤ d → d < n → P d) : W__law_take n P := ⟨⟨h0, Int.le_trans h1 (by decide)⟩, h⟩
theorem joined : ∀ {l : List Str} {C : Nat → Prop}, (∀ z ∈ l, ∃ c, z = ⟨#[c]⟩ ∧ C c) → (Txt.join ("" : Str) l).length = l.length ∧ ∀ c ∈ (Txt.join ("" : Str) l).cps.toList, C c := by
  intro l C h
  have e : (Txt.join ("" : Str) l).cps.toList = TL.joinL (TL.tl ("" : Str)) (l.map TL.tl) := by rw [TL.join_eq]; exact TL.tl_join _ _
  have gen : ∀ l : List Str, (∀ z ∈ l, ∃ c, z = ⟨#[c]⟩ ∧ C c) → (TL.joinL (TL.tl ("" : Str)) (l.map TL.tl)).length = l.length ∧ ∀ c ∈ TL.joinL (TL.tl ("" : Str)) (l.map TL.tl), C c := by
    intro l
    induction l with
    | nil => intro _; exact ⟨rfl, fun c m => by cases m⟩
    | cons a t ih =>
      intro h
      obtain ⟨c, rfl, hc⟩ := h a List.mem_cons_self
      obtain ⟨i1, i2⟩ := ih fun z m => h z (List.mem_cons_of_mem _ m)
      cases t with
      | nil => exact ⟨rfl, fun d m => by
          have m : d ∈ [c] := m
          rw [List.mem_singleton.mp m]; exact hc⟩
      | cons b t =>
        have e : TL.joinL (TL.tl ("" : Str)) (((⟨#[c]⟩ : Str) :: b :: t).map TL.tl) = c :: TL.joinL (TL.tl ("" : Str)) ((b :: t).map TL.tl) := rfl
        rw [e]
        refine ⟨by rw [List.length_cons, i1]; rfl, fun d m => ?_⟩
        rcases List.mem_cons.mp m with rfl | m
        · exact hc
        · exact i2 d m
  obtain ⟨g1, g2⟩ := gen l h
  refine ⟨?_, by rw [e]; exact g2⟩
  show (Txt.join ("" : Str) l).cps.size = _
  rw [← Array.length_toList, e, g1]
theorem set_map_fst {s : List (Str × Int)} {j : Nat} {y : Str × Int} (h : s[j]? = some y) {k : Int} : (s.set j (y.1, k)).map (·.1) = s.map (·.1) := by
  rw [List.map_set]
  apply List.ext_getElem?
  intro n
  by_cases z : j = n
  · subst z
    rw [List.getElem?_set_self', List.getElem?_map, h]; rfl
  · rw [List.getElem?_set_ne z]
theorem signs_plain {P : List (Str × Int) → Prop} (h : ∀ s, SG s → P s) : W__law_signs P := by
  refine tk (by decide) (by decide) fun r35 a0 a1 => ?_
  refine ⟨rg (by omega) (by omega), ?_⟩
  refine forW_inv (I := fun j s => SG0 s ∧ s.length ≤ j ∧ (0 < j → 1 ≤ s.length)) (j := 0) ⟨⟨(fun x m => by cases m), List.nodup_nil, (fun x m => by cases m)⟩, Nat.le_refl 0, (fun z => absurd z (by decide))⟩ ?_ ?_
  · rintro i x s nx hi ⟨g, hl, h0⟩ hn
    obtain ⟨rfl, hi6⟩ := rangeL_at hi
    have hi6 : i < 6 := by omega
    refine tk (by decide) (by decide) fun r18 b0 b1 => ?_
    refine ⟨rg (by omega) (by omega), by rw [rangeL_len]; exact len_line (by omega), ?_⟩
    refine lcW_ix (I := fun j acc => acc.length = j ∧ ∀ z ∈ acc, ∃ c, z = (⟨#[c]⟩ : Str) ∧ c ∈ abc) (j := 0) ⟨rfl, fun z m => by cases m⟩ ?_ ?_
    · rintro j x acc nx' hj ⟨l1, l2⟩ _ hy
      refine tk (by decide) (by decide) fun r19 c0 c1 => ?_
      refine ⟨by decide, ?_⟩
      obtain ⟨c, hc1, hc2⟩ := atI_int (xs := abc) c0 (by rw [show abc.length = 26 from by decide +kernel]; exact c1)
      refine ⟨c, hc1, hy _ ⟨by rw [List.length_append, l1]; rfl, fun z m => ?_⟩⟩
      rcases List.mem_append.mp m with m | m
      · exact l2 z m
      · rw [List.mem_singleton.mp m]; exact ⟨c, rfl, List.mem_of_getElem? hc2⟩
    · rintro l ⟨l1, l2⟩
      rw [rangeL_len] at l1
      obtain ⟨j1, j2⟩ := joined l2
      have sum : (l.map (·.length)).sum = l.length := by
        clear j1 j2 l1
        induction l with
        | nil => rfl
        | cons a t ih =>
          obtain ⟨c, rfl, _⟩ := l2 a List.mem_cons_self
          rw [List.map_cons, List.sum_cons, ih fun z m => l2 z (List.mem_cons_of_mem _ m), List.length_cons]
          show 1 + _ = _
          omega
      refine ⟨by rw [sum]; show _ + _ * 0 ≤ _; omega, ?_⟩
      have nmok : NameOk (Txt.join ("" : Str) l) := ⟨by rw [j1]; omega, by rw [j1]; omega, j2⟩
      generalize Txt.join ("" : Str) l = nm at *
      refine ⟨len_line (by omega), ?_⟩
      rw [lcW_map, List.nil_append]
      by_cases hin : nm ∈ s.map (·.1)
      · rw [if_neg (by simpa using hin)]
        refine hn s ⟨g, by omega, fun _ => ?_⟩
        cases s with
        | nil => cases hin
        | cons a t => simp
      · rw [if_pos (by simpa using hin)]
        refine tk (by decide) (by decide) fun r17 d0 d1 => ?_
        refine ⟨len_lt (by omega), hn _ ⟨⟨fun x m => ?_, ?_, fun x m => ?_⟩, by rw [List.length_append]; simp; omega, fun _ => by rw [List.length_append]; simp⟩⟩
        · rcases List.mem_append.mp m with m | m
          · exact g.nm x m
          · rw [List.mem_singleton.mp m]; exact nmok
        · rw [List.map_append, List.nodup_append]
          refine ⟨g.nd, by simp, fun a ha b hb => ?_⟩
          have hb : b = nm := by simpa using hb
          rw [hb]; intro z; rw [z] at ha; exact hin ha
        · rcases List.mem_append.mp m with m | m
          · exact g.kd x m
          · rw [List.mem_singleton.mp m]; exact ⟨d0, by omega⟩
  · rintro s ⟨g, hl, h0⟩
    rw [rangeL_len] at hl h0
    have n1 := h0 (by omega)
    refine tk (by omega) (by omega) fun r34 e0 e1 => ?_
    show s.length ≤ sizeLine ∧ _
    refine ⟨len_line (by omega), ?_⟩
    rw [lcW_map, List.nil_append]
    refine ⟨by rw [List.length_map]; omega, fun m hm hall => ?_⟩
    by_cases hp : 0 < m
    · rw [if_pos (by simpa using hp)]
      obtain ⟨y, y1, y2⟩ := atI_int e0 e1
      have ix : ixN s.length r34 = some r34.toNat := by unfold ixN; rw [if_pos e0, if_pos e1]
      refine ⟨y, y1, rfl, _, ix, h _ ⟨⟨fun x m => ?_, by rw [set_map_fst y2]; exact g.nd, fun x m => ?_⟩, by rw [List.length_set]; exact n1, by rw [List.length_set]; omega, (y.1, 0), ?_, rfl⟩⟩
      · rcases List.mem_or_eq_of_mem_set m with m | rfl
        · exact g.nm x m
        · exact g.nm y (List.mem_of_getElem? y2)
      · rcases List.mem_or_eq_of_mem_set m with m | rfl
        · exact g.kd x m
        · exact ⟨Int.le_refl 0, (by show (0 : Int) ≤ 2; decide)⟩
      · refine List.mem_iff_getElem?.mpr ⟨r34.toNat, ?_⟩
        rw [List.getElem?_set_self (List.getElem?_eq_some_iff.mp y2).1]
    · rw [if_neg (by simpa using hp)]
      obtain ⟨x, hx, rfl⟩ := List.mem_map.mp hm
      exact h s ⟨g, n1, by omega, x, hx, by have := (g.kd x hx).1; omega⟩
theorem name_plain {t : Str} {P : Bool → Prop} (g : NameOk t) (h : P true) : W_is_name t 3 P := by
  have l1 := g.l1
  have l3 := g.l3
  refine ⟨len_line (by omega), ?_⟩
  rw [if_pos (by simpa using (by omega : (1 : Int) ≤ (t.length : Int))), if_pos (by simpa using (by omega : (t.length : Int) ≤ 3))]
  have sl : (signsOf t).length = t.length := by show t.cps.toList.length = t.cps.size; rw [Array.length_toList]
  refine ⟨by rw [sl]; exact len_line (by omega), ?_⟩
  rw [lcW_map, List.nil_append]
  have : ((signsOf t).map fun x1 => decide (x1 ∈ abc)).all id = true := by
    rw [List.all_map, List.all_eq_true]
    intro c hc
    exact decide_eq_true (g.ab c hc)
  rw [this]
  exact h
theorem check_book_plain {s : List (Str × Int)} {P : Unit → Prop} (g : SG s) (h : P ()) : W_check_book s P := by
  have n1 := g.n1
  have n6 := g.n6
  show if decide ((1 : Int) ≤ (s.length : Int)) = true then _ else _
  rw [if_pos (by simpa using (by omega : (1 : Int) ≤ (s.length : Int)))]
  show if (!(decide ((s.length : Int) ≤ (6 : Int)))) = true then False else _
  rw [if_neg (by simpa using (by omega : (s.length : Int) ≤ 6))]
  refine forW_inv (I := fun j st => st.1 = (s.take j).map (·.1) ∧ 0 ≤ st.2 ∧ ((∃ x ∈ s.take j, x.2 = 0) → 0 < st.2)) (j := 0) ⟨rfl, Int.le_refl 0, fun ⟨x, m, _⟩ => by cases m⟩ ?_ ?_
  · rintro i x ⟨ns, lv⟩ nx hi ⟨e1, l0, l1⟩ hn
    have e1 : ns = (s.take (0 + i)).map (·.1) := e1
    have mem : x ∈ s := List.mem_of_getElem? hi
    have hil : i < s.length := (List.getElem?_eq_some_iff.mp hi).1
    have tk1 : s.take (0 + i + 1) = s.take (0 + i) ++ [x] := by
      rw [Nat.zero_add, List.take_add_one, hi]; rfl
    refine name_plain (g.nm x mem) ?_
    rw [if_neg (by decide)]
    have nin : x.1 ∉ ns := by
      rw [e1]
      have := g.nd
      have sp : s = s.take (0 + i + 1) ++ s.drop (0 + i + 1) := (List.take_append_drop _ _).symm
      rw [sp, List.map_append, List.nodup_append, tk1, List.map_append, List.nodup_append] at this
      exact fun z => this.1.2.2 _ z x.1 (by simp) rfl
    rw [if_neg (by simpa using nin)]
    have kd := g.kd x mem
    rw [if_pos (by simpa using kd.1)]
    show if (!(decide (x.2 ≤ (2 : Int)))) = true then False else _
    rw [if_neg (by simpa using kd.2)]
    refine ⟨by
      show ns.length < sizeLine
      rw [e1, List.length_map, List.length_take]; exact len_lt (by omega), hn _ ⟨?_, ?_, ?_⟩⟩
    · show ns ++ [x.1] = _
      rw [tk1, List.map_append, e1]; rfl
    · show 0 ≤ lv + _
      have l0 : 0 ≤ lv := l0
      split <;> omega
    · rintro ⟨y, my, hy⟩
      show 0 < lv + _
      have l0 : 0 ≤ lv := l0
      rw [tk1] at my
      rcases List.mem_append.mp my with my | my
      · have : 0 < lv := l1 ⟨y, my, hy⟩
        split <;> omega
      · rw [List.mem_singleton.mp my] at hy
        rw [if_pos (by simpa using hy)]; omega
  · rintro ⟨ns, lv⟩ ⟨e1, l0, l1⟩
    have l1 : 0 < lv := l1 (by rw [Nat.zero_add, List.take_length]; exact g.lf)
    show if decide (lv = 0) = true then False else _
    rw [if_neg (by simpa using (by omega : ¬ lv = 0))]
    exact h
theorem book_plain {s : List (Str × Int)} {P : M_Book → Prop} (g : SG s) (h : P ⟨s.map (·.1), s.map (·.2)⟩) : W_Book___init__ s P := by
  refine check_book_plain g ⟨len_line (by have := g.n6; omega), ?_⟩
  rw [lcW_map, List.nil_append]
  refine ⟨len_line (by have := g.n6; omega), ?_⟩
  rw [lcW_map, List.nil_append]
  exact h
end TM
namespace TM
open PySem PySem.Spec PyProof.Rows L2
/-! ## plain words: rows of trees -/
def kdOf (s : List (Str × Int)) (x : Int) : Int := ((atI s x).map (·.2)).getD 0
def wt (s : List (Str × Int)) (l : List Int) : Int := 1 + (l.map fun x => kdOf s x - 1).sum
theorem wt_snoc {s : List (Str × Int)} {l : List Int} {x : Int} : wt s (l ++ [x]) = wt s l - 1 + kdOf s x := by
  unfold wt; rw [List.map_append, List.sum_append]; simp; omega
theorem wt_nil {s : List (Str × Int)} : wt s [] = 1 := rfl
structure TR (s : List (Str × Int)) (row : List Int) : Prop where
  ins : ∀ x ∈ row, 0 ≤ x ∧ x < s.length
  pos : ∀ j, j < row.length → 1 ≤ wt s (row.take j)
  fin : wt s row = 0
  len : row.length ≤ 40
theorem at_s {s : List (Str × Int)} {x : Int} (h : 0 ≤ x ∧ x < s.length) : ∃ y, atI s x = some y ∧ y ∈ s ∧ kdOf s x = y.2 := by
  obtain ⟨y, h1, h2⟩ := atI_int h.1 h.2
  exact ⟨y, h1, List.mem_of_getElem? h2, by unfold kdOf; rw [h1]; rfl⟩
theorem row_plain {s : List (Str × Int)} {n : Int} {P : List Int → Prop} (g : SG s) (n0 : 1 ≤ n) (n1 : n ≤ 40) (h : ∀ row, TR s row → P row) : W__law_row s n P := by
  have g1 := g.n1
  have g6 := g.n6
  refine ⟨fun m st => m = (2 * (n - st.1.length - st.2) + st.2).toNat ∧ st.2 = wt s st.1 ∧ 0 ≤ st.2 ∧ st.1.length + st.2 ≤ n ∧ (∀ x ∈ st.1, 0 ≤ x ∧ x < s.length) ∧ ∀ j, j < st.1.length → 1 ≤ wt s (st.1.take j), ⟨_, rfl, rfl, by decide, by simpa using n0, (fun x m => by cases m), (fun j m => by cases m)⟩, ?_⟩
  rintro m ⟨row, wn⟩ ⟨em, ew, w0, wl, ins, pos⟩
  have ew : wn = wt s row := ew
  have w0 : 0 ≤ wn := w0
  have wl : (row.length : Int) + wn ≤ n := wl
  by_cases hw : 0 < wn
  · show if decide (0 < wn) = true then _ else _
    rw [if_pos (by simpa using hw)]
    show RgOk _ ∧ _
    refine ⟨rg (by omega) (by omega), by rw [rangeL_len]; exact len_line (by omega), ?_⟩
    have fin : ∀ s17 : List Int, s17 ≠ [] → s17.length ≤ 6 → (∀ x ∈ s17, (0 ≤ x ∧ x < s.length) ∧ (kdOf s x = 0 ∨ kdOf s x ≤ n - row.length - wn)) →
        W__law_take (s17.length : Int) fun r33 => ∃ y28, atI s17 r33 = some y28 ∧ (fun x27 : Int => row.length < sizeLine ∧ (fun x29 : List Int => ∃ y32, atI s x27 = some y32 ∧ (1 : Int) = 1 ∧ (fun x30 : Int => ∃ m', m' < m ∧ (m' = (2 * (n - x29.length - x30) + x30).toNat ∧ x30 = wt s x29 ∧ 0 ≤ x30 ∧ x29.length + x30 ≤ n ∧ (∀ x ∈ x29, 0 ≤ x ∧ x < s.length) ∧ ∀ j, j < x29.length → 1 ≤ wt s (x29.take j))) ((wn - (1 : Int)) + y32.2)) (row ++ [x27])) y28 := by
      intro s17 ne l6 hs
      have lp : 0 < s17.length := List.length_pos_iff.mpr ne
      refine tk (by omega) (by omega) fun r33 a0 a1 => ?_
      obtain ⟨y, h1, h2⟩ := atI_int a0 a1
      have hy := hs y (List.mem_of_getElem? h2)
      obtain ⟨z, z1, z2, z3⟩ := at_s hy.1
      have kz := g.kd z z2
      refine ⟨y, h1, len_lt (by omega), z, z1, rfl, _, ?_, rfl, ?_, ?_, ?_, ?_, ?_⟩
      · rw [em, List.length_append]
        show (2 * (n - ((row.length + 1 : Nat) : Int) - (wn - 1 + z.2)) + (wn - 1 + z.2)).toNat < (2 * (n - row.length - wn) + wn).toNat
        rcases hy.2 with q | q <;> omega
      · rw [wt_snoc, z3, ew]
      · show 0 ≤ wn - 1 + z.2
        omega
      · rw [List.length_append]
        show ((row.length + 1 : Nat) : Int) + (wn - 1 + z.2) ≤ n
        rcases hy.2 with q | q <;> omega
      · intro x mx
        rcases List.mem_append.mp mx with mx | mx
        · exact ins x mx
        · rw [List.mem_singleton.mp mx]; exact hy.1
      · intro j hj
        rw [List.length_append] at hj
        have hj : j < row.length + 1 := hj
        by_cases q : j < row.length
        · rw [List.take_append_of_le_length (by omega)]; exact pos j q
        · have : j = row.length := by omega
          subst this
          rw [List.take_left, ← ew]; omega
    refine lcW_ix (I := fun j (acc : List Int) => acc.length ≤ j ∧ ∀ x ∈ acc, (0 ≤ x ∧ x < s.length) ∧ kdOf s x ≤ n - row.length - wn) (j := 0) (acc := []) ⟨Nat.le_refl 0, (fun x m => by cases m)⟩ ?_ ?_
    · rintro i x acc nx hi ⟨l1, l2⟩ hnone hsome
      obtain ⟨rfl, hi2⟩ := rangeL_at hi
      obtain ⟨y, y1, y2, y3⟩ := at_s (s := s) (x := (i : Int)) ⟨by omega, by omega⟩
      show ∃ y11, atI s (i : Int) = some y11 ∧ _
      refine ⟨y, y1, rfl, ?_⟩
      by_cases q : 0 < y.2
      · rw [if_pos (by simpa using q)]
        by_cases q2 : y.2 ≤ n - row.length - wn
        · show if decide (y.2 ≤ n - (row.length : Int) - wn) = true then _ else _
          rw [if_pos (by simpa using q2)]
          refine hsome _ ⟨by rw [List.length_append]; show acc.length + 1 ≤ _; omega, fun z mz => ?_⟩
          rcases List.mem_append.mp mz with mz | mz
          · exact l2 z mz
          · rw [List.mem_singleton.mp mz]; exact ⟨⟨by omega, by omega⟩, by rw [y3]; exact q2⟩
        · show if decide (y.2 ≤ n - (row.length : Int) - wn) = true then _ else _
          rw [if_neg (by simpa using q2)]
          exact hnone ⟨by omega, l2⟩
      · rw [if_neg (by simpa using q)]
        show if false = true then _ else _
        rw [if_neg (by decide)]
        exact hnone ⟨by omega, l2⟩
    · rintro l ⟨l1, l2⟩
      rw [rangeL_len] at l1
      have zero : RgOk (s.length : Int) ∧ (rangeL 0 (s.length : Int).toNat).length ≤ sizeLine ∧ lcW (rangeL 0 (s.length : Int).toNat) (fun x20 nx21 => ∃ y23, atI s x20 = some y23 ∧ (1 : Int) = 1 ∧ if (decide (y23.2 = (0 : Int))) = true then nx21 (some x20) else nx21 none) [] fun x20l => (fun x19 : List Int => (fun s17 : List Int => W__law_take (s17.length : Int) fun r33 => ∃ y28, atI s17 r33 = some y28 ∧ (fun x27 : Int => row.length < sizeLine ∧ (fun x29 : List Int => ∃ y32, atI s x27 = some y32 ∧ (1 : Int) = 1 ∧ (fun x30 : Int => ∃ m', m' < m ∧ (m' = (2 * (n - x29.length - x30) + x30).toNat ∧ x30 = wt s x29 ∧ 0 ≤ x30 ∧ x29.length + x30 ≤ n ∧ (∀ x ∈ x29, 0 ≤ x ∧ x < s.length) ∧ ∀ j, j < x29.length → 1 ≤ wt s (x29.take j))) ((wn - (1 : Int)) + y32.2)) (row ++ [x27])) y28) x19) x20l := by
        refine ⟨rg (by omega) (by omega), by rw [rangeL_len]; exact len_line (by omega), ?_⟩
        refine lcW_ix (I := fun j (acc : List Int) => acc.length ≤ j ∧ (∀ x ∈ acc, (0 ≤ x ∧ x < s.length) ∧ kdOf s x = 0) ∧ ∀ i : Nat, i < j → i < s.length → kdOf s i = 0 → (i : Int) ∈ acc) (j := 0) ⟨Nat.le_refl 0, (fun x m => by cases m), (fun i q => by omega)⟩ ?_ ?_
        · rintro i x acc nx hi ⟨c1, c2, c3⟩ hnone hsome
          obtain ⟨rfl, hi2⟩ := rangeL_at hi
          obtain ⟨y, y1, y2, y3⟩ := at_s (s := s) (x := (i : Int)) ⟨by omega, by omega⟩
          refine ⟨y, y1, rfl, ?_⟩
          by_cases q : y.2 = 0
          · rw [if_pos (by simpa using q)]
            refine hsome _ ⟨by rw [List.length_append]; show acc.length + 1 ≤ _; omega, fun z mz => ?_, fun k hk hl hz => ?_⟩
            · rcases List.mem_append.mp mz with mz | mz
              · exact c2 z mz
              · rw [List.mem_singleton.mp mz]; exact ⟨⟨by omega, by omega⟩, by rw [y3]; exact q⟩
            · by_cases w : k < 0 + i
              · exact List.mem_append_left _ (c3 k w hl hz)
              · have : k = i := by omega
                rw [this]; simp
          · rw [if_neg (by simpa using q)]
            refine hnone ⟨by omega, c2, fun k hk hl hz => ?_⟩
            by_cases w : k < 0 + i
            · exact c3 k w hl hz
            · have : k = i := by omega
              rw [this, y3] at hz; exact absurd hz q
        · rintro l' ⟨c1, c2, c3⟩
          rw [rangeL_len] at c1 c3
          obtain ⟨x, hx, hx0⟩ := g.lf
          obtain ⟨i, hi, ei⟩ := List.mem_iff_getElem.mp hx
          have ki : kdOf s (i : Int) = 0 := by
            unfold kdOf; rw [atI_nat hi, ei]; exact hx0
          have mem := c3 i (by omega) hi ki
          exact fin l' (fun z => by rw [z] at mem; cases mem) (by omega) fun z mz => ⟨(c2 z mz).1, .inl (c2 z mz).2⟩
      show (_ ∧ _) ∧ _
      refine ⟨⟨fun _ _ => trivial, fun _ _ => trivial⟩, ?_⟩
      by_cases q : l = []
      · rw [if_pos (by simpa using q)]
        show if true = true then _ else _
        rw [if_pos rfl]
        exact zero
      · rw [if_neg (by simpa using q)]
        refine tk (by decide) (by decide) fun r26 b0 b1 => ?_
        by_cases q2 : r26 = 0
        · show if decide (r26 = 0) = true then _ else _
          rw [if_pos (by simpa using q2)]
          exact zero
        · show if decide (r26 = 0) = true then _ else _
          rw [if_neg (by simpa using q2)]
          exact fin l q (by omega) fun z mz => ⟨(l2 z mz).1, .inr (l2 z mz).2⟩
  · show if decide (0 < wn) = true then _ else _
    rw [if_neg (by simpa using hw)]
    exact h row ⟨ins, pos, by rw [← ew]; omega, by omega⟩
def bk (s : List (Str × Int)) : M_Book := ⟨s.map (·.1), s.map (·.2)⟩
theorem kids_plain {s : List (Str × Int)} {x : Int} {P : Int → Prop} (hx : 0 ≤ x ∧ x < s.length) (h : P (kdOf s x)) : W_Book_kids (bk s) x P := by
  obtain ⟨y, h1, h2⟩ := atI_int hx.1 hx.2
  refine ⟨kdOf s x, ?_, h⟩
  unfold kdOf
  rw [h1]
  show atI (s.map (·.2)) x = some y.2
  unfold atI ixN
  rw [List.length_map, if_pos hx.1, if_pos hx.2]
  show (s.map (·.2))[x.toNat]? = _
  rw [List.getElem?_map, h2]; rfl
theorem kd_bound {s : List (Str × Int)} (g : SG s) {x : Int} (hx : 0 ≤ x ∧ x < s.length) : 0 ≤ kdOf s x ∧ kdOf s x ≤ 2 := by
  obtain ⟨y, h1, h2, h3⟩ := at_s hx
  rw [h3]; exact g.kd y h2
theorem end_plain {s : List (Str × Int)} {row : List Int} {P : Int → Prop} (t : TR s row) (h : P (row.length : Int)) : W_end_of (bk s) row 0 P := by
  have len := t.len
  have ne : 0 < row.length := by
    cases row with
    | nil => have := t.fin; rw [wt_nil] at this; cases this
    | cons a r => simp
  refine ⟨⟨rg (by decide) (by decide), rg (by omega) (by omega)⟩, ?_⟩
  refine forW_inv (I := fun j w => j < row.length ∧ w = wt s (row.take j)) (j := 0) ⟨ne, rfl⟩ ?_ ?_
  · rintro i x w nx hi ⟨hj, rfl⟩ hn
    obtain ⟨rfl, hi2⟩ := rangeL_at hi
    have hil : i < row.length := by omega
    have hx := t.ins row[i] (List.getElem_mem hil)
    refine ⟨row[i], atI_nat hil, ?_⟩
    rw [if_pos (by simpa using hx.1)]
    show if (!decide (row[i] < ((s.map (·.1)).length : Int))) = true then _ else _
    rw [List.length_map, if_neg (by simpa using hx.2)]
    refine ⟨row[i], atI_nat hil, kids_plain hx ?_⟩
    have e : wt s (row.take (0 + i)) + kdOf s row[i] - 1 = wt s (row.take (0 + i + 1)) := by
      rw [show row.take (0 + i + 1) = row.take (0 + i) ++ [row[i]] by rw [Nat.zero_add, List.take_add_one, List.getElem?_eq_getElem hil]; rfl, wt_snoc]; omega
    show if decide (wt s (row.take (0 + i)) + kdOf s row[i] - 1 = 0) = true then _ else _
    rw [e]
    by_cases q : 0 + i + 1 < row.length
    · have := t.pos _ q
      rw [if_neg (by simpa using (by omega : ¬ wt s (row.take (0 + i + 1)) = 0))]
      exact hn _ ⟨q, rfl⟩
    · have eq : 0 + i + 1 = row.length := by omega
      rw [eq, List.take_length, t.fin, if_pos (by decide)]
      rw [show ((i : Int) + 1) = (row.length : Int) by omega]; exact h
  · rintro w ⟨hj, _⟩
    rw [rangeL_len] at hj
    omega
theorem check_tree_plain {s : List (Str × Int)} {row : List Int} {P : Unit → Prop} (t : TR s row) (h : P ()) : W_check_tree (bk s) row P := by
  have len := t.len
  show if decide ((row.length : Int) ≤ 40) = true then _ else _
  rw [if_pos (by simpa using (by omega : (row.length : Int) ≤ 40))]
  refine end_plain t ?_
  show if (!decide ((row.length : Int) = (row.length : Int))) = true then False else P ()
  rw [if_neg (by simp)]
  exact h
end TM
namespace TM
open PySem PySem.Spec PyProof.Rows L2
/-! slices -/
theorem cut_nat {α : Type} {l : List α} {a b : Nat} (h1 : a ≤ b) (h2 : b ≤ l.length) : cutL l (some (a : Int)) (some (b : Int)) = (l.take b).drop a := by
  unfold cutL
  rw [show HT.sIx l.length 0 (some (a : Int)) = a from (HT.sIx_nat _ _ _).trans (Nat.min_eq_left (by omega)), show HT.sIx l.length l.length (some (b : Int)) = b from (HT.sIx_nat _ _ _).trans (Nat.min_eq_left (by omega)), List.drop_take]
theorem cut_to {α : Type} {l : List α} {b : Nat} (h2 : b ≤ l.length) : cutL l none (some (b : Int)) = l.take b := by
  unfold cutL
  rw [show HT.sIx l.length 0 none = 0 from rfl, show HT.sIx l.length l.length (some (b : Int)) = b from (HT.sIx_nat _ _ _).trans (Nat.min_eq_left (by omega))]; rfl
theorem cut_from {α : Type} {l : List α} {a : Nat} (h1 : a ≤ l.length) : cutL l (some (a : Int)) none = l.drop a := by
  unfold cutL
  rw [show HT.sIx l.length 0 (some (a : Int)) = a from (HT.sIx_nat _ _ _).trans (Nat.min_eq_left (by omega)), show HT.sIx l.length l.length none = l.length from rfl]
  exact List.take_of_length_le (by rw [List.length_drop]; exact Nat.le_refl _)
end TM
namespace TM
open PySem PySem.Spec PyProof.Rows L2
/-! ## plain words: loops that put behind -/
theorem forW_flat {α δ β : Type} {f : α → List β → (List β → Prop) → Prop} {e : δ → α} {h : δ → List β} {N : Nat} : ∀ {ts : List δ} {s : List β} {k : List β → Prop}, (∀ t ∈ ts, ∀ (s : List β) nx, s.length + (h t).length ≤ N → nx (s ++ h t) → f (e t) s nx) → s.length + (ts.flatMap h).length ≤ N → k (s ++ ts.flatMap h) → forW (ts.map e) s f k
  | [], s, k, _, _, hk => by
    show k s
    simpa using hk
  | t :: ts, s, k, hf, hl, hk => by
    rw [List.flatMap_cons, List.length_append] at hl
    refine hf t List.mem_cons_self s _ (by omega) ?_
    refine forW_flat (fun t' m => hf t' (List.mem_cons_of_mem _ m)) (by rw [List.length_append]; omega) ?_
    rw [List.append_assoc, ← List.flatMap_cons]; exact hk
theorem lcW_of {α δ β : Type} {f : α → (Option β → Prop) → Prop} {e : δ → α} {h : δ → β} : ∀ {ts : List δ} {acc : List β} {k : List β → Prop}, (∀ t ∈ ts, ∀ nx : Option β → Prop, nx (some (h t)) → f (e t) nx) → k (acc ++ ts.map h) → lcW (ts.map e) f acc k
  | [], acc, k, _, hk => by
    show k acc
    simpa using hk
  | t :: ts, acc, k, hf, hk => by
    refine hf t List.mem_cons_self _ ?_
    show lcW (ts.map e) f (acc ++ [h t]) k
    refine lcW_of (fun t' m => hf t' (List.mem_cons_of_mem _ m)) ?_
    rw [List.append_assoc]
    simpa using hk
theorem rangeL_map {n : Nat} : rangeL 0 n = (List.range n).map fun i : Nat => (i : Int) := by
  unfold rangeL
  apply List.map_congr_left
  intro i _
  omega
theorem atI_getE {α : Type} {l : List α} {i : Nat} {x : α} (h : l[i]? = some x) : atI l (i : Int) = some x := by
  have hi := (List.getElem?_eq_some_iff.mp h).1
  rw [atI_nat hi, ← List.getElem?_eq_getElem hi, h]
theorem forW_app {α S : Type} {f : α → S → (S → Prop) → Prop} {k : S → Prop} : ∀ {xs ys : List α} {s : S}, forW (xs ++ ys) s f k = forW xs s f fun s' => forW ys s' f k
  | [], _, _ => rfl
  | x :: xs, ys, s => by show f x s _ = f x s _; congr 1; funext s'; exact forW_app
theorem forW_sum {α δ : Type} {f : α → Int → (Int → Prop) → Prop} {e : δ → α} {h : δ → Int} : ∀ {ts : List δ} {s : Int} {k : Int → Prop}, (∀ t ∈ ts, ∀ (s : Int) nx, nx (s + h t) → f (e t) s nx) → k (s + (ts.map h).sum) → forW (ts.map e) s f k
  | [], s, k, _, hk => by
    show k s
    simpa using hk
  | t :: ts, s, k, hf, hk => by
    refine hf t List.mem_cons_self s _ ?_
    refine forW_sum (fun t' m => hf t' (List.mem_cons_of_mem _ m)) ?_
    rw [List.map_cons, List.sum_cons, ← Int.add_assoc] at hk; exact hk
end TM
namespace TM
open PySem PySem.Spec PyProof.Rows L2
theorem lcW_ofI {α β : Type} {f : α → (Option β → Prop) → Prop} {h : α → β} {ts : List α} {acc : List β} {k : List β → Prop} (hf : ∀ t ∈ ts, ∀ nx : Option β → Prop, nx (some (h t)) → f t nx) (hk : k (acc ++ ts.map h)) : lcW ts f acc k := by
  have := lcW_of (e := fun t : α => t) (ts := ts) (f := f) (acc := acc) (k := k) hf hk
  rwa [List.map_id'] at this
theorem forW_flatI {α β : Type} {f : α → List β → (List β → Prop) → Prop} {h : α → List β} {N : Nat} {ts : List α} {s : List β} {k : List β → Prop} (hf : ∀ t ∈ ts, ∀ (s : List β) nx, s.length + (h t).length ≤ N → nx (s ++ h t) → f t s nx) (hl : s.length + (ts.flatMap h).length ≤ N) (hk : k (s ++ ts.flatMap h)) : forW ts s f k := by
  have := forW_flat (e := fun t : α => t) (ts := ts) (f := f) (s := s) (k := k) hf hl hk
  rwa [List.map_id'] at this
theorem forW_all {α : Type} {f : α → Unit → (Unit → Prop) → Prop} {F : Prop} (good : α → Prop) : ∀ {xs : List α} {k : Unit → Prop}, (∀ x ∈ xs, ∀ nx : Unit → Prop, (good x → nx ()) → (¬ good x → F) → f x () nx) → ((∀ x ∈ xs, good x) → k ()) → ((∃ x ∈ xs, ¬ good x) → F) → forW xs () f k
  | [], k, _, hk, _ => hk fun x m => by cases m
  | x :: xs, k, hf, hk, hF => by
    refine hf x List.mem_cons_self _ (fun gx => ?_) fun nx => hF ⟨x, List.mem_cons_self, nx⟩
    refine forW_all good (fun y m => hf y (List.mem_cons_of_mem _ m)) (fun h => hk fun y m => ?_) fun ⟨y, m, hy⟩ => hF ⟨y, List.mem_cons_of_mem _ m, hy⟩
    rcases List.mem_cons.mp m with rfl | m
    · exact gx
    · exact h y m
/-! tables -/
theorem look_mem {κ β : Type} [DecidableEq κ] {d : List (κ × β)} {k : κ} : (lookA d k).isSome = true ↔ k ∈ d.map (·.1) := by
  induction d with
  | nil => simp [lookA]
  | cons p d ih =>
    rw [lookA_cons, List.map_cons, List.mem_cons]
    by_cases e : p.1 = k
    · rw [if_pos e]; simp [e]
    · rw [if_neg e, ih]
      exact ⟨fun h => .inr h, fun h => h.elim (fun z => absurd z.symm e) id⟩
theorem keys_put {κ β : Type} [DecidableEq κ] {d : List (κ × β)} {k : κ} {v : β} : (putA d k v).map (·.1) = if k ∈ d.map (·.1) then d.map (·.1) else d.map (·.1) ++ [k] := by
  unfold putA
  by_cases h : (lookA d k).isSome = true
  · rw [if_pos h, if_pos (look_mem.mp h), List.map_map]
    apply List.map_congr_left
    intro p _
    show (if p.1 = k then (p.1, v) else p).1 = p.1
    split <;> rfl
  · rw [if_neg h, if_neg fun z => h (look_mem.mpr z)]
    simp
/-! all rows of so many things -/
def chs {α : Type} (xs : List α) : Nat → List (List α)
  | 0 => [[]]
  | n + 1 => (chs xs n).flatMap fun r => xs.map fun x => r ++ [x]
theorem mem_chs {α : Type} {xs : List α} : ∀ {n : Nat} {r : List α}, r ∈ chs xs n ↔ r.length = n ∧ ∀ x ∈ r, x ∈ xs
  | 0, r => by
    show r ∈ [[]] ↔ _
    rw [List.mem_singleton]
    exact ⟨fun e => by rw [e]; exact ⟨rfl, fun x m => by cases m⟩, fun h => List.length_eq_zero_iff.mp h.1⟩
  | n + 1, r => by
    show r ∈ (chs xs n).flatMap _ ↔ _
    rw [List.mem_flatMap]
    constructor
    · rintro ⟨q, hq, hr⟩
      obtain ⟨x, hx, rfl⟩ := List.mem_map.mp hr
      obtain ⟨h1, h2⟩ := mem_chs.mp hq
      refine ⟨by rw [List.length_append, h1]; rfl, fun y m => ?_⟩
      rcases List.mem_append.mp m with m | m
      · exact h2 y m
      · rw [List.mem_singleton.mp m]; exact hx
    · rintro ⟨h1, h2⟩
      rcases List.eq_nil_or_concat r with rfl | ⟨q, y, rfl⟩
      · cases h1
      · rw [List.concat_eq_append] at h1 h2 ⊢
        rw [List.length_append] at h1
        have h1 : q.length + 1 = n + 1 := h1
        exact ⟨q, mem_chs.mpr ⟨by omega, fun x m => h2 x (List.mem_append_left _ m)⟩, List.mem_map.mpr ⟨y, h2 y (by simp), rfl⟩⟩
theorem len_flatC {α β : Type} {f : α → List β} {c : Nat} : ∀ {l : List α}, (∀ x ∈ l, (f x).length = c) → (l.flatMap f).length = l.length * c
  | [], _ => by simp
  | x :: l, h => by
    rw [List.flatMap_cons, List.length_append, h x List.mem_cons_self, len_flatC fun y m => h y (List.mem_cons_of_mem _ m), List.length_cons, Nat.add_mul, Nat.one_mul, Nat.add_comm]
theorem chs_len {α : Type} (xs : List α) : ∀ n, (chs xs n).length = xs.length ^ n
  | 0 => rfl
  | n + 1 => by
    show ((chs xs n).flatMap _).length = _
    rw [len_flatC (c := xs.length) fun r _ => List.length_map _, chs_len xs n, Nat.pow_succ]
theorem choices_gen {α : Type} {xs : List α} {k : Int} {P : List (List α) → Prop} (k0 : 0 ≤ k) (k2 : k ≤ 2) (hl : xs.length ≤ 1000) (hp : P (chs xs k.toNat)) :
    (fun x1 : List (List α) => RgOk k ∧ forW (rangeL 0 k.toNat) x1 (fun x3 s2 nx4 => (fun x6 : List (List α) => forW s2 x6 (fun x8 s7 nx9 => xs.length ≤ sizeLine ∧ lcW xs (fun x12 nx13 => x8.length + ([x12] : List α).length ≤ sizeLine ∧ nx13 (some (x8 ++ ([x12] : List α)))) [] fun x12l => s7.length + x12l.length ≤ sizeLine ∧ (fun x11 : List (List α) => nx9 x11) (s7 ++ x12l)) (fun s7 => (fun x14 : List (List α) => nx4 x14) s7)) ([] : List (List α))) (fun s2 => P s2)) ([([] : List α)] : List (List α)) := by
  refine ⟨⟨by omega, by omega⟩, ?_⟩
  refine forW_inv (I := fun j st => st = chs xs j) (j := 0) rfl ?_ ?_
  · rintro i x st nx hi rfl hn
    have hi2 : i < k.toNat := by
      have := (List.getElem?_eq_some_iff.mp hi).1
      rwa [rangeL_len] at this
    rw [Nat.zero_add] at hn ⊢
    have lm : (chs xs (i + 1)).length ≤ 1000000 := by
      rw [chs_len]
      have : i + 1 ≤ 2 := by omega
      rcases (show i = 0 ∨ i = 1 by omega) with rfl | rfl
      · show xs.length ^ 1 ≤ _; rw [Nat.pow_one]; omega
      · show xs.length ^ 2 ≤ _
        have := Nat.pow_le_pow_left hl 2
        omega
    refine forW_flatI (h := fun r => xs.map fun x => r ++ [x]) (N := 1000000) ?_ (by rw [List.length_nil, Nat.zero_add]; exact lm) ?_
    · intro r mr s nx2 hs hx
      have rl := (mem_chs.mp mr).1
      refine ⟨len_line hl, lcW_ofI (h := fun x => r ++ [x]) (fun x mx nx3 h3 => ⟨len_line (by show r.length + 1 ≤ 1000; omega), h3⟩) ?_⟩
      rw [List.nil_append]
      exact ⟨Nat.le_trans hs (by decide), hx⟩
    · rw [List.nil_append]
      exact hn _ rfl
  · rintro st rfl
    rw [rangeL_len, Nat.zero_add]; exact hp
theorem tkB {n : Int} {P : Int → Prop} (h0 : 0 < n) (h1 : n ≤ 2 ^ 100) (h : ∀ d : Int, 0 ≤ d → d < n → P d) : W__law_take n P := ⟨⟨h0, h1⟩, h⟩
theorem nodup_lt : ∀ (n : Nat) (l : List Nat), l.Nodup → (∀ x ∈ l, x < n) → l.length ≤ n
  | 0, [], _, _ => Nat.le_refl _
  | 0, x :: l, _, h => absurd (h x List.mem_cons_self) (Nat.not_lt_zero _)
  | n + 1, l, nd, h => by
    by_cases m : n ∈ l
    · have := nodup_lt n (l.erase n) (nd.erase n) fun x mx => by
        have h1 := (List.Nodup.mem_erase_iff nd).mp mx
        have := h x h1.2
        have := h1.1
        omega
      rw [List.length_erase_of_mem m] at this
      omega
    · have := nodup_lt n l nd fun x mx => by
        have := h x mx
        have : x ≠ n := fun e => m (by rw [← e]; exact mx)
        omega
      omega
end TM
namespace TM
open PySem PySem.Spec PyProof.Rows L2
/-! ## plain words: trees themselves -/
inductive Tre where
  | l (x : Int) : Tre
  | u (x : Int) (a : Tre) : Tre
  | b (x : Int) (a c : Tre) : Tre
deriving DecidableEq
namespace Tre
def row : Tre → List Int
  | l x => [x]
  | u x a => x :: a.row
  | b x a c => x :: (a.row ++ c.row)
def sz : Tre → Nat
  | l _ => 1
  | u _ a => a.sz + 1
  | b _ a c => a.sz + c.sz + 1
def sg : Tre → Int
  | l x => x
  | u x _ => x
  | b x _ _ => x
def kids : Tre → List Tre
  | l _ => []
  | u _ a => [a]
  | b _ a c => [a, c]
def Ok (s : List (Str × Int)) : Tre → Prop
  | l x => (0 ≤ x ∧ x < s.length) ∧ kdOf s x = 0
  | u x a => (0 ≤ x ∧ x < s.length) ∧ kdOf s x = 1 ∧ a.Ok s
  | b x a c => (0 ≤ x ∧ x < s.length) ∧ kdOf s x = 2 ∧ a.Ok s ∧ c.Ok s
theorem row_len : ∀ t : Tre, t.row.length = t.sz
  | l _ => rfl
  | u _ a => by show a.row.length + 1 = _; rw [row_len a]; rfl
  | b _ a c => by show (a.row ++ c.row).length + 1 = _; rw [List.length_append, row_len a, row_len c]; rfl
theorem sz_pos : ∀ t : Tre, 1 ≤ t.sz
  | l _ => Nat.le_refl _
  | u _ _ => Nat.succ_le_succ (Nat.zero_le _)
  | b _ _ _ => Nat.succ_le_succ (Nat.zero_le _)
theorem row_head (t : Tre) : ∃ r, t.row = t.sg :: r := by
  cases t <;> exact ⟨_, rfl⟩
theorem ok_sg {s : List (Str × Int)} : ∀ {t : Tre}, t.Ok s → 0 ≤ t.sg ∧ t.sg < s.length
  | l _, h => h.1
  | u _ _, h => h.1
  | b _ _ _, h => h.1
theorem ok_kd {s : List (Str × Int)} : ∀ {t : Tre}, t.Ok s → kdOf s t.sg = (t.kids.length : Int)
  | l _, h => h.2
  | u _ _, h => h.2.1
  | b _ _ _, h => h.2.1
theorem ok_kids {s : List (Str × Int)} : ∀ {t : Tre}, t.Ok s → ∀ k ∈ t.kids, k.Ok s
  | l _, _, k, m => by cases m
  | u _ a, h, k, m => by rw [List.mem_singleton.mp m]; exact h.2.2
  | b _ a c, h, k, m => by
    rcases List.mem_cons.mp m with rfl | m
    · exact h.2.2.1
    · rw [List.mem_singleton.mp m]; exact h.2.2.2
theorem ins {s : List (Str × Int)} : ∀ {t : Tre}, t.Ok s → ∀ x ∈ t.row, 0 ≤ x ∧ x < s.length
  | l _, h, y, m => by rw [List.mem_singleton.mp m]; exact h.1
  | u _ a, h, y, m => by
    rcases List.mem_cons.mp m with rfl | m
    · exact h.1
    · exact ins h.2.2 y m
  | b _ a c, h, y, m => by
    rcases List.mem_cons.mp m with rfl | m
    · exact h.1
    · rcases List.mem_append.mp m with m | m
      · exact ins h.2.2.1 y m
      · exact ins h.2.2.2 y m
end Tre
def sm (s : List (Str × Int)) (l : List Int) : Int := (l.map fun x => kdOf s x - 1).sum
theorem sm_nil {s : List (Str × Int)} : sm s [] = 0 := rfl
theorem sm_cons {s : List (Str × Int)} {x : Int} {l : List Int} : sm s (x :: l) = kdOf s x - 1 + sm s l := by unfold sm; rw [List.map_cons, List.sum_cons]
theorem sm_app {s : List (Str × Int)} {l m : List Int} : sm s (l ++ m) = sm s l + sm s m := by unfold sm; rw [List.map_append, List.sum_append]
theorem wt_sm {s : List (Str × Int)} {l : List Int} : wt s l = 1 + sm s l := rfl
/-- the prefixes of a row of trees -/
theorem tre_sm {s : List (Str × Int)} : ∀ {t : Tre}, t.Ok s → sm s t.row = -1 ∧ ∀ j, j < t.row.length → 0 ≤ sm s (t.row.take j)
  | .l x, h => by
    have h2 := h.2
    refine ⟨by show sm s [x] = -1; rw [sm_cons, sm_nil, h2]; rfl, fun j hj => ?_⟩
    have hj : j < 1 := hj
    rw [show j = 0 by omega]; exact Int.le_refl 0
  | .u x a, h => by
    obtain ⟨e, p⟩ := tre_sm h.2.2
    have h2 := h.2.1
    refine ⟨by show sm s (x :: a.row) = -1; rw [sm_cons, e, h2]; rfl, fun j hj => ?_⟩
    cases j with
    | zero => exact Int.le_refl 0
    | succ j =>
      have hj : j + 1 < a.row.length + 1 := hj
      show 0 ≤ sm s (x :: a.row.take j)
      rw [sm_cons, h2]
      have := p j (by omega)
      omega
  | .b x a c, h => by
    obtain ⟨e, p⟩ := tre_sm h.2.2.1
    obtain ⟨e', p'⟩ := tre_sm h.2.2.2
    have h2 := h.2.1
    refine ⟨by show sm s (x :: (a.row ++ c.row)) = -1; rw [sm_cons, sm_app, e, e', h2]; rfl, fun j hj => ?_⟩
    cases j with
    | zero => exact Int.le_refl 0
    | succ j =>
      have hj : j + 1 < (a.row ++ c.row).length + 1 := hj
      rw [List.length_append] at hj
      show 0 ≤ sm s (x :: (a.row ++ c.row).take j)
      rw [sm_cons, h2, List.take_append, sm_app]
      by_cases q : j < a.row.length
      · have := p j q
        rw [show j - a.row.length = 0 by omega, List.take_zero, sm_nil]
        omega
      · rw [List.take_of_length_le (by omega), e]
        have := p' (j - a.row.length) (by omega)
        omega
theorem tre_TR {s : List (Str × Int)} {t : Tre} (h : t.Ok s) (l : t.sz ≤ 40) : TR s t.row :=
  ⟨Tre.ins h, fun j hj => by rw [wt_sm]; have := (tre_sm h).2 j hj; omega, by rw [wt_sm, (tre_sm h).1]; rfl, by rw [Tre.row_len]; exact l⟩
/-- a row of so many trees is cut -/
theorem tre_many {s : List (Str × Int)} (g : SG s) : ∀ (l : List Int) (k : Nat), (∀ x ∈ l, 0 ≤ x ∧ x < s.length) → (k : Int) + sm s l = 0 → (∀ j, j < l.length → 1 ≤ (k : Int) + sm s (l.take j)) → ∃ ts : List Tre, ts.length = k ∧ (∀ t ∈ ts, t.Ok s) ∧ l = (ts.map Tre.row).flatten
  | [], k, _, h, _ => by
    rw [sm_nil] at h
    exact ⟨[], by show 0 = k; omega, (fun t m => by cases m), rfl⟩
  | x :: l, k, hi, h, hp => by
    have hx := hi x List.mem_cons_self
    have kb := kd_bound g hx
    have k1 := hp 0 (by simp)
    have k1 : 1 ≤ (k : Int) + 0 := k1
    rw [sm_cons] at h
    obtain ⟨ts, l1, l2, l3⟩ := tre_many g l (k - 1 + (kdOf s x).toNat) (fun y m => hi y (List.mem_cons_of_mem _ m)) (by omega) fun j hj => by
      have := hp (j + 1) (by rw [List.length_cons]; omega)
      rw [List.take_succ_cons, sm_cons] at this
      omega
    have e : kdOf s x = 0 ∨ kdOf s x = 1 ∨ kdOf s x = 2 := by omega
    rcases e with e | e | e
    · refine ⟨.l x :: ts, by rw [List.length_cons, l1, e]; show k - 1 + 0 + 1 = k; omega, fun t m => ?_, by rw [l3]; rfl⟩
      rcases List.mem_cons.mp m with rfl | m
      · exact ⟨hx, e⟩
      · exact l2 t m
    · rw [e, show (1 : Int).toNat = 1 from rfl] at l1
      match ts, l1 with
      | a :: ts, l1 =>
        rw [List.length_cons] at l1
        refine ⟨.u x a :: ts, by rw [List.length_cons]; omega, fun t m => ?_, by rw [l3]; rfl⟩
        rcases List.mem_cons.mp m with rfl | m
        · exact ⟨hx, e, l2 a List.mem_cons_self⟩
        · exact l2 t (List.mem_cons_of_mem _ m)
      | [], l1 => exact absurd l1 (by simp)
    · rw [e, show (2 : Int).toNat = 2 from rfl] at l1
      match ts, l1 with
      | a :: c :: ts, l1 =>
        rw [List.length_cons, List.length_cons] at l1
        refine ⟨.b x a c :: ts, by rw [List.length_cons]; omega, fun t m => ?_, by rw [l3]; show x :: (a.row ++ (c.row ++ _)) = x :: (a.row ++ c.row) ++ _; simp⟩
        rcases List.mem_cons.mp m with rfl | m
        · exact ⟨hx, e, l2 a List.mem_cons_self, l2 c (by simp)⟩
        · exact l2 t (by simp [m])
      | [_], l1 => exact absurd l1 (by simp)
      | [], l1 => exact absurd l1 (by simp)
theorem tre_of {s : List (Str × Int)} (g : SG s) {row : List Int} (t : TR s row) : ∃ u : Tre, u.Ok s ∧ u.row = row ∧ u.sz ≤ 40 := by
  have f := t.fin
  rw [wt_sm] at f
  obtain ⟨ts, l1, l2, l3⟩ := tre_many g row 1 t.ins (by omega) fun j hj => by
    have := t.pos j hj
    rw [wt_sm] at this; exact this
  match ts, l1 with
  | [u], _ =>
    have e : row = u.row := by rw [l3]; simp
    exact ⟨u, l2 u (by simp), e.symm, by rw [← Tre.row_len, ← e]; exact t.len⟩
theorem tre_inj {s : List (Str × Int)} : ∀ {a b : Tre} {r q : List Int}, a.Ok s → b.Ok s → a.row ++ r = b.row ++ q → a = b ∧ r = q
  | .l x, .l y, r, q, _, _, h => by
    have h : x :: r = y :: q := h
    injection h with h1 h2
    exact ⟨by rw [h1], h2⟩
  | .u x a, .u y b, r, q, h1, h2, h => by
    have h : x :: (a.row ++ r) = y :: (b.row ++ q) := h
    injection h with e e2
    obtain ⟨i1, i2⟩ := tre_inj h1.2.2 h2.2.2 e2
    exact ⟨by rw [e, i1], i2⟩
  | .b x a c, .b y b d, r, q, h1, h2, h => by
    have h : x :: ((a.row ++ c.row) ++ r) = y :: ((b.row ++ d.row) ++ q) := h
    injection h with e e2
    rw [List.append_assoc, List.append_assoc] at e2
    obtain ⟨i1, i2⟩ := tre_inj h1.2.2.1 h2.2.2.1 e2
    obtain ⟨j1, j2⟩ := tre_inj h1.2.2.2 h2.2.2.2 i2
    exact ⟨by rw [e, i1, j1], j2⟩
  | .l x, .u y b, r, q, h1, h2, h => by
    injection h with e _
    have := h1.2; have := h2.2.1; rw [e] at *; omega
  | .l x, .b y b d, r, q, h1, h2, h => by
    injection h with e _
    have := h1.2; have := h2.2.1; rw [e] at *; omega
  | .u x a, .l y, r, q, h1, h2, h => by
    injection h with e _
    have := h1.2.1; have := h2.2; rw [e] at *; omega
  | .u x a, .b y b d, r, q, h1, h2, h => by
    injection h with e _
    have := h1.2.1; have := h2.2.1; rw [e] at *; omega
  | .b x a c, .l y, r, q, h1, h2, h => by
    injection h with e _
    have := h1.2.1; have := h2.2; rw [e] at *; omega
  | .b x a c, .u y b, r, q, h1, h2, h => by
    injection h with e _
    have := h1.2.1; have := h2.2.1; rw [e] at *; omega
theorem tre_inj0 {s : List (Str × Int)} {a b : Tre} (h1 : a.Ok s) (h2 : b.Ok s) (h : a.row = b.row) : a = b := (tre_inj h1 h2 (r := []) (q := []) (by rw [h])).1
theorem tr_ne {s : List (Str × Int)} {row : List Int} (t : TR s row) : 0 < row.length := by
  cases row with
  | nil => have := t.fin; rw [wt_nil] at this; cases this
  | cons a r => simp
/-! a row read from the right -/
def Tre.run {γ : Type} (sp : Tre → γ → γ) : Tre → γ → γ
  | .l x, g => sp (.l x) g
  | .u x a, g => sp (.u x a) (a.run sp g)
  | .b x a c, g => sp (.b x a c) (a.run sp (c.run sp g))
theorem forW_tre {σ β γ : Type} {s : List (Str × Int)} {put : List β → γ → σ} {val : Tre → β} {sp : Tre → γ → γ} {f : Int → σ → (σ → Prop) → Prop} {N : Nat} {I : Nat → γ → Prop} (up : ∀ t n g, I n g → I (n + 1) (sp t g))
    (hf : ∀ (t : Tre) st n g nx, t.Ok s → st.length + t.kids.length ≤ N → n ≤ N → I n g → nx (put (st ++ [val t]) (sp t g)) → f t.sg (put (st ++ t.kids.reverse.map val) g) nx) :
    ∀ (t : Tre), t.Ok s → ∀ st n g k, st.length + t.sz ≤ N → n + t.sz ≤ N → I n g → (I (n + t.sz) (t.run sp g) → k (put (st ++ [val t]) (t.run sp g))) → forW t.row.reverse (put st g) f k
  | .l x, h, st, n, g, k, hl, hn, hi, hk => by
    have hl : st.length + 1 ≤ N := hl
    have hn : n + 1 ≤ N := hn
    have := hf (.l x) st n g k h (by show st.length + 0 ≤ N; omega) (by omega) hi (hk (up _ _ _ hi))
    rw [show st ++ (Tre.l x).kids.reverse.map val = st by simp [Tre.kids]] at this
    exact this
  | .u x a, h, st, n, g, k, hl, hn, hi, hk => by
    have hl : st.length + (a.sz + 1) ≤ N := hl
    have hn : n + (a.sz + 1) ≤ N := hn
    have ap := a.sz_pos
    show forW (x :: a.row).reverse _ f k
    rw [List.reverse_cons, forW_app]
    refine forW_tre up hf a h.2.2 st n g _ (by omega) (by omega) hi fun hi2 => ?_
    show f x _ _
    exact hf (.u x a) st (n + a.sz) (a.run sp g) k h (by show st.length + 1 ≤ N; omega) (by omega) hi2 (hk (up _ _ _ hi2))
  | .b x a c, h, st, n, g, k, hl, hn, hi, hk => by
    have hl : st.length + (a.sz + c.sz + 1) ≤ N := hl
    have hn : n + (a.sz + c.sz + 1) ≤ N := hn
    have ap := a.sz_pos
    have cp := c.sz_pos
    show forW (x :: (a.row ++ c.row)).reverse _ f k
    rw [List.reverse_cons, List.reverse_append, forW_app, forW_app]
    refine forW_tre up hf c h.2.2.2 st n g _ (by omega) (by omega) hi fun hi2 => ?_
    refine forW_tre up hf a h.2.2.1 (st ++ [val c]) (n + c.sz) (c.run sp g) _ (by rw [List.length_append]; show st.length + 1 + _ ≤ N; omega) (by omega) hi2 fun hi3 => ?_
    show f x _ _
    have hi3 : I (n + (a.sz + c.sz)) (a.run sp (c.run sp g)) := by rw [show n + (a.sz + c.sz) = n + c.sz + a.sz by omega]; exact hi3
    have := hf (.b x a c) st (n + (a.sz + c.sz)) (a.run sp (c.run sp g)) k h (by show st.length + 2 ≤ N; omega) (by omega) hi3 (hk (up _ _ _ hi3))
    rw [List.append_assoc]
    exact this
end TM
namespace TM
open PySem PySem.Spec PyProof.Rows L2
/-! ## plain words: which tree goes ahead -/
def Tre.key : Tre → List (Int × Int)
  | .l x => [(1, x)]
  | .u x a => (((a.sz + 1 : Nat) : Int), x) :: a.key
  | .b x a c => (((a.sz + c.sz + 1 : Nat) : Int), x) :: (a.key ++ c.key)
theorem Tre.key_row : ∀ t : Tre, t.key.map (·.2) = t.row
  | .l _ => rfl
  | .u _ a => by show _ :: a.key.map (·.2) = _; rw [key_row a]; rfl
  | .b _ a c => by show _ :: (a.key ++ c.key).map (·.2) = _; rw [List.map_append, key_row a, key_row c]; rfl
theorem Tre.key_len (t : Tre) : t.key.length = t.sz := by rw [← Tre.row_len, ← Tre.key_row, List.length_map]
theorem Tre.key_head : ∀ t : Tre, ∃ r, t.key = ((t.sz : Int), t.sg) :: r
  | .l _ => ⟨_, rfl⟩
  | .u _ _ => ⟨_, rfl⟩
  | .b _ _ _ => ⟨_, rfl⟩
theorem Tre.sz_kids : ∀ t : Tre, (t.sz : Int) = 1 + (t.kids.map fun k => (k.sz : Int)).sum
  | .l _ => rfl
  | .u _ a => by show ((a.sz + 1 : Nat) : Int) = 1 + ((a.sz : Int) + 0); omega
  | .b _ a c => by show ((a.sz + c.sz + 1 : Nat) : Int) = 1 + ((a.sz : Int) + ((c.sz : Int) + 0)); omega
theorem popsum {α : Type} {k : List Int × Int → Prop} : ∀ {xs : List α} {tail base : List Int} {acc : Int}, xs.length = tail.length → k (base, acc + tail.sum) → forW xs (base ++ tail, acc) (fun _ s8 nx10 => ∃ ys13 y14, s8.1 = ys13 ++ [y14] ∧ (fun x12 : Int × List Int => nx10 (x12.2, x12.1)) ((s8.2 + y14), ys13)) k
  | [], tail, base, acc, hl, h => by
    have : tail = [] := List.length_eq_zero_iff.mp hl.symm
    subst this
    show k (base ++ [], acc)
    simpa using h
  | x :: xs, tail, base, acc, hl, h => by
    rcases List.eq_nil_or_concat tail with rfl | ⟨t, y, rfl⟩
    · simp at hl
    · simp only [List.concat_eq_append] at hl h ⊢
      rw [List.length_append] at hl
      have hl : xs.length + 1 = t.length + 1 := hl
      refine ⟨base ++ t, y, (List.append_assoc _ _ _).symm, ?_⟩
      refine popsum (by omega) ?_
      rw [List.sum_append] at h
      rw [show acc + y + t.sum = acc + (t.sum + [y].sum) by simp; omega]
      exact h
theorem sum_rev : ∀ l : List Int, l.reverse.sum = l.sum
  | [] => rfl
  | x :: l => by rw [List.reverse_cons, List.sum_append, sum_rev l]; simp; omega
abbrev spKey (t : Tre) (g : List (Int × Int)) : List (Int × Int) := g ++ [((t.sz : Int), t.sg)]
theorem run_key : ∀ (t : Tre) (g : List (Int × Int)), t.run spKey g = g ++ t.key.reverse
  | .l _, g => rfl
  | .u x a, g => by
    show (a.run spKey g) ++ [_] = g ++ (_ :: a.key).reverse
    rw [run_key a, List.reverse_cons, List.append_assoc]; rfl
  | .b x a c, g => by
    show (a.run spKey (c.run spKey g)) ++ [_] = g ++ (_ :: (a.key ++ c.key)).reverse
    rw [run_key a, run_key c, List.reverse_cons, List.reverse_append, List.append_assoc, List.append_assoc, List.append_assoc]; rfl
theorem ok_kdN {s : List (Str × Int)} {t : Tre} (h : t.Ok s) : (kdOf s t.sg).toNat = t.kids.length := by rw [Tre.ok_kd h]; rfl
theorem key_plain {s : List (Str × Int)} {t : Tre} {P : List (Int × Int) → Prop} (g : SG s) (h : t.Ok s) (l : t.sz ≤ 1000) (hp : P t.key) : W_key_of (bk s) t.row P := by
  refine forW_tre (s := s) (put := Prod.mk) (val := fun t => (t.sz : Int)) (sp := spKey) (N := 1000) (I := fun n g => g.length = n) (fun t n g e => by rw [List.length_append, e]; rfl) ?_ t h [] 0 [] _ (by simpa using l) (by omega) rfl ?_
  · intro t st n fd nx ht hl hn hi hx
    have kb := kd_bound g (Tre.ok_sg ht)
    refine kids_plain (Tre.ok_sg ht) ⟨rg (by omega) (by omega), ?_⟩
    refine popsum (by rw [rangeL_len, ok_kdN ht]; simp) ?_
    refine ⟨len_lt (by show st.length ≤ 1000; omega), len_lt (by show fd.length ≤ 1000; omega), ?_⟩
    have e : (1 : Int) + (t.kids.reverse.map fun t => (t.sz : Int)).sum = (t.sz : Int) := by
      rw [List.map_reverse, sum_rev, Tre.sz_kids t]
    show nx (st ++ [1 + (t.kids.reverse.map fun t => (t.sz : Int)).sum], fd ++ [(1 + (t.kids.reverse.map fun t => (t.sz : Int)).sum, t.sg)])
    rw [e]; exact hx
  · intro _
    show P (t.run spKey []).reverse
    rw [run_key, List.nil_append, List.reverse_reverse]; exact hp
/-! order of keys -/
abbrev kLt (a b : List (Int × Int)) : Bool := (oT (oP oInt oInt)).lt a b
theorem lex_cons {α : Type} [DecidableEq α] {lt : α → α → Bool} {x y : α} {a b : List α} : lexB lt (x :: a) (y :: b) = if x = y then lexB lt a b else lt x y := rfl
theorem lex_irr {α : Type} [DecidableEq α] {lt : α → α → Bool} : ∀ a : List α, lexB lt a a = false
  | [] => rfl
  | x :: a => by rw [lex_cons, if_pos rfl, lex_irr a]
theorem lex_tri {α : Type} [DecidableEq α] {lt : α → α → Bool} (h : ∀ x y, x ≠ y → lt x y = !lt y x) : ∀ a b : List α, a ≠ b → lexB lt a b = !lexB lt b a
  | [], [], n => absurd rfl n
  | [], _ :: _, _ => rfl
  | _ :: _, [], _ => rfl
  | x :: a, y :: b, n => by
    rw [lex_cons, lex_cons]
    by_cases e : x = y
    · rw [if_pos e, if_pos e.symm, lex_tri h a b fun z => n (by rw [e, z])]
    · rw [if_neg e, if_neg fun z => e z.symm, h x y e]
theorem lex_app {α : Type} [DecidableEq α] {lt : α → α → Bool} : ∀ {a b c d : List α}, a.length = b.length → lexB lt a b = true → lexB lt (a ++ c) (b ++ d) = true
  | [], [], c, d, _, h => by cases h
  | x :: a, y :: b, c, d, l, h => by
    rw [List.cons_append, List.cons_append, lex_cons]
    rw [lex_cons] at h
    by_cases e : x = y
    · rw [if_pos e] at h ⊢
      exact lex_app (by simpa using l) h
    · rw [if_neg e] at h ⊢; exact h
theorem lex_same {α : Type} [DecidableEq α] {lt : α → α → Bool} {c d : List α} : ∀ a : List α, lexB lt (a ++ c) (a ++ d) = lexB lt c d
  | [] => rfl
  | x :: a => by rw [List.cons_append, List.cons_append, lex_cons, if_pos rfl, lex_same a]
theorem pr_tri (x y : Int × Int) (n : x ≠ y) : (oP oInt oInt).lt x y = !(oP oInt oInt).lt y x := by
  show (if x.1 = y.1 then (if x.2 = y.2 then false else decide (x.2 < y.2)) else decide (x.1 < y.1)) = !(if y.1 = x.1 then (if y.2 = x.2 then false else decide (y.2 < x.2)) else decide (y.1 < x.1))
  by_cases e : x.1 = y.1
  · have e2 : x.2 ≠ y.2 := fun z => n (Prod.ext e z)
    rw [if_pos e, if_neg e2, if_pos e.symm, if_neg fun z => e2 z.symm]
    by_cases q : x.2 < y.2
    · rw [decide_eq_true q, decide_eq_false (by omega)]; rfl
    · rw [decide_eq_false q, decide_eq_true (by omega)]; rfl
  · rw [if_neg e, if_neg fun z => e z.symm]
    by_cases q : x.1 < y.1
    · rw [decide_eq_true q, decide_eq_false (by omega)]; rfl
    · rw [decide_eq_false q, decide_eq_true (by omega)]; rfl
theorem kLt_tri {a b : List (Int × Int)} (n : a ≠ b) : kLt a b = !kLt b a := lex_tri pr_tri a b n
theorem kLt_irr (a : List (Int × Int)) : kLt a a = false := lex_irr a
theorem pr_fst {x y : Int × Int} (h : x.1 < y.1) : (oP oInt oInt).lt x y = true := by
  show (if x.1 = y.1 then (if x.2 = y.2 then false else decide (x.2 < y.2)) else decide (x.1 < y.1)) = true
  rw [if_neg (by omega), decide_eq_true h]
theorem pr_snd {x y : Int × Int} (e : x.1 = y.1) (h : x.2 < y.2) : (oP oInt oInt).lt x y = true := by
  show (if x.1 = y.1 then (if x.2 = y.2 then false else decide (x.2 < y.2)) else decide (x.1 < y.1)) = true
  rw [if_pos e, if_neg (by omega), decide_eq_true h]
theorem kLt_sz {a b : Tre} (h : a.sz < b.sz) : kLt a.key b.key = true := by
  obtain ⟨r, e⟩ := a.key_head
  obtain ⟨r', e'⟩ := b.key_head
  rw [e, e']
  show lexB _ _ _ = true
  rw [lex_cons, if_neg fun z => by have := congrArg Prod.fst z; have : (a.sz : Int) = (b.sz : Int) := this; omega]
  exact pr_fst (by show (a.sz : Int) < (b.sz : Int); omega)
theorem kLt_sg {a b : Tre} (e : a.sz = b.sz) (h : a.sg < b.sg) : kLt a.key b.key = true := by
  obtain ⟨r, e1⟩ := a.key_head
  obtain ⟨r', e'⟩ := b.key_head
  rw [e1, e']
  show lexB _ _ _ = true
  rw [lex_cons, if_neg fun z => by have := congrArg Prod.snd z; have : a.sg = b.sg := this; omega]
  exact pr_snd (by show (a.sz : Int) = (b.sz : Int); omega) h
theorem kLt_u {x : Int} {a b : Tre} (e : a.sz = b.sz) (h : kLt a.key b.key = true) : kLt (Tre.u x a).key (Tre.u x b).key = true := by
  show lexB _ (_ :: a.key) (_ :: b.key) = true
  rw [lex_cons, e, if_pos rfl]; exact h
theorem kLt_b1 {x : Int} {a b c d : Tre} (e : a.sz + c.sz = b.sz + d.sz) (h : kLt a.key b.key = true) : kLt (Tre.b x a c).key (Tre.b x b d).key = true := by
  show lexB _ (_ :: (a.key ++ c.key)) (_ :: (b.key ++ d.key)) = true
  rw [lex_cons, e, if_pos rfl]
  by_cases q : a.sz = b.sz
  · exact lex_app (by rw [Tre.key_len, Tre.key_len, q]) h
  · obtain ⟨r, e1⟩ := a.key_head
    obtain ⟨r', e2⟩ := b.key_head
    rw [e1, e2] at h ⊢
    have ne : ¬ (((a.sz : Int), a.sg) = ((b.sz : Int), b.sg)) := fun z => by have := congrArg Prod.fst z; have : (a.sz : Int) = (b.sz : Int) := this; omega
    have h : lexB _ (_ :: r) (_ :: r') = true := h
    rw [lex_cons, if_neg ne] at h
    rw [List.cons_append, List.cons_append, lex_cons, if_neg ne]
    exact h
theorem kLt_b2 {x : Int} {a c d : Tre} (e : c.sz = d.sz) (h : kLt c.key d.key = true) : kLt (Tre.b x a c).key (Tre.b x a d).key = true := by
  show lexB _ (_ :: (a.key ++ c.key)) (_ :: (a.key ++ d.key)) = true
  rw [lex_cons, e, if_pos rfl, lex_same]; exact h
theorem row_key {a b : Tre} (h : a.key = b.key) : a.row = b.row := by rw [← Tre.key_row, ← Tre.key_row, h]
end TM
namespace TM
open PySem PySem.Spec PyProof.Rows L2
/-! ## plain words: where the parts of a row stand -/
/-- what is wanted behind the first j numbers, less one -/
def pre (s : List (Str × Int)) (row : List Int) (j : Nat) : Int := ((row.take j).map fun x => kdOf s x - 1).sum
theorem pre_zero {s : List (Str × Int)} {row : List Int} : pre s row 0 = 0 := rfl
theorem pre_succ {s : List (Str × Int)} {row : List Int} {j : Nat} (h : j < row.length) : pre s row (j + 1) = pre s row j + kdOf s row[j] - 1 := by
  unfold pre
  rw [List.take_add_one, List.getElem?_eq_getElem h, List.map_append, List.sum_append]
  simp; omega
theorem pre_all {s : List (Str × Int)} {row : List Int} (t : TR s row) : pre s row row.length = -1 := by
  have := t.fin
  unfold wt at this
  unfold pre
  rw [List.take_length]; omega
theorem pre_pos {s : List (Str × Int)} {row : List Int} (t : TR s row) {j : Nat} (h : j < row.length) : 0 ≤ pre s row j := by
  have := t.pos j h
  unfold wt at this
  unfold pre
  omega
/-- a part stands from a to b -/
structure Sub (s : List (Str × Int)) (row : List Int) (a b : Nat) : Prop where
  lt : a < b
  le : b ≤ row.length
  fin : pre s row b = pre s row a - 1
  pos : ∀ j, a ≤ j → j < b → pre s row a ≤ pre s row j
theorem Sub.uniq {s : List (Str × Int)} {row : List Int} {a b c : Nat} (h : Sub s row a b) (k : Sub s row a c) : b = c := by
  have h1 := h.fin
  have k1 := k.fin
  have hl := h.lt
  have kl := k.lt
  by_cases x : b < c
  · have := k.pos b (by omega) x; omega
  · by_cases y : c < b
    · have := h.pos c (by omega) y; omega
    · omega
theorem kd_nn {s : List (Str × Int)} (g : SG s) {row : List Int} (t : TR s row) {j : Nat} (h : j < row.length) : 0 ≤ kdOf s row[j] ∧ kdOf s row[j] ≤ 2 := kd_bound g (t.ins _ (List.getElem_mem h))
theorem sub_ex {s : List (Str × Int)} {row : List Int} (g : SG s) (t : TR s row) {a : Nat} (h : a < row.length) : ∃ b, Sub s row a b := by
  have go : ∀ m, (∃ b, Sub s row a b) ∨ (a + m ≤ row.length → ∀ j, a ≤ j → j ≤ a + m → pre s row a ≤ pre s row j) := by
    intro m
    induction m with
    | zero => exact .inr fun _ j h1 h2 => by rw [show j = a by omega]; exact Int.le_refl _
    | succ m ih =>
      rcases ih with ih | ih
      · exact .inl ih
      · by_cases hm : a + (m + 1) ≤ row.length
        · have ih := ih (by omega)
          have hs := pre_succ (s := s) (row := row) (j := a + m) (by omega)
          have hk := kd_nn g t (j := a + m) (by omega)
          have hp := ih (a + m) (by omega) (by omega)
          by_cases q : pre s row a ≤ pre s row (a + (m + 1))
          · refine .inr fun _ j h1 h2 => ?_
            by_cases e : j = a + (m + 1)
            · rw [e]; exact q
            · exact ih j h1 (by omega)
          · refine .inl ⟨a + (m + 1), by omega, hm, ?_, fun j h1 h2 => ih j h1 (by omega)⟩
            have e : pre s row (a + (m + 1)) = pre s row (a + m) + kdOf s row[a + m] - 1 := hs
            omega
        · exact .inr fun z => absurd z hm
  rcases go (row.length - a) with q | q
  · exact q
  · have h1 := q (by omega) row.length (by omega) (by omega)
    have h2 := pre_all t
    have h3 := pre_pos t h
    omega
open Classical in
/-- where the part that begins at a ends -/
noncomputable def stp (s : List (Str × Int)) (row : List Int) (a : Nat) : Nat := if h : ∃ b, Sub s row a b then Classical.choose h else 0
theorem stp_sub {s : List (Str × Int)} {row : List Int} (g : SG s) (t : TR s row) {a : Nat} (h : a < row.length) : Sub s row a (stp s row a) := by
  unfold stp
  rw [dif_pos (sub_ex g t h)]
  exact Classical.choose_spec (sub_ex g t h)
theorem stp_zero {s : List (Str × Int)} {row : List Int} (g : SG s) (t : TR s row) (h : 0 < row.length) : stp s row 0 = row.length :=
  (stp_sub g t h).uniq ⟨h, Nat.le_refl _, by rw [pre_all t, pre_zero]; rfl, fun j _ hj => by rw [pre_zero]; exact pre_pos t hj⟩
theorem row_ne {s : List (Str × Int)} {row : List Int} (t : TR s row) : 0 < row.length := by
  cases row with
  | nil => have := t.fin; rw [wt_nil] at this; cases this
  | cons a r => simp
/-- where the kids begin -/
noncomputable def cs (s : List (Str × Int)) (row : List Int) (a : Nat) : Nat → Nat
  | 0 => a + 1
  | i + 1 => stp s row (cs s row a i)
def kn (s : List (Str × Int)) (row : List Int) (a : Nat) : Nat := (kdOf s (row.getD a 0)).toNat
theorem getD_eq {row : List Int} {a : Nat} (h : a < row.length) : row.getD a 0 = row[a] := by simp [List.getD, List.getElem?_eq_getElem h]
theorem kn_eq {s : List (Str × Int)} {row : List Int} (g : SG s) (t : TR s row) {a : Nat} (h : a < row.length) : ((kn s row a : Nat) : Int) = kdOf s row[a] := by
  unfold kn
  rw [getD_eq h, Int.toNat_of_nonneg (kd_nn g t h).1]
theorem cs_inv {s : List (Str × Int)} {row : List Int} (g : SG s) (t : TR s row) {a : Nat} (h : a < row.length) : ∀ i, i ≤ kn s row a → a < cs s row a i ∧ cs s row a i ≤ stp s row a ∧ pre s row (cs s row a i) = pre s row a - 1 + ((kn s row a : Int) - i)
  | 0, _ => by
    have S := stp_sub g t h
    have e := pre_succ (s := s) h
    have k := kn_eq g t h
    refine ⟨Nat.lt_succ_self a, S.lt, ?_⟩
    show pre s row (a + 1) = _
    rw [e]; omega
  | i + 1, hi => by
    obtain ⟨h1, h2, h3⟩ := cs_inv g t h i (by omega)
    have S := stp_sub g t h
    have fin := S.fin
    have lt : cs s row a i < stp s row a := by
      rcases Nat.lt_or_ge (cs s row a i) (stp s row a) with q | q
      · exact q
      · have e : cs s row a i = stp s row a := by omega
        rw [e, fin] at h3
        omega
    have C := stp_sub g t (a := cs s row a i) (Nat.lt_of_lt_of_le lt S.le)
    refine ⟨Nat.lt_trans h1 C.lt, ?_, ?_⟩
    · show stp s row (cs s row a i) ≤ stp s row a
      rcases Nat.lt_or_ge (stp s row a) (stp s row (cs s row a i)) with q | q
      · have := C.pos (stp s row a) (by omega) q
        rw [fin, h3] at this
        omega
      · exact q
    · show pre s row (stp s row (cs s row a i)) = _
      rw [C.fin, h3]
      omega
theorem cs_lt {s : List (Str × Int)} {row : List Int} (g : SG s) (t : TR s row) {a : Nat} (h : a < row.length) {i : Nat} (hi : i < kn s row a) : cs s row a i < stp s row a ∧ cs s row a i < row.length := by
  obtain ⟨h1, h2, h3⟩ := cs_inv g t h i (by omega)
  have S := stp_sub g t h
  have fin := S.fin
  have le := S.le
  have lt : cs s row a i < stp s row a := by
    rcases Nat.lt_or_ge (cs s row a i) (stp s row a) with q | q
    · exact q
    · have e : cs s row a i = stp s row a := by omega
      rw [e, fin] at h3
      omega
  exact ⟨lt, by omega⟩
theorem cs_last {s : List (Str × Int)} {row : List Int} (g : SG s) (t : TR s row) {a : Nat} (h : a < row.length) : cs s row a (kn s row a) = stp s row a := by
  obtain ⟨h1, h2, h3⟩ := cs_inv g t h (kn s row a) (Nat.le_refl _)
  have S := stp_sub g t h
  rcases Nat.lt_or_ge (cs s row a (kn s row a)) (stp s row a) with q | q
  · have := S.pos _ (by omega) q
    omega
  · omega
theorem end_at {s : List (Str × Int)} {row : List Int} {a : Nat} {P : Int → Prop} (g : SG s) (t : TR s row) (h : a < row.length) (hp : P (stp s row a : Int)) : W_end_of (bk s) row (a : Int) P := by
  have S := stp_sub g t h
  have len := t.len
  have lt := S.lt
  have le := S.le
  have fin := S.fin
  refine ⟨⟨rg (by omega) (by omega), rg (by omega) (by omega)⟩, ?_⟩
  refine forW_inv (I := fun j w => a + j < stp s row a ∧ w = 1 + pre s row (a + j) - pre s row a) (j := 0) ⟨by omega, by rw [Nat.add_zero]; omega⟩ ?_ ?_
  · rintro i x w nx hi ⟨hj, rfl⟩ hn
    rw [Nat.zero_add] at hj
    have hi2 : i < ((row.length : Int) - (a : Int)).toNat := by
      have := (List.getElem?_eq_some_iff.mp hi).1
      rwa [rangeL_len] at this
    rw [rangeL_get hi2] at hi
    cases hi
    have ex : (a : Int) + (i : Int) = ((a + i : Nat) : Int) := by omega
    have hil : a + i < row.length := by omega
    have hx := t.ins row[a + i] (List.getElem_mem hil)
    rw [ex]
    refine ⟨row[a + i], atI_nat hil, ?_⟩
    rw [if_pos (by simpa using hx.1)]
    show if (!decide (row[a + i] < ((s.map (·.1)).length : Int))) = true then _ else _
    rw [List.length_map, if_neg (by simpa using hx.2)]
    refine ⟨row[a + i], atI_nat hil, kids_plain hx ?_⟩
    have e := pre_succ (s := s) hil
    have e2 : 1 + pre s row (a + (0 + i)) - pre s row a + kdOf s row[a + i] - 1 = 1 + pre s row (a + i + 1) - pre s row a := by
      rw [Nat.zero_add]; omega
    show if decide (1 + pre s row (a + (0 + i)) - pre s row a + kdOf s row[a + i] - 1 = 0) = true then _ else _
    rw [e2]
    by_cases q : a + i + 1 < stp s row a
    · have := S.pos (a + i + 1) (by omega) q
      rw [if_neg (by simpa using (by omega : ¬ 1 + pre s row (a + i + 1) - pre s row a = 0))]
      exact hn _ ⟨by omega, by rw [show a + (0 + i + 1) = a + i + 1 by omega]⟩
    · have eq : a + i + 1 = stp s row a := by omega
      rw [eq, fin, if_pos (by simpa using (by omega : 1 + (pre s row a - 1) - pre s row a = 0))]
      rw [show ((a + i : Nat) : Int) + 1 = (stp s row a : Int) by omega]; exact hp
  · rintro w ⟨hj, _⟩
    rw [rangeL_len] at hj
    omega
def seg (row : List Int) (a b : Nat) : List Int := (row.take b).drop a
theorem seg_len {row : List Int} {a b : Nat} (h2 : b ≤ row.length) : (seg row a b).length = b - a := by
  unfold seg; rw [List.length_drop, List.length_take, Nat.min_eq_left h2]
theorem seg_get {row : List Int} {a b j : Nat} (h : a + j < b) (h2 : b ≤ row.length) : (seg row a b)[j]'(by rw [seg_len h2]; omega) = row[a + j]'(by omega) := by
  unfold seg; rw [List.getElem_drop, List.getElem_take]
theorem seg_seg {row : List Int} {a b c d : Nat} (h1 : a ≤ c) (h2 : c ≤ d) (h3 : d ≤ b) (h4 : b ≤ row.length) : ((seg row a b).take (d - a)).drop (c - a) = seg row c d := by
  unfold seg
  rw [List.take_drop, List.take_take, List.drop_drop, show a + (c - a) = c by omega, show a + (d - a) = d by omega, Nat.min_eq_left h3]
end TM
namespace TM
open PySem PySem.Spec PyProof.Rows L2
/-! ## plain words: places of a row, one behind the other -/
abbrev Nd := List Int × Nat
noncomputable def chN (s : List (Str × Int)) (row : List Int) (x : Nd) : List Nd := (List.range (kn s row x.2)).map fun i : Nat => (x.1 ++ [(i : Int)], cs s row x.2 i)
noncomputable def bfs (s : List (Str × Int)) (row : List Int) : Nat → List Nd → Nat → List Nd
  | 0, f, _ => f
  | n + 1, f, i => match f[i]? with
    | none => f
    | some x => bfs s row n (f ++ chN s row x) (i + 1)
noncomputable def pend (s : List (Str × Int)) (row : List Int) (f : List Nd) (i : Nat) : Nat := ((f.drop i).map fun x => stp s row x.2 - x.2).sum
/-- where what stands at a place begins -/
noncomputable def nav (s : List (Str × Int)) (row : List Int) (p : List Int) : Nat := p.foldl (fun a i => cs s row a i.toNat) 0
structure Good (s : List (Str × Int)) (row : List Int) (f : List Nd) : Prop where
  lt : ∀ x ∈ f, x.2 < row.length
  nv : ∀ x ∈ f, x.2 = nav s row x.1
theorem ch_sum {s : List (Str × Int)} {row : List Int} (g : SG s) (t : TR s row) {x : Nd} (h : x.2 < row.length) : ∀ j, j ≤ kn s row x.2 → (((List.range j).map fun i : Nat => (x.1 ++ [(i : Int)], cs s row x.2 i)).map fun y : Nd => stp s row y.2 - y.2).sum = cs s row x.2 j - (x.2 + 1)
  | 0, _ => by show 0 = x.2 + 1 - (x.2 + 1); omega
  | j + 1, hj => by
    rw [List.range_succ, List.map_append, List.map_append, List.sum_append, ch_sum g t h j (by omega)]
    have h1 := (cs_inv g t h j (by omega)).1
    have S := (stp_sub g t (cs_lt g t h (i := j) (by omega)).2).lt
    show _ + (stp s row (cs s row x.2 j) - cs s row x.2 j + 0) = stp s row (cs s row x.2 j) - (x.2 + 1)
    omega
theorem pend_step {s : List (Str × Int)} {row : List Int} (g : SG s) (t : TR s row) {f : List Nd} {i : Nat} {x : Nd} (hx : f[i]? = some x) (h : x.2 < row.length) : pend s row f i = pend s row (f ++ chN s row x) (i + 1) + 1 := by
  have hi := (List.getElem?_eq_some_iff.mp hx).1
  unfold pend
  rw [List.drop_append_of_le_length (by omega), List.map_append, List.sum_append, List.drop_eq_getElem_cons hi, List.map_cons, List.sum_cons]
  have e : f[i] = x := by rw [List.getElem?_eq_getElem hi] at hx; exact Option.some.inj hx
  rw [e, show ((chN s row x).map fun x => stp s row x.2 - x.2).sum = cs s row x.2 (kn s row x.2) - (x.2 + 1) from ch_sum g t h _ (Nat.le_refl _), cs_last g t h]
  have := (stp_sub g t h).lt
  omega
theorem good_ch {s : List (Str × Int)} {row : List Int} (g : SG s) (t : TR s row) {f : List Nd} {x : Nd} (G : Good s row f) (hx : x ∈ f) : Good s row (f ++ chN s row x) := by
  have h := G.lt x hx
  refine ⟨fun y hy => ?_, fun y hy => ?_⟩
  · rcases List.mem_append.mp hy with hy | hy
    · exact G.lt y hy
    · obtain ⟨i, hi, rfl⟩ := List.mem_map.mp hy
      exact (cs_lt g t h (List.mem_range.mp hi)).2
  · rcases List.mem_append.mp hy with hy | hy
    · exact G.nv y hy
    · obtain ⟨i, hi, rfl⟩ := List.mem_map.mp hy
      show cs s row x.2 i = nav s row (x.1 ++ [(i : Int)])
      unfold nav
      rw [List.foldl_append, G.nv x hx]
      show cs s row (nav s row x.1) i = cs s row (nav s row x.1) (i : Int).toNat
      rw [Int.toNat_natCast]
noncomputable def allN (s : List (Str × Int)) (row : List Int) : List Nd := bfs s row row.length [([], 0)] 0
/-- how the walk stands -/
structure Bf (s : List (Str × Int)) (row : List Int) (m : Nat) (f : List Nd) (i : Nat) : Prop where
  me : m = pend s row f i
  ne : i + m = row.length
  il : i ≤ f.length
  eq : bfs s row m f i = allN s row
  gd : Good s row f
  ln : ∀ x ∈ f, x.1.length ≤ i
  fl : f.length ≤ row.length
theorem pend_len {s : List (Str × Int)} {row : List Int} (g : SG s) (t : TR s row) : ∀ (l : List Nd), (∀ x ∈ l, x.2 < row.length) → l.length ≤ (l.map fun x => stp s row x.2 - x.2).sum
  | [], _ => Nat.le_refl _
  | x :: l, h => by
    have := pend_len g t l fun y hy => h y (List.mem_cons_of_mem _ hy)
    have := (stp_sub g t (h x List.mem_cons_self)).lt
    rw [List.map_cons, List.sum_cons, List.length_cons]
    omega
theorem bf_init {s : List (Str × Int)} {row : List Int} (g : SG s) (t : TR s row) : Bf s row row.length [([], 0)] 0 := by
  have n0 := row_ne t
  refine ⟨?_, Nat.zero_add _, Nat.zero_le _, rfl, ⟨fun x hx => ?_, fun x hx => ?_⟩, fun x hx => ?_, n0⟩
  · show _ = stp s row 0 - 0 + 0
    rw [stp_zero g t n0]; omega
  · rw [List.mem_singleton.mp hx]; exact n0
  · rw [List.mem_singleton.mp hx]; rfl
  · rw [List.mem_singleton.mp hx]; exact Nat.le_refl _
theorem bf_step {s : List (Str × Int)} {row : List Int} (g : SG s) (t : TR s row) {m : Nat} {f : List Nd} {i : Nat} {x : Nd} (B : Bf s row m f i) (hx : f[i]? = some x) : ∃ m', m' < m ∧ Bf s row m' (f ++ chN s row x) (i + 1) := by
  have mem := List.mem_of_getElem? hx
  have h := B.gd.lt x mem
  have p := pend_step g t hx h
  have e := B.me
  have n := B.ne
  have gd := good_ch g t B.gd mem
  have hi := (List.getElem?_eq_some_iff.mp hx).1
  refine ⟨pend s row (f ++ chN s row x) (i + 1), by omega, rfl, by omega, by rw [List.length_append]; omega, ?_, gd, fun y hy => ?_, ?_⟩
  · rw [← B.eq, e, p]
    show _ = bfs s row (_ + 1) f i
    rw [bfs, hx]
  · rcases List.mem_append.mp hy with hy | hy
    · exact Nat.le_succ_of_le (B.ln y hy)
    · obtain ⟨k, _, rfl⟩ := List.mem_map.mp hy
      have := B.ln x mem
      show (x.1 ++ [(k : Int)]).length ≤ i + 1
      rw [List.length_append]; simpa using this
  · have q := pend_len g t ((f ++ chN s row x).drop (i + 1)) fun y hy => gd.lt y (List.mem_of_mem_drop hy)
    have q2 : ((f ++ chN s row x).drop (i + 1)).length ≤ pend s row (f ++ chN s row x) (i + 1) := q
    rw [List.length_drop] at q2
    omega
theorem bf_end {s : List (Str × Int)} {row : List Int} {m : Nat} {f : List Nd} {i : Nat} (B : Bf s row m f i) (h : f.length ≤ i) : f = allN s row := by
  have e : m = 0 := by
    rw [B.me]; unfold pend
    rw [List.drop_eq_nil_of_le h]; rfl
  have := B.eq
  rw [e] at this
  exact this
/-! the kids of a part -/
noncomputable def kidSegs (s : List (Str × Int)) (row : List Int) (a : Nat) : List (List Int) := (List.range (kn s row a)).map fun i => seg row (cs s row a i) (cs s row a (i + 1))
theorem range_take_succ {α : Type} {f : Nat → α} {k j : Nat} (h : j < k) : (((List.range k).map f).take (j + 1)) = ((List.range k).map f).take j ++ [f j] := by
  rw [List.take_add_one]
  simp [h]
theorem law_kids_plain {s : List (Str × Int)} {row : List Int} {a : Nat} {P : List (List Int) → Prop} (g : SG s) (t : TR s row) (h : a < row.length) (hp : P (kidSegs s row a)) : W__law_kids s (seg row a (stp s row a)) P := by
  have S := stp_sub g t h
  have lt := S.lt
  have le := S.le
  have len := t.len
  have sl := seg_len (row := row) (a := a) le
  have kk := kn_eq g t h
  have kb := kd_nn g t h
  obtain ⟨y, y1, y2, y3⟩ := at_s (t.ins row[a] (List.getElem_mem h))
  have at_ : ∀ d : Nat, a ≤ d → d < stp s row a → atI (seg row a (stp s row a)) ((d : Int) - (a : Int)) = some (row.getD d 0) := fun d h1 h2 => by
    rw [show (d : Int) - (a : Int) = ((d - a : Nat) : Int) by omega, atI_nat (by rw [sl]; omega), seg_get (by omega) le, getD_eq (by omega)]
    congr 2; omega
  have a0 := at_ a (Nat.le_refl _) lt
  rw [show (a : Int) - (a : Int) = 0 by omega, getD_eq h] at a0
  refine ⟨row[a], a0, y, y1, rfl, by rw [← y3]; exact rg (by omega) (by omega), ?_⟩
  rw [← y3, ← kk, Int.toNat_natCast]
  refine forW_inv (I := fun j (st : List (List Int) × Int) => j ≤ kn s row a ∧ st.1 = (kidSegs s row a).take j ∧ st.2 = (cs s row a j : Int) - (a : Int)) (j := 0) ⟨Nat.zero_le _, rfl, by show (1 : Int) = ((a + 1 : Nat) : Int) - a; omega⟩ ?_ ?_
  · rintro i x ⟨fd, bg⟩ nx hi ⟨hj, e1, e2⟩ hn
    have e1 : fd = (kidSegs s row a).take (0 + i) := e1
    have e2 : bg = (cs s row a (0 + i) : Int) - (a : Int) := e2
    obtain ⟨_, hi2⟩ := rangeL_at hi
    rw [Nat.zero_add] at e1 e2
    have c1 := cs_inv g t h i (by omega)
    have c2 := cs_lt g t h hi2
    have c3 := cs_inv g t h (i + 1) (by omega)
    have C := stp_sub g t c2.2
    have clt := C.lt
    have cfin := C.fin
    have ce : cs s row a (i + 1) = stp s row (cs s row a i) := rfl
    refine ⟨fun m st => ∃ d : Nat, cs s row a i ≤ d ∧ d ≤ stp s row (cs s row a i) ∧ st = ((d : Int) - (a : Int), 1 + pre s row d - pre s row (cs s row a i)) ∧ m = stp s row (cs s row a i) - d, ⟨_, cs s row a i, Nat.le_refl _, by omega, by rw [e2]; congr 1; omega, rfl⟩, ?_⟩
    rintro m st ⟨d, d1, d2, rfl, rfl⟩
    show if decide (0 < 1 + pre s row d - pre s row (cs s row a i)) = true then _ else _
    by_cases q : d < stp s row (cs s row a i)
    · have p := C.pos d d1 q
      rw [if_pos (by simpa using (by omega : 0 < 1 + pre s row d - pre s row (cs s row a i)))]
      have dl : d < row.length := by omega
      obtain ⟨z, z1, z2, z3⟩ := at_s (t.ins row[d] (List.getElem_mem dl))
      refine ⟨row[d], by rw [at_ d (by omega) (by omega), getD_eq dl], z, z1, rfl, ?_⟩
      have e := pre_succ (s := s) dl
      refine ⟨stp s row (cs s row a i) - (d + 1), by omega, d + 1, by omega, by omega, ?_, rfl⟩
      show ((d : Int) - (a : Int) + 1, 1 + pre s row d - pre s row (cs s row a i) - 1 + z.2) = _
      rw [← z3, e]
      exact Prod.ext (by show (d : Int) - a + 1 = ((d + 1 : Nat) : Int) - a; omega) (by show _ = 1 + _ - _; omega)
    · have eq : d = stp s row (cs s row a i) := by omega
      subst eq
      rw [if_neg (by simpa using (by omega : ¬ 0 < 1 + pre s row (stp s row (cs s row a i)) - pre s row (cs s row a i)))]
      have el : fd.length ≤ 2 := by
        rw [e1, List.length_take]
        unfold kidSegs
        rw [List.length_map, List.length_range]; omega
      refine ⟨len_lt (by show fd.length ≤ _; omega), hn _ ⟨by omega, ?_, ?_⟩⟩
      · show fd ++ [cutL (seg row a (stp s row a)) (some bg) (some ((stp s row (cs s row a i) : Int) - (a : Int)))] = _
        rw [Nat.zero_add, show (kidSegs s row a).take (i + 1) = (kidSegs s row a).take i ++ [seg row (cs s row a i) (cs s row a (i + 1))] from range_take_succ hi2, e1, e2,
          show (cs s row a i : Int) - (a : Int) = ((cs s row a i - a : Nat) : Int) by omega, show (stp s row (cs s row a i) : Int) - (a : Int) = ((stp s row (cs s row a i) - a : Nat) : Int) by omega,
          cut_nat (by omega) (by rw [sl]; omega), seg_seg (by omega) (by omega) (by omega) le]
        rfl
      · show (stp s row (cs s row a i) : Int) - (a : Int) = _
        rw [Nat.zero_add]; rfl
  · rintro ⟨fd, bg⟩ ⟨_, e1, _⟩
    have e1 : fd = (kidSegs s row a).take (0 + _) := e1
    rw [rangeL_len, Nat.zero_add, List.take_of_length_le (by unfold kidSegs; rw [List.length_map, List.length_range]; exact Nat.le_refl _)] at e1
    show P fd
    rw [e1]; exact hp
theorem atI_get {α : Type} {l : List α} {i : Nat} {x : α} (h : l[i]? = some x) : atI l (i : Int) = some x := by
  have hi := (List.getElem?_eq_some_iff.mp h).1
  rw [atI_nat hi, ← List.getElem?_eq_getElem hi, h]
/-! the program's places -/
def plc (x : Nd) : List Int × Int := (x.1, (x.2 : Int))
theorem places_plain {s : List (Str × Int)} {row : List Int} {P : List (List Int × Int) → Prop} (g : SG s) (t : TR s row) (hp : Good s row (allN s row) → P ((allN s row).map plc)) : W_places_in (bk s) row P := by
  have len := t.len
  refine ⟨fun m st => ∃ (f : List Nd) (i : Nat), st = (f.map plc, (i : Int)) ∧ Bf s row m f i, ⟨row.length, [([], 0)], 0, rfl, bf_init g t⟩, ?_⟩
  rintro m st ⟨f, i, rfl, B⟩
  have fl := B.fl
  show if decide ((i : Int) < ((f.map plc).length : Int)) = true then _ else _
  rw [List.length_map]
  by_cases q : i < f.length
  · rw [if_pos (by simpa using q)]
    have hx := List.getElem?_eq_getElem q
    generalize f[i] = x at hx
    have mem := List.mem_of_getElem? hx
    have h := B.gd.lt x mem
    have xl := B.ln x mem
    obtain ⟨m', m1, B'⟩ := bf_step g t B hx
    have fl' := B'.fl
    rw [List.length_append, show (chN s row x).length = kn s row x.2 by unfold chN; rw [List.length_map, List.length_range]] at fl'
    refine ⟨plc x, atI_get (by rw [List.getElem?_map, hx]; rfl), ?_⟩
    show ∃ y11, atI row (x.2 : Int) = some y11 ∧ _
    refine ⟨row[x.2], atI_nat h, kids_plain (t.ins _ (List.getElem_mem h)) ?_⟩
    have kk := kn_eq g t h
    have kb := kd_nn g t h
    refine ⟨rg (by omega) (by omega), ?_⟩
    rw [← kk, Int.toNat_natCast]
    refine forW_inv (I := fun j (st : List (List Int × Int) × Int) => j ≤ kn s row x.2 ∧ st.1 = (f ++ (chN s row x).take j).map plc ∧ st.2 = (cs s row x.2 j : Int)) (j := 0) ⟨Nat.zero_le _, by rw [List.take_zero, List.append_nil], by show (x.2 : Int) + 1 = ((x.2 + 1 : Nat) : Int); omega⟩ ?_ ?_
    · rintro j y ⟨fd, sp⟩ nx hi ⟨hj, e1, e2⟩ hn
      have e1 : fd = (f ++ (chN s row x).take (0 + j)).map plc := e1
      have e2 : sp = (cs s row x.2 (0 + j) : Int) := e2
      obtain ⟨rfl, hi2⟩ := rangeL_at hi
      rw [Nat.zero_add] at e1 e2
      have fdl : fd.length ≤ 40 := by
        rw [e1, List.length_map, List.length_append, List.length_take]; omega
      refine ⟨by show x.1.length + 1 ≤ _; exact len_line (by omega), len_lt (by show fd.length ≤ _; omega), ?_⟩
      show W_end_of (bk s) row sp _
      rw [e2]
      refine end_at g t (cs_lt g t h hi2).2 (hn _ ⟨by omega, ?_, ?_⟩)
      · show fd ++ [(x.1 ++ [(j : Int)], (cs s row x.2 j : Int))] = _
        rw [Nat.zero_add, show (chN s row x).take (j + 1) = (chN s row x).take j ++ [(x.1 ++ [(j : Int)], cs s row x.2 j)] from range_take_succ hi2, ← List.append_assoc, List.map_append, e1]
        rfl
      · show (stp s row (cs s row x.2 j) : Int) = _
        rw [Nat.zero_add]; rfl
    · rintro ⟨fd, sp⟩ ⟨_, e1, _⟩
      have e1 : fd = (f ++ (chN s row x).take (0 + _)).map plc := e1
      rw [rangeL_len, Nat.zero_add, List.take_of_length_le (by unfold chN; rw [List.length_map, List.length_range]; exact Nat.le_refl _)] at e1
      exact ⟨m', m1, f ++ chN s row x, i + 1, by rw [← e1]; rfl, B'⟩
  · rw [if_neg (by simpa using q)]
    have e := bf_end B (by omega)
    show P (f.map plc)
    rw [e] at B ⊢
    exact hp B.gd
end TM
namespace TM
open PySem PySem.Spec PyProof.Rows L2
/-! ## plain words: strict orders (as in V8a) -/
structure Sto {α : Type} (lt : α → α → Bool) : Prop where
  irr : ∀ a, lt a a = false
  tr : ∀ a b c, lt a b = true → lt b c = true → lt a c = true
  tot : ∀ a b, lt a b = false → lt b a = false → a = b
theorem sto_int : Sto oInt.lt := ⟨fun a => by show decide (a < a) = false; simp, fun a b c h1 h2 => by
  have h1 : a < b := of_decide_eq_true h1
  have h2 : b < c := of_decide_eq_true h2
  show decide (a < c) = true
  exact decide_eq_true (by omega), fun a b h1 h2 => by
  have h1 : ¬ a < b := of_decide_eq_false h1
  have h2 : ¬ b < a := of_decide_eq_false h2
  omega⟩
theorem sto_lex {α : Type} [DecidableEq α] {lt : α → α → Bool} (S : Sto lt) : Sto (lexB lt) := ⟨fun a => by
    induction a with
    | nil => rfl
    | cons x a ih => show (if x = x then lexB lt a a else lt x x) = false; rw [if_pos rfl]; exact ih, fun a => by
    induction a with
    | nil =>
      intro b c h1 h2
      cases c with
      | nil => cases b with
        | nil => exact h1
        | cons _ _ => cases h2
      | cons _ _ => rfl
    | cons x a ih =>
      intro b c h1 h2
      cases b with
      | nil => cases h1
      | cons y b => cases c with
        | nil => cases h2
        | cons z c =>
          have h1 : (if x = y then lexB lt a b else lt x y) = true := h1
          have h2 : (if y = z then lexB lt b c else lt y z) = true := h2
          show (if x = z then lexB lt a c else lt x z) = true
          by_cases e1 : x = y
          · subst e1
            rw [if_pos rfl] at h1
            by_cases e2 : x = z
            · rw [if_pos e2] at h2 ⊢; exact ih _ _ h1 h2
            · rw [if_neg e2] at h2 ⊢; exact h2
          · rw [if_neg e1] at h1
            by_cases e2 : y = z
            · subst e2; rw [if_neg e1]; exact h1
            · rw [if_neg e2] at h2
              have h3 := S.tr _ _ _ h1 h2
              by_cases e3 : x = z
              · subst e3; rw [S.irr] at h3; cases h3
              · rw [if_neg e3]; exact h3, fun a => by
    induction a with
    | nil => intro b h1 h2; cases b with
      | nil => rfl
      | cons _ _ => cases h1
    | cons x a ih => intro b h1 h2; cases b with
      | nil => cases h2
      | cons y b =>
        have h1 : (if x = y then lexB lt a b else lt x y) = false := h1
        have h2 : (if y = x then lexB lt b a else lt y x) = false := h2
        by_cases e : x = y
        · subst e
          rw [if_pos rfl] at h1 h2
          rw [ih b h1 h2]
        · rw [if_neg e] at h1
          rw [if_neg (Ne.symm e)] at h2
          exact absurd (S.tot _ _ h1 h2) e⟩
theorem sto_if {α : Type} [DecidableEq α] {lt : α → α → Bool} (S : Sto lt) : Sto (fun p q => if p = q then false else lt p q) := by
  have e : (fun p q => if p = q then false else lt p q) = lt := by
    funext p q
    by_cases z : p = q
    · rw [if_pos z, z, S.irr]
    · rw [if_neg z]
  rw [e]; exact S
theorem sto_pair {α β : Type} [DecidableEq α] {l : α → α → Bool} {m : β → β → Bool} (S : Sto l) (T : Sto m) : Sto (fun p q : α × β => if p.1 = q.1 then m p.2 q.2 else l p.1 q.1) := ⟨fun a => by rw [if_pos rfl]; exact T.irr _, fun a b c h1 h2 => by
    by_cases e1 : a.1 = b.1
    · rw [if_pos e1] at h1
      by_cases e2 : b.1 = c.1
      · rw [if_pos e2] at h2
        rw [if_pos (e1.trans e2)]; exact T.tr _ _ _ h1 h2
      · rw [if_neg e2] at h2
        rw [if_neg (fun z => e2 (e1.symm.trans z)), e1]; exact h2
    · rw [if_neg e1] at h1
      by_cases e2 : b.1 = c.1
      · rw [if_neg (fun z => e1 (z.trans e2.symm)), ← e2]; exact h1
      · rw [if_neg e2] at h2
        have h3 := S.tr _ _ _ h1 h2
        by_cases e3 : a.1 = c.1
        · rw [e3, S.irr] at h3; cases h3
        · rw [if_neg e3]; exact h3, fun a b h1 h2 => by
    by_cases e : a.1 = b.1
    · rw [if_pos e] at h1
      rw [if_pos e.symm] at h2
      exact Prod.ext e (T.tot _ _ h1 h2)
    · rw [if_neg e] at h1
      rw [if_neg (Ne.symm e)] at h2
      exact absurd (S.tot _ _ h1 h2) e⟩
theorem Sto.uniq {α : Type} {lt : α → α → Bool} (S : Sto lt) {xs ys : List α} (p : xs.Perm ys) (h1 : xs.Pairwise (fun x y => lt y x = false)) (h2 : ys.Pairwise (fun x y => lt y x = false)) : xs = ys :=
  List.Perm.eq_of_pairwise (fun a b _ _ q1 q2 => S.tot a b q2 q1) h1 h2 p
/-! ## parts of a row as trees -/
theorem pre_sm {s : List (Str × Int)} {row : List Int} {j : Nat} : pre s row j = sm s (row.take j) := rfl
theorem sm_seg {s : List (Str × Int)} {row : List Int} {a b : Nat} (h : a ≤ b) : sm s (seg row a b) = pre s row b - pre s row a := by
  have e : row.take b = row.take a ++ seg row a b := by
    unfold seg
    rw [show row.take a = (row.take b).take a by rw [List.take_take, Nat.min_eq_left h], List.take_append_drop]
  rw [pre_sm, pre_sm, e, sm_app]; omega
theorem seg_take {row : List Int} {a b j : Nat} (h : a + j ≤ b) : (seg row a b).take j = seg row a (a + j) := by
  unfold seg
  rw [List.take_drop, List.take_take, Nat.min_eq_left (by omega)]
theorem seg_cat {row : List Int} {a b c : Nat} (h1 : a ≤ b) (h2 : b ≤ c) : seg row a c = seg row a b ++ seg row b c := by
  unfold seg
  have e : row.take b = (row.take c).take b := by rw [List.take_take, Nat.min_eq_left h2]
  rw [e]
  have := List.take_append_drop b (row.take c)
  conv => lhs; rw [← this]
  rw [List.drop_append]
  congr 1
  by_cases q : b ≤ (row.take c).length
  · rw [List.length_take, Nat.min_eq_left q, show a - b = 0 by omega, List.drop_zero]
  · have e0 : List.drop b (List.take c row) = [] := List.drop_eq_nil_of_le (by omega)
    rw [e0, List.drop_nil]
theorem seg_TR {s : List (Str × Int)} {row : List Int} {a b : Nat} (t : TR s row) (S : Sub s row a b) : TR s (seg row a b) := by
  have lt := S.lt
  have le := S.le
  have len := t.len
  refine ⟨fun x m => t.ins x (List.mem_of_mem_take (List.mem_of_mem_drop m)), fun j hj => ?_, ?_, by rw [seg_len le]; omega⟩
  · rw [seg_len le] at hj
    have := S.pos (a + j) (by omega) (by omega)
    rw [wt_sm, seg_take (by omega), sm_seg (by omega)]; omega
  · rw [wt_sm, sm_seg (by omega), S.fin]; omega
open Classical in
/-- the tree that stands at a -/
noncomputable def tr (s : List (Str × Int)) (row : List Int) (a : Nat) : Tre := if h : ∃ u : Tre, u.Ok s ∧ u.row = seg row a (stp s row a) ∧ u.sz ≤ 40 then Classical.choose h else .l 0
theorem tr_spec {s : List (Str × Int)} {row : List Int} (g : SG s) (t : TR s row) {a : Nat} (h : a < row.length) : (tr s row a).Ok s ∧ (tr s row a).row = seg row a (stp s row a) ∧ (tr s row a).sz ≤ 40 := by
  have ex := tre_of g (seg_TR t (stp_sub g t h))
  unfold tr
  rw [dif_pos ex]
  exact Classical.choose_spec ex
theorem row_kids : ∀ u : Tre, u.row = u.sg :: (u.kids.map Tre.row).flatten
  | .l _ => rfl
  | .u x a => by show x :: a.row = x :: (a.row ++ []); rw [List.append_nil]
  | .b x a c => by show x :: (a.row ++ c.row) = x :: (a.row ++ (c.row ++ [])); rw [List.append_nil]
theorem row_ne0 (u : Tre) : u.row ≠ [] := by rw [row_kids]; simp
theorem trs_inj {s : List (Str × Int)} : ∀ {ts us : List Tre}, (∀ t ∈ ts, t.Ok s) → (∀ t ∈ us, t.Ok s) → (ts.map Tre.row).flatten = (us.map Tre.row).flatten → ts = us
  | [], [], _, _, _ => rfl
  | [], u :: us, _, _, h => by
    have : u.row ++ (us.map Tre.row).flatten = [] := h.symm
    exact absurd (List.append_eq_nil_iff.mp this).1 (row_ne0 u)
  | t :: ts, [], _, _, h => by
    have : t.row ++ (ts.map Tre.row).flatten = [] := h
    exact absurd (List.append_eq_nil_iff.mp this).1 (row_ne0 t)
  | t :: ts, u :: us, h1, h2, h => by
    have h : t.row ++ (ts.map Tre.row).flatten = u.row ++ (us.map Tre.row).flatten := h
    obtain ⟨e, e2⟩ := tre_inj (h1 t List.mem_cons_self) (h2 u List.mem_cons_self) h
    rw [e, trs_inj (fun x m => h1 x (List.mem_cons_of_mem _ m)) (fun x m => h2 x (List.mem_cons_of_mem _ m)) e2]
theorem kid_cat {s : List (Str × Int)} {row : List Int} (g : SG s) (t : TR s row) {a : Nat} (h : a < row.length) : ∀ k, k ≤ kn s row a → ((List.range k).map fun i => seg row (cs s row a i) (stp s row (cs s row a i))).flatten = seg row (a + 1) (cs s row a k)
  | 0, _ => by
    show [] = seg row (a + 1) (a + 1)
    unfold seg
    rw [List.drop_eq_nil_of_le (by rw [List.length_take]; omega)]
  | k + 1, hk => by
    rw [List.range_succ, List.map_append, List.flatten_append, kid_cat g t h k (by omega)]
    have h1 := (cs_inv g t h k (by omega)).1
    have S := (stp_sub g t (cs_lt g t h (i := k) (by omega)).2).lt
    show seg row (a + 1) (cs s row a k) ++ (seg row (cs s row a k) (stp s row (cs s row a k)) ++ []) = seg row (a + 1) (stp s row (cs s row a k))
    rw [List.append_nil, ← seg_cat (by omega) (by omega)]
theorem tr_kids {s : List (Str × Int)} {row : List Int} (g : SG s) (t : TR s row) {a : Nat} (h : a < row.length) : (tr s row a).kids = (List.range (kn s row a)).map fun i => tr s row (cs s row a i) := by
  obtain ⟨o, e, _⟩ := tr_spec g t h
  have S := stp_sub g t h
  have lt := S.lt
  have le := S.le
  refine trs_inj (Tre.ok_kids o) (fun u m => ?_) ?_
  · obtain ⟨i, hi, rfl⟩ := List.mem_map.mp m
    exact (tr_spec g t (cs_lt g t h (List.mem_range.mp hi)).2).1
  · have e2 : ((List.range (kn s row a)).map fun i => tr s row (cs s row a i)).map Tre.row = (List.range (kn s row a)).map fun i => seg row (cs s row a i) (stp s row (cs s row a i)) := by
      rw [List.map_map]
      apply List.map_congr_left
      intro i hi
      exact (tr_spec g t (cs_lt g t h (List.mem_range.mp hi)).2).2.1
    rw [e2, kid_cat g t h _ (Nat.le_refl _), cs_last g t h]
    rw [row_kids, seg_cat (b := a + 1) (by omega) (by omega)] at e
    have e3 : seg row a (a + 1) = [row[a]] := by
      unfold seg
      rw [List.take_add_one, List.getElem?_eq_getElem h, List.drop_append]
      have : (row.take a).length = a := by rw [List.length_take]; omega
      rw [List.drop_eq_nil_of_le (by omega), this, Nat.sub_self]; rfl
    rw [e3] at e
    exact (List.cons.inj e).2
/-! how high -/
def Tre.ht : Tre → Nat
  | .l _ => 1
  | .u _ a => a.ht + 1
  | .b _ a c => max a.ht c.ht + 1
theorem ht_kid : ∀ {u k : Tre}, k ∈ u.kids → k.ht + 1 ≤ u.ht
  | .u _ a, k, m => by rw [List.mem_singleton.mp m]; exact Nat.le_refl _
  | .b _ a c, k, m => by
    have m : k = a ∨ k = c := by simpa [Tre.kids] using m
    show k.ht + 1 ≤ max a.ht c.ht + 1
    rcases m with rfl | rfl <;> omega
theorem ht_ex : ∀ u : Tre, u.ht = 1 ∨ ∃ k ∈ u.kids, k.ht + 1 = u.ht
  | .l _ => .inl rfl
  | .u _ a => .inr ⟨a, List.mem_singleton.mpr rfl, rfl⟩
  | .b _ a c => by
    by_cases q : a.ht ≤ c.ht
    · exact .inr ⟨c, by simp [Tre.kids], by show c.ht + 1 = max a.ht c.ht + 1; omega⟩
    · exact .inr ⟨a, by simp [Tre.kids], by show a.ht + 1 = max a.ht c.ht + 1; omega⟩
theorem ht_pos : ∀ u : Tre, 1 ≤ u.ht
  | .l _ => Nat.le_refl _
  | .u _ _ => Nat.succ_le_succ (Nat.zero_le _)
  | .b _ _ _ => Nat.succ_le_succ (Nat.zero_le _)
theorem bf_inv {s : List (Str × Int)} {row : List Int} (g : SG s) (t : TR s row) (I : List Nd → Nat → Prop) (h0 : I [([], 0)] 0) (hs : ∀ f i x, (∀ y ∈ f, y.2 < row.length) → f[i]? = some x → I f i → I (f ++ chN s row x) (i + 1)) : ∃ i, (allN s row).length ≤ i ∧ I (allN s row) i := by
  have go : ∀ n m f i, m ≤ n → Bf s row m f i → I f i → ∃ i, (allN s row).length ≤ i ∧ I (allN s row) i := by
    intro n
    induction n with
    | zero =>
      intro m f i hm B hi
      have q : f.length ≤ i := by
        rcases Nat.lt_or_ge i f.length with q | q
        · obtain ⟨m', h1, _⟩ := bf_step g t B (List.getElem?_eq_getElem q)
          omega
        · exact q
      have e := bf_end B q
      subst e
      exact ⟨i, q, hi⟩
    | succ n ih =>
      intro m f i hm B hi
      rcases Nat.lt_or_ge i f.length with q | q
      · obtain ⟨m', h1, B'⟩ := bf_step g t B (List.getElem?_eq_getElem q)
        exact ih m' _ _ (by omega) B' (hs f i _ B.gd.lt (List.getElem?_eq_getElem q) hi)
      · have e := bf_end B q
        subst e
        exact ⟨i, q, hi⟩
  exact go _ _ _ _ (Nat.le_refl _) (bf_init g t) h0
theorem all_closed {s : List (Str × Int)} {row : List Int} (g : SG s) (t : TR s row) : ([], 0) ∈ allN s row ∧ ∀ x ∈ allN s row, ∀ y ∈ chN s row x, y ∈ allN s row := by
  obtain ⟨i, hi, h1, h2⟩ := bf_inv g t (fun f i => ([], 0) ∈ f ∧ ∀ k x, k < i → f[k]? = some x → ∀ y ∈ chN s row x, y ∈ f) ⟨by simp, fun k x h => absurd h (Nat.not_lt_zero _)⟩ (fun f i x _ hx ⟨h1, h2⟩ => ⟨List.mem_append_left _ h1, fun k z hk hz y hy => by
    have il := (List.getElem?_eq_some_iff.mp hx).1
    rw [List.getElem?_append_left (by omega)] at hz
    by_cases e : k = i
    · subst e
      rw [hx] at hz
      cases hz
      exact List.mem_append_right _ hy
    · exact List.mem_append_left _ (h2 k z (by omega) hz y hy)⟩)
  refine ⟨h1, fun x m y hy => ?_⟩
  obtain ⟨k, hk, e⟩ := List.getElem_of_mem m
  exact h2 k x (by omega) (by rw [List.getElem?_eq_getElem hk, e]) y hy
theorem all_ht {s : List (Str × Int)} {row : List Int} (g : SG s) (t : TR s row) : ∀ x ∈ allN s row, x.1.length + (tr s row x.2).ht ≤ (tr s row 0).ht := by
  obtain ⟨i, _, h⟩ := bf_inv g t (fun f i => ∀ x ∈ f, x.1.length + (tr s row x.2).ht ≤ (tr s row 0).ht) (fun x m => by rw [List.mem_singleton.mp m]; show 0 + (tr s row 0).ht ≤ _; omega) (fun f i x lt hx h y hy => by
    rcases List.mem_append.mp hy with hy | hy
    · exact h y hy
    · have mem := List.mem_of_getElem? hx
      have hx2 := lt x mem
      obtain ⟨j, hj, rfl⟩ := List.mem_map.mp hy
      have := h x mem
      have q := ht_kid (u := tr s row x.2) (k := tr s row (cs s row x.2 j)) (by rw [tr_kids g t hx2]; exact List.mem_map.mpr ⟨j, hj, rfl⟩)
      show (x.1 ++ [(j : Int)]).length + (tr s row (cs s row x.2 j)).ht ≤ _
      rw [List.length_append]
      show x.1.length + 1 + _ ≤ _
      omega)
  exact h
theorem all_deep {s : List (Str × Int)} {row : List Int} (g : SG s) (t : TR s row) (G : Good s row (allN s row)) : ∃ x ∈ allN s row, x.1.length + 1 = (tr s row 0).ht := by
  have cl := all_closed g t
  have go : ∀ n (x : Nd), x ∈ allN s row → (tr s row x.2).ht ≤ n → x.1.length + (tr s row x.2).ht = (tr s row 0).ht → ∃ x ∈ allN s row, x.1.length + 1 = (tr s row 0).ht := by
    intro n
    induction n with
    | zero => intro x _ h _; have := ht_pos (tr s row x.2); omega
    | succ n ih =>
      intro x m h e
      rcases ht_ex (tr s row x.2) with q | ⟨k, mk, ek⟩
      · exact ⟨x, m, by omega⟩
      · rw [tr_kids g t (G.lt x m)] at mk
        obtain ⟨j, hj, rfl⟩ := List.mem_map.mp mk
        have my := cl.2 x m _ (List.mem_map.mpr ⟨j, hj, rfl⟩)
        refine ih _ my (by show (tr s row (cs s row x.2 j)).ht ≤ n; omega) ?_
        show (x.1 ++ [(j : Int)]).length + (tr s row (cs s row x.2 j)).ht = _
        rw [List.length_append]
        show x.1.length + 1 + _ = _
        omega
  exact go _ ([], 0) cl.1 (Nat.le_refl _) (by show 0 + (tr s row 0).ht = _; omega)
/-- each place of the row is met -/
theorem all_cover {s : List (Str × Int)} {row : List Int} (g : SG s) (t : TR s row) (G : Good s row (allN s row)) {i : Nat} (hi : i < row.length) : ∃ x ∈ allN s row, x.2 = i := by
  have cl := all_closed g t
  have go : ∀ n (x : Nd), x ∈ allN s row → x.2 ≤ i → i < stp s row x.2 → stp s row x.2 - x.2 ≤ n → ∃ x ∈ allN s row, x.2 = i := by
    intro n
    induction n with
    | zero => intro x m h1 h2 h3; omega
    | succ n ih =>
      intro x m h1 h2 h3
      by_cases e : x.2 = i
      · exact ⟨x, m, e⟩
      have hx := G.lt x m
      have fnd : ∀ k, k ≤ kn s row x.2 → i < cs s row x.2 k → ∃ j, j < k ∧ cs s row x.2 j ≤ i ∧ i < cs s row x.2 (j + 1) := by
        intro k
        induction k with
        | zero => intro _ q; have q : i < x.2 + 1 := q; omega
        | succ k ih2 =>
          intro hk q
          by_cases z : i < cs s row x.2 k
          · obtain ⟨j, a, b, c⟩ := ih2 (by omega) z
            exact ⟨j, by omega, b, c⟩
          · exact ⟨k, by omega, by omega, q⟩
      obtain ⟨j, j1, j2, j3⟩ := fnd (kn s row x.2) (Nat.le_refl _) (by rw [cs_last g t hx]; exact h2)
      have my := cl.2 x m _ (List.mem_map.mpr ⟨j, List.mem_range.mpr j1, rfl⟩)
      have c1 := cs_inv g t hx (j + 1) (by omega)
      have c0 := cs_inv g t hx j (by omega)
      refine ih _ my j2 j3 ?_
      show stp s row (cs s row x.2 j) - cs s row x.2 j ≤ n
      have : cs s row x.2 (j + 1) = stp s row (cs s row x.2 j) := rfl
      omega
  have n0 := row_ne t
  refine go _ ([], 0) cl.1 (Nat.zero_le _) ?_ (Nat.le_refl _)
  show i < stp s row 0
  rw [stp_zero g t n0]; exact hi
end TM
namespace TM
open PySem PySem.Spec PyProof.Rows L2
/-! ## k03: kids, heights, rows, parts, places of the program -/
theorem kids_of_plain {s : List (Str × Int)} {row : List Int} {P : List (List Int) → Prop} (g : SG s) (t : TR s row) (hp : P (kidSegs s row 0)) : W_kids_of (bk s) row P := by
  refine check_tree_plain t ?_
  have n0 := row_ne t
  have len := t.len
  have kk := kn_eq g t n0
  have kb := kd_nn g t n0
  refine ⟨row[0], (atI_nat n0 : atI row ((0 : Nat) : Int) = _), kids_plain (t.ins _ (List.getElem_mem n0)) ⟨rg (by omega) (by omega), ?_⟩⟩
  rw [← kk, Int.toNat_natCast]
  refine forW_inv (I := fun j (st : List (List Int) × Int) => j ≤ kn s row 0 ∧ st.1 = (kidSegs s row 0).take j ∧ st.2 = (cs s row 0 j : Int)) (j := 0) ⟨Nat.zero_le _, rfl, rfl⟩ ?_ ?_
  · rintro j y ⟨fd, sp⟩ nx hi ⟨hj, e1, e2⟩ hn
    have e1 : fd = (kidSegs s row 0).take (0 + j) := e1
    have e2 : sp = (cs s row 0 (0 + j) : Int) := e2
    obtain ⟨rfl, hi2⟩ := rangeL_at hi
    rw [Nat.zero_add] at e1 e2
    have c2 := cs_lt g t n0 hi2
    have C := stp_sub g t c2.2
    have clt := C.lt
    have cle := C.le
    have fdl : fd.length ≤ 2 := by
      rw [e1, List.length_take]
      unfold kidSegs
      rw [List.length_map, List.length_range]; omega
    show W_end_of (bk s) row sp _
    rw [e2]
    refine end_at g t c2.2 ⟨len_lt (by show fd.length ≤ _; omega), hn _ ⟨by omega, ?_, ?_⟩⟩
    · show fd ++ [cutL row (some (cs s row 0 j : Int)) (some (stp s row (cs s row 0 j) : Int))] = _
      rw [Nat.zero_add, show (kidSegs s row 0).take (j + 1) = (kidSegs s row 0).take j ++ [seg row (cs s row 0 j) (cs s row 0 (j + 1))] from range_take_succ hi2, e1, cut_nat (by omega) cle]
      rfl
    · show (stp s row (cs s row 0 j) : Int) = _
      rw [Nat.zero_add]; rfl
  · rintro ⟨fd, sp⟩ ⟨_, e1, _⟩
    have e1 : fd = (kidSegs s row 0).take (0 + _) := e1
    rw [rangeL_len, Nat.zero_add, List.take_of_length_le (by unfold kidSegs; rw [List.length_map, List.length_range]; exact Nat.le_refl _)] at e1
    show P fd
    rw [e1]; exact hp
theorem popmax {α : Type} {k : List Int × Int → Prop} : ∀ {xs : List α} {tail base : List Int} {acc : Int}, xs.length = tail.length → k (base, tail.reverse.foldl (fun a y => if y > a then y else a) acc) → forW xs (base ++ tail, acc) (fun _ s7 nx9 => ∃ ys12 y13, s7.1 = ys12 ++ [y13] ∧ (fun x11 : Int × List Int => nx9 (x11.2, x11.1)) ((if y13 > s7.2 then y13 else s7.2), ys12)) k
  | [], tail, base, acc, hl, h => by
    have : tail = [] := List.length_eq_zero_iff.mp hl.symm
    subst this
    show k (base ++ [], acc)
    simpa using h
  | x :: xs, tail, base, acc, hl, h => by
    rcases List.eq_nil_or_concat tail with rfl | ⟨t, y, rfl⟩
    · simp at hl
    · simp only [List.concat_eq_append] at hl h ⊢
      rw [List.length_append] at hl
      have hl : xs.length + 1 = t.length + 1 := hl
      refine ⟨base ++ t, y, (List.append_assoc _ _ _).symm, ?_⟩
      refine popmax (by omega) ?_
      rw [List.reverse_append] at h
      exact h
theorem max_kids : ∀ u : Tre, ((u.kids.reverse.map fun t => (t.ht : Int)).reverse.foldl (fun (a y : Int) => if y > a then y else a) 0) + 1 = (u.ht : Int)
  | .l _ => rfl
  | .u _ a => by
    have := ht_pos a
    show (if (a.ht : Int) > 0 then (a.ht : Int) else 0) + 1 = ((a.ht + 1 : Nat) : Int)
    rw [if_pos (by omega)]; omega
  | .b _ a c => by
    have := ht_pos a
    show (if (c.ht : Int) > (if (a.ht : Int) > 0 then (a.ht : Int) else 0) then (c.ht : Int) else (if (a.ht : Int) > 0 then (a.ht : Int) else 0)) + 1 = ((max a.ht c.ht + 1 : Nat) : Int)
    rw [if_pos (show (a.ht : Int) > 0 by omega)]
    by_cases q : (c.ht : Int) > (a.ht : Int)
    · rw [if_pos q]; omega
    · rw [if_neg q]; omega
theorem height_tre {s : List (Str × Int)} {u : Tre} {P : Int → Prop} (g : SG s) (h : u.Ok s) (l : u.sz ≤ 40) (hp : P (u.ht : Int)) : W_height (bk s) u.row P := by
  refine check_tree_plain (tre_TR h l) ?_
  show forW u.row.reverse ([] : List Int) _ _
  refine forW_tre (s := s) (put := fun (st : List Int) (_ : Unit) => st) (val := fun t => (t.ht : Int)) (sp := fun _ g => g) (N := 1000) (I := fun _ _ => True) (fun _ _ _ _ => trivial) ?_ u h [] 0 () _ (by show 0 + u.sz ≤ 1000; omega) (by omega) trivial ?_
  · intro t st n fd nx ht hl hn hi hx
    have kb := kd_bound g (Tre.ok_sg ht)
    refine kids_plain (Tre.ok_sg ht) ⟨rg (by omega) (by omega), ?_⟩
    refine popmax (by rw [rangeL_len, ok_kdN ht]; simp) ?_
    refine ⟨len_lt (by show st.length ≤ 1000; omega), ?_⟩
    show nx (st ++ [((t.kids.reverse.map fun t => (t.ht : Int)).reverse.foldl (fun (a y : Int) => if y > a then y else a) 0) + 1])
    rw [max_kids t]; exact hx
  · intro _
    exact ⟨_, rfl, hp⟩
theorem height_plain {s : List (Str × Int)} {row : List Int} {P : Int → Prop} (g : SG s) (t : TR s row) (hp : P ((tr s row 0).ht : Int)) : W_height (bk s) row P := by
  have n0 := row_ne t
  obtain ⟨o, e, l⟩ := tr_spec g t n0
  have := height_tre g o l hp
  rw [e, stp_zero g t n0] at this
  have e2 : seg row 0 row.length = row := by unfold seg; rw [List.take_length, List.drop_zero]
  rwa [e2] at this
noncomputable def rowsL (s : List (Str × Int)) (row : List Int) : List (List Int) := (List.range row.length).map fun i => (tr s row i).row
theorem rows_in_plain {s : List (Str × Int)} {row : List Int} {P : List (List Int) → Prop} (g : SG s) (t : TR s row) (hp : P (rowsL s row)) : W_rows_in (bk s) row P := by
  have len := t.len
  refine ⟨rg (by omega) (by omega), ?_⟩
  rw [Int.toNat_natCast]
  refine forW_inv (I := fun j (st : List (List Int)) => j ≤ row.length ∧ st = (rowsL s row).take j) (j := 0) ⟨Nat.zero_le _, rfl⟩ ?_ ?_
  · rintro j y fd nx hi ⟨hj, e1⟩ hn
    obtain ⟨rfl, hi2⟩ := rangeL_at hi
    rw [Nat.zero_add] at e1
    have C := stp_sub g t hi2
    have clt := C.lt
    refine end_at g t hi2 ⟨len_lt (by rw [e1, List.length_take]; omega), hn _ ⟨by omega, ?_⟩⟩
    show fd ++ [cutL row (some (j : Int)) (some (stp s row j : Int))] = _
    rw [Nat.zero_add, show (rowsL s row).take (j + 1) = (rowsL s row).take j ++ [(tr s row j).row] from range_take_succ hi2, e1, cut_nat (by omega) C.le, (tr_spec g t hi2).2.1]
    rfl
  · rintro fd ⟨_, e1⟩
    rw [rangeL_len, Nat.zero_add, List.take_of_length_le (by unfold rowsL; rw [List.length_map, List.length_range]; exact Nat.le_refl _)] at e1
    rw [e1]; exact hp
theorem look_in {κ β : Type} [DecidableEq κ] {d : List (κ × β)} {k : κ} {v : β} (h : lookA d k = some v) : (k, v) ∈ d := by
  induction d with
  | nil => cases h
  | cons p d ih =>
    rw [lookA_cons] at h
    by_cases e : p.1 = k
    · rw [if_pos e] at h
      cases h
      rw [← e]; exact List.mem_cons_self
    · rw [if_neg e] at h
      exact List.mem_cons_of_mem _ (ih h)
theorem mem_put {κ β : Type} [DecidableEq κ] {d : List (κ × β)} {k : κ} {v : β} {p : κ × β} (h : p ∈ putA d k v) : p = (k, v) ∨ p ∈ d := by
  unfold putA at h
  split at h
  · obtain ⟨q, m, rfl⟩ := List.mem_map.mp h
    by_cases e : q.1 = k
    · rw [if_pos e, e]; exact .inl rfl
    · rw [if_neg e]; exact .inr m
  · rcases List.mem_append.mp h with h | h
    · exact .inr h
    · exact .inl (List.mem_singleton.mp h)
theorem len_put {κ β : Type} [DecidableEq κ] {d : List (κ × β)} {k : κ} {v : β} : (putA d k v).length ≤ d.length + 1 := by
  unfold putA
  split
  · rw [List.length_map]; omega
  · rw [List.length_append]; exact Nat.le_refl _
/-- keys of the parts, in order -/
structure PK3 (s : List (Str × Int)) (row : List Int) (ks : List (List (Int × Int))) : Prop where
  nd : ks.Nodup
  mem : ∀ k, k ∈ ks ↔ ∃ i, i < row.length ∧ k = (tr s row i).key
  pw : ks.Pairwise (fun x y => kLt y x = false)
theorem sto_kLt : Sto kLt := sto_lex (sto_pair sto_int (sto_if sto_int))
theorem PK3.uniq {s : List (Str × Int)} {row : List Int} {ks ls : List (List (Int × Int))} (h : PK3 s row ks) (k : PK3 s row ls) : ks = ls :=
  sto_kLt.uniq ((List.perm_ext_iff_of_nodup h.nd k.nd).mpr fun a => (h.mem a).trans (k.mem a).symm) h.pw k.pw
abbrev unk (k : List (Int × Int)) : List Int := k.map (·.2)
theorem parts_plain {s : List (Str × Int)} {row : List Int} {P : List (List Int) → Prop} (g : SG s) (t : TR s row) (hp : ∀ ks, PK3 s row ks → P (ks.map unk)) : W_parts (bk s) row P := by
  have len := t.len
  refine check_tree_plain t (rows_in_plain g t ?_)
  show forW (rowsL s row) ([] : List (List (Int × Int) × List Int)) _ _
  refine forW_inv (I := fun j (d : List (List (Int × Int) × List Int)) => (d.map (·.1)).Nodup ∧ (∀ p ∈ d, ∃ i, i < row.length ∧ p = ((tr s row i).key, (tr s row i).row)) ∧ (∀ i, i < j → i < row.length → (tr s row i).key ∈ d.map (·.1)) ∧ d.length ≤ j) (j := 0) ⟨List.nodup_nil, (fun p m => by cases m), (fun i h => absurd h (Nat.not_lt_zero _)), Nat.le_refl _⟩ ?_ ?_
  · rintro j y d nx hi ⟨h1, h2, h3, h4⟩ hn
    have hj : j < row.length := by
      have := (List.getElem?_eq_some_iff.mp hi).1
      unfold rowsL at this
      rwa [List.length_map, List.length_range] at this
    have ey : y = (tr s row j).row := by
      unfold rowsL at hi
      rw [List.getElem?_map, List.getElem?_range hj] at hi
      exact (Option.some.inj hi).symm
    subst ey
    rw [Nat.zero_add] at h3 h4
    obtain ⟨o, e, l⟩ := tr_spec g t hj
    refine key_plain g o (by omega) ⟨len_lt (by omega), hn _ ⟨?_, fun p m => ?_, fun i hi1 hi2 => ?_, ?_⟩⟩
    · rw [keys_put]
      split
      · exact h1
      · rename_i q
        exact List.nodup_append.mpr ⟨h1, by simp, fun a ma b mb => by rw [List.mem_singleton.mp mb]; exact fun z => q (by rw [← z]; exact ma)⟩
    · rcases mem_put m with rfl | m
      · exact ⟨j, hj, rfl⟩
      · exact h2 p m
    · rw [keys_put]
      by_cases q : i = j
      · subst q
        split
        · rename_i q; exact q
        · exact List.mem_append_right _ (by simp)
      · have := h3 i (by omega) hi2
        split
        · exact this
        · exact List.mem_append_left _ this
    · have := len_put (d := d) (k := (tr s row j).key) (v := (tr s row j).row)
      show (putA d _ _).length ≤ _
      omega
  · rintro d ⟨h1, h2, h3, h4⟩
    have rl : (rowsL s row).length = row.length := by unfold rowsL; rw [List.length_map, List.length_range]
    rw [rl, Nat.zero_add] at h3 h4
    have km : ∀ k, k ∈ d.map (·.1) ↔ ∃ i, i < row.length ∧ k = (tr s row i).key := fun k => ⟨fun m => by
      obtain ⟨p, mp, rfl⟩ := List.mem_map.mp m
      obtain ⟨i, hi, rfl⟩ := h2 p mp
      exact ⟨i, hi, rfl⟩, fun ⟨i, hi, e⟩ => by rw [e]; exact h3 i hi hi⟩
    refine ⟨.inl fun z m => ?_, fun ks pm pw => ?_⟩
    · obtain ⟨p, mp, rfl⟩ := List.mem_map.mp m
      obtain ⟨i, hi, rfl⟩ := h2 p mp
      obtain ⟨r, er⟩ := Tre.key_head (tr s row i)
      show ∃ x r, (dT (dP dInt dInt)).d (tr s row i).key = .tuple (x :: r)
      rw [er]
      exact ⟨_, _, rfl⟩
    · have kl : ks.length ≤ 40 := by rw [pm.length_eq, List.length_map]; omega
      refine ⟨len_line (by omega), ?_⟩
      have nk : ks.Nodup := pm.nodup_iff.mpr h1
      have mk : ∀ k, k ∈ ks ↔ ∃ i, i < row.length ∧ k = (tr s row i).key := fun k => (pm.mem_iff).trans (km k)
      refine lcW_ofI (h := unk) (fun k m nx hx => ?_) ?_
      · have q := pm.mem_iff.mp m
        obtain ⟨v, hv⟩ := Option.isSome_iff_exists.mp (look_mem.mpr q)
        refine ⟨v, hv, ?_⟩
        obtain ⟨i, _, e⟩ := h2 _ (look_in hv)
        have e1 : k = (tr s row i).key := congrArg Prod.fst e
        have e2 : v = (tr s row i).row := congrArg Prod.snd e
        rw [e2, ← Tre.key_row, ← e1]
        exact hx
      · rw [List.nil_append]
        exact hp ks ⟨nk, mk, pw⟩
theorem places_of_plain {s : List (Str × Int)} {row : List Int} {P : List (List Int) → Prop} (g : SG s) (t : TR s row) (l40 : (allN s row).length ≤ 40) (hd : ∃ r, allN s row = ([], 0) :: r) (hp : ∀ ps : List (List Int), ps.Perm ((allN s row).map (·.1)) → ps.Pairwise (fun x y => (oT oInt).lt y x = false) → P ps) : W_places (bk s) row P := by
  refine check_tree_plain t (places_plain g t fun G => ?_)
  refine ⟨len_line (by rw [List.length_map]; omega), ?_⟩
  refine (lcW_map (g := fun x : List Int × Int => x.1)).mpr ?_
  rw [List.nil_append]
  have e : ((allN s row).map plc).map (fun x : List Int × Int => x.1) = (allN s row).map (·.1) := by rw [List.map_map]; rfl
  rw [e]
  refine ⟨.inr ⟨?_, fun z m => ?_⟩, fun ys pm pw => hp ys pm pw⟩
  · obtain ⟨r, er⟩ := hd
    rw [er]
    exact ⟨_, rfl⟩
  · obtain ⟨x, _, rfl⟩ := List.mem_map.mp m
    exact ⟨_, rfl⟩
/-! the law's lines -/
noncomputable def lin3 (s : List (Str × Int)) (row : List Int) (x : Nd) : List Int × List Int := (x.1, seg row x.2 (stp s row x.2))
theorem lines_plain {s : List (Str × Int)} {row : List Int} {P : List (List Int × List Int) → Prop} (g : SG s) (t : TR s row) (hp : Good s row (allN s row) → (allN s row).length ≤ 40 → P ((allN s row).map (lin3 s row))) : W__law_lines s row P := by
  have len := t.len
  have e0 : seg row 0 (stp s row 0) = row := by unfold seg; rw [stp_zero g t (row_ne t), List.take_length, List.drop_zero]
  refine ⟨fun m st => ∃ (f : List Nd) (i : Nat), st = (f.map (lin3 s row), (i : Int)) ∧ Bf s row m f i, ⟨row.length, [([], 0)], 0, by show ([(([] : List Int), row)], (0 : Int)) = ([(([] : List Int), seg row 0 (stp s row 0))], ((0 : Nat) : Int)); rw [e0]; rfl, bf_init g t⟩, ?_⟩
  rintro m st ⟨f, i, rfl, B⟩
  have fl := B.fl
  show if decide ((i : Int) < ((f.map (lin3 s row)).length : Int)) = true then _ else _
  rw [List.length_map]
  by_cases q : i < f.length
  · rw [if_pos (by simpa using q)]
    have hx := List.getElem?_eq_getElem q
    generalize f[i] = x at hx
    have mem := List.mem_of_getElem? hx
    have h := B.gd.lt x mem
    have xl := B.ln x mem
    obtain ⟨m', m1, B'⟩ := bf_step g t B hx
    have fl' := B'.fl
    rw [List.length_append, show (chN s row x).length = kn s row x.2 by unfold chN; rw [List.length_map, List.length_range]] at fl'
    refine ⟨lin3 s row x, atI_get (by rw [List.getElem?_map, hx]; rfl), ?_⟩
    show W__law_kids s (seg row x.2 (stp s row x.2)) _
    refine law_kids_plain g t h ?_
    have kl : (kidSegs s row x.2).length = kn s row x.2 := by unfold kidSegs; rw [List.length_map, List.length_range]
    refine forW_inv (I := fun j (st : List (List Int × List Int)) => j ≤ kn s row x.2 ∧ st = (f ++ (chN s row x).take j).map (lin3 s row)) (j := 0) ⟨Nat.zero_le _, by rw [List.take_zero, List.append_nil]⟩ ?_ ?_
    · rintro j y fd nx hi ⟨hj, e1⟩ hn
      have hi2 : j < kn s row x.2 := by
        have := (List.getElem?_eq_some_iff.mp hi).1
        rwa [enumF_length, kl] at this
      have hg : (kidSegs s row x.2)[j]? = some (seg row (cs s row x.2 j) (cs s row x.2 (j + 1))) := by
        unfold kidSegs; rw [List.getElem?_map]; simp [hi2]
      rw [enumF_get _ 0 j _ hg, Nat.zero_add] at hi
      cases hi
      rw [Nat.zero_add] at e1
      have fdl : fd.length ≤ 40 := by
        rw [e1, List.length_map, List.length_append, List.length_take]; omega
      refine ⟨by show x.1.length + 1 ≤ _; exact len_line (by omega), len_lt (by show fd.length ≤ _; omega), hn _ ⟨by omega, ?_⟩⟩
      show fd ++ [(x.1 ++ [(j : Int)], seg row (cs s row x.2 j) (cs s row x.2 (j + 1)))] = _
      rw [Nat.zero_add, show (chN s row x).take (j + 1) = (chN s row x).take j ++ [(x.1 ++ [(j : Int)], cs s row x.2 j)] from range_take_succ hi2, ← List.append_assoc, List.map_append, e1]
      rfl
    · rintro fd ⟨_, e1⟩
      rw [enumF_length, kl, Nat.zero_add, List.take_of_length_le (by unfold chN; rw [List.length_map, List.length_range]; exact Nat.le_refl _)] at e1
      exact ⟨m', m1, f ++ chN s row x, i + 1, by rw [← e1]; rfl, B'⟩
  · rw [if_neg (by simpa using q)]
    have e := bf_end B (by omega)
    show P (f.map (lin3 s row))
    rw [e] at B fl ⊢
    exact hp B.gd (by omega)
theorem all_head {s : List (Str × Int)} {row : List Int} (g : SG s) (t : TR s row) : ∃ r, allN s row = ([], 0) :: r := by
  obtain ⟨i, _, h⟩ := bf_inv g t (fun f i => ∃ r, f = ([], 0) :: r) ⟨[], rfl⟩ (fun f i x _ hx ⟨r, e⟩ => ⟨r ++ chN s row x, by rw [e]; rfl⟩)
  exact h
abbrev flat (k : List (Int × Int)) : List Int := k.flatMap fun p => [p.1, p.2]
theorem lex_flat : ∀ a b : List (Int × Int), (oT oInt).lt (flat a) (flat b) = kLt a b
  | [], [] => rfl
  | [], _ :: _ => rfl
  | _ :: _, [] => rfl
  | p :: a, q :: b => by
    have ih : lexB oInt.lt (flat a) (flat b) = kLt a b := lex_flat a b
    show lexB oInt.lt (p.1 :: p.2 :: flat a) (q.1 :: q.2 :: flat b) = lexB _ (p :: a) (q :: b)
    rw [lex_cons, lex_cons, lex_cons, ih]
    by_cases e : p.1 = q.1
    · rw [if_pos e]
      by_cases e2 : p.2 = q.2
      · rw [if_pos e2, if_pos (Prod.ext e e2)]; rfl
      · rw [if_neg e2, if_neg fun z => e2 (by rw [z])]
        show decide (p.2 < q.2) = if p.1 = q.1 then (if p.2 = q.2 then false else decide (p.2 < q.2)) else decide (p.1 < q.1)
        rw [if_pos e, if_neg e2]
    · rw [if_neg e, if_neg fun z => e (by rw [z])]
      show decide (p.1 < q.1) = if p.1 = q.1 then (if p.2 = q.2 then false else decide (p.2 < q.2)) else decide (p.1 < q.1)
      rw [if_neg e]
abbrev spSz (t : Tre) (g : List Int) : List Int := g ++ [(t.sz : Int)]
theorem run_sz : ∀ (t : Tre) (g : List Int), t.run spSz g = g ++ (t.key.map (·.1)).reverse
  | .l _, g => rfl
  | .u x a, g => by
    show (a.run spSz g) ++ [_] = g ++ (_ :: a.key.map (·.1)).reverse
    rw [run_sz a, List.reverse_cons, List.append_assoc]; rfl
  | .b x a c, g => by
    show (a.run spSz (c.run spSz g)) ++ [_] = g ++ (_ :: (a.key ++ c.key).map (·.1)).reverse
    rw [run_sz a, run_sz c, List.reverse_cons, List.map_append, List.reverse_append, List.append_assoc, List.append_assoc, List.append_assoc]; rfl
theorem zip_unzip {α β : Type} : ∀ l : List (α × β), List.zip (l.map (·.1)) (l.map (·.2)) = l
  | [] => rfl
  | x :: l => by rw [List.map_cons, List.map_cons, List.zip_cons_cons, zip_unzip l]
theorem law_key_plain {s : List (Str × Int)} {t : Tre} {P : List Int → Prop} (g : SG s) (h : t.Ok s) (l : t.sz ≤ 40) (hp : P (flat t.key)) : W__law_key s t.row P := by
  show forW t.row.reverse (([] : List Int), ([] : List Int)) _ _
  refine forW_tre (s := s) (put := Prod.mk) (val := fun t => (t.sz : Int)) (sp := spSz) (N := 1000) (I := fun n g => g.length = n) (fun t n g e => by rw [List.length_append, e]; rfl) ?_ t h [] 0 [] _ (by show 0 + t.sz ≤ 1000; omega) (by omega) rfl ?_
  · intro t st n fd nx ht hl hn hi hx
    obtain ⟨y, y1, y2, y3⟩ := at_s (Tre.ok_sg ht)
    have kb := kd_bound g (Tre.ok_sg ht)
    refine ⟨y, y1, rfl, ?_⟩
    rw [← y3]
    refine ⟨rg (by omega) (by omega), ?_⟩
    refine popsum (by rw [rangeL_len, ok_kdN ht]; simp) ?_
    refine ⟨len_lt (by show st.length ≤ 1000; omega), len_lt (by show fd.length ≤ 1000; omega), ?_⟩
    have e : (1 : Int) + (t.kids.reverse.map fun t => (t.sz : Int)).sum = (t.sz : Int) := by
      rw [List.map_reverse, sum_rev, Tre.sz_kids t]
    show nx (st ++ [1 + (t.kids.reverse.map fun t => (t.sz : Int)).sum], fd ++ [1 + (t.kids.reverse.map fun t => (t.sz : Int)).sum])
    rw [e]; exact hx
  · intro _
    show forW (List.zip (t.run spSz []).reverse t.row) ([] : List Int) _ _
    rw [run_sz, List.nil_append, List.reverse_reverse, ← Tre.key_row, zip_unzip]
    have := forW_flat (f := fun (x20 : Int × Int) (s19 : List Int) nx21 => s19.length + ([x20.1, x20.2] : List Int).length ≤ sizeLine ∧ nx21 (s19 ++ ([x20.1, x20.2] : List Int))) (e := fun p : Int × Int => p) (h := fun p : Int × Int => [p.1, p.2]) (N := 1000) (ts := t.key) (s := []) (k := P) (fun p m s nx hl hx => ⟨len_line (by exact hl), hx⟩) (by
      have : (flat t.key).length ≤ 2 * t.key.length := by
        generalize t.key = k
        induction k with
        | nil => exact Nat.le_refl _
        | cons p k ih => show (p.1 :: p.2 :: flat k).length ≤ _; rw [List.length_cons, List.length_cons, List.length_cons]; omega
      rw [Tre.key_len] at this
      show 0 + (flat t.key).length ≤ 1000
      omega) (by rw [List.nil_append]; exact hp)
    rw [List.map_id'] at this
    exact this
end TM
namespace TM
open PySem PySem.Spec PyProof.Rows L2
/-! ## k03: the law -/
theorem sub_len {α : Type} [DecidableEq α] : ∀ {l l' : List α}, l.Nodup → (∀ x ∈ l, x ∈ l') → l.length ≤ l'.length
  | [], _, _, _ => Nat.zero_le _
  | x :: l, l', nd, h => by
    rw [List.nodup_cons] at nd
    have hx := h x List.mem_cons_self
    have := sub_len (l := l) (l' := l'.erase x) nd.2 fun y my => (List.mem_erase_of_ne (fun e => nd.1 (by rw [← e]; exact my))).mpr (h y (List.mem_cons_of_mem _ my))
    rw [List.length_erase_of_mem hx] at this
    have := List.length_pos_of_mem hx
    rw [List.length_cons]; omega
open Classical in
/-- the tree of a row -/
noncomputable def rowT (s : List (Str × Int)) (r : List Int) : Tre := if h : ∃ u : Tre, u.Ok s ∧ u.row = r then Classical.choose h else .l 0
theorem rowT_spec {s : List (Str × Int)} {u : Tre} (h : u.Ok s) : rowT s u.row = u := by
  have ex : ∃ v : Tre, v.Ok s ∧ v.row = u.row := ⟨u, h, rfl⟩
  unfold rowT
  rw [dif_pos ex]
  obtain ⟨h1, h2⟩ := Classical.choose_spec ex
  exact tre_inj0 h1 h h2
theorem flat_ne {a b : List (Int × Int)} (h : kLt a b = true) : flat a ≠ flat b := fun e => by
  have := lex_flat a b
  rw [e, h] at this
  have q := lex_flat b b
  rw [kLt_irr, this] at q
  cases q
/-- the law's list of parts -/
theorem due_plain {s : List (Str × Int)} {row : List Int} {P : List (List Int × List Int) → Prop} (g : SG s) (t : TR s row) (G : Good s row (allN s row)) (l40 : (allN s row).length ≤ 40) (hp : ∀ zs : List (List Int × List Int), zs.length ≤ 40 → (∃ ks, PK3 s row ks ∧ zs.map (·.2) = ks.map unk) → P zs) :
    ((((allN s row).map (lin3 s row)).map (·.2)).length < 64 ∧ PySem.W.Sortable ((((allN s row).map (lin3 s row)).map (·.2)).map (dT dInt).d)) ∧ ∀ ys19 : (List (List Int)), ys19.Nodup → (∀ x, x ∈ ys19 ↔ x ∈ ((allN s row).map (lin3 s row)).map (·.2)) → ys19.Pairwise (fun x y => (oT oInt).lt y x = false) → ys19.length ≤ sizeLine ∧ lcW ys19 (fun x17 nx18 => W__law_key s x17 fun r44 => nx18 (some (r44, x17))) [] fun x17l => PySem.W.Sortable (x17l.map (dP (dT dInt) (dT dInt)).d) ∧ ∀ ys16 : (List ((List Int) × (List Int))), ys16.Perm x17l → ys16.Pairwise (fun x y => (oP (oT oInt) (oT oInt)).lt y x = false) → P ys16 := by
  have len := t.len
  have mrow : ∀ r, r ∈ ((allN s row).map (lin3 s row)).map (·.2) ↔ ∃ i, i < row.length ∧ r = (tr s row i).row := fun r => by
    rw [List.map_map]
    constructor
    · intro m
      obtain ⟨x, mx, rfl⟩ := List.mem_map.mp m
      exact ⟨x.2, G.lt x mx, ((tr_spec g t (G.lt x mx)).2.1).symm⟩
    · rintro ⟨i, hi, rfl⟩
      obtain ⟨x, mx, rfl⟩ := all_cover g t G hi
      exact List.mem_map.mpr ⟨x, mx, ((tr_spec g t hi).2.1).symm⟩
  refine ⟨⟨by rw [List.length_map, List.length_map]; omega, .inl fun d m => ?_⟩, fun ys nd mem _ => ?_⟩
  · obtain ⟨r, mr, rfl⟩ := List.mem_map.mp m
    obtain ⟨i, hi, rfl⟩ := (mrow r).mp mr
    rw [row_kids]
    exact ⟨_, _, rfl⟩
  have memY : ∀ r, r ∈ ys ↔ ∃ i, i < row.length ∧ r = (tr s row i).row := fun r => (mem r).trans (mrow r)
  have yl : ys.length ≤ 40 := by
    have : ys.length ≤ (((allN s row).map (lin3 s row)).map (·.2)).length := by
      exact sub_len nd fun x m => (mem x).mp m
    rw [List.length_map, List.length_map] at this; omega
  refine ⟨len_line (by omega), ?_⟩
  refine lcW_ofI (h := fun r => (flat (rowT s r).key, r)) (fun r m nx hx => ?_) ?_
  · obtain ⟨i, hi, rfl⟩ := (memY r).mp m
    obtain ⟨o, e, l⟩ := tr_spec g t hi
    rw [rowT_spec o] at hx
    exact law_key_plain g o l hx
  rw [List.nil_append]
  refine ⟨.inl fun d m => ?_, fun zs pm pw => ?_⟩
  · obtain ⟨z, mz, rfl⟩ := List.mem_map.mp m
    exact ⟨_, _, rfl⟩
  have zl : zs.length ≤ 40 := by rw [pm.length_eq, List.length_map]; exact yl
  have p2 : (zs.map (·.2)).Perm ys := by
    have := pm.map (·.2)
    rw [List.map_map] at this
    have e : ys.map ((fun z : List Int × List Int => z.2) ∘ fun r => (flat (rowT s r).key, r)) = ys := by
      have : ((fun z : List Int × List Int => z.2) ∘ fun r => (flat (rowT s r).key, r)) = fun r => r := rfl
      rw [this, List.map_id']
    rwa [e] at this
  have zf : ∀ z ∈ zs, z.1 = flat (rowT s z.2).key ∧ ∃ i, i < row.length ∧ z.2 = (tr s row i).row := fun z m => by
    obtain ⟨r, mr, rfl⟩ := List.mem_map.mp (pm.mem_iff.mp m)
    exact ⟨rfl, (memY r).mp mr⟩
  have rk : ∀ z ∈ zs, (rowT s z.2).row = z.2 := fun z m => by
    obtain ⟨_, i, hi, e⟩ := zf z m
    rw [e, rowT_spec (tr_spec g t hi).1]
  refine hp zs zl ⟨zs.map fun z => (rowT s z.2).key, ⟨?_, fun k => ?_, ?_⟩, ?_⟩
  · have nz : (zs.map (·.2)).Nodup := p2.nodup_iff.mpr nd
    rw [List.nodup_iff_pairwise_ne, List.pairwise_map] at nz ⊢
    refine nz.imp_of_mem fun {a b} ma mb ne e => ne ?_
    rw [← rk a ma, ← rk b mb]
    exact row_key e
  · constructor
    · intro m
      obtain ⟨z, mz, rfl⟩ := List.mem_map.mp m
      obtain ⟨_, i, hi, e⟩ := zf z mz
      exact ⟨i, hi, by rw [e, rowT_spec (tr_spec g t hi).1]⟩
    · rintro ⟨i, hi, rfl⟩
      have m2 := p2.mem_iff.mpr ((memY _).mpr ⟨i, hi, rfl⟩)
      obtain ⟨z, mz, ez⟩ := List.mem_map.mp m2
      refine List.mem_map.mpr ⟨z, mz, ?_⟩
      have ez : z.2 = (tr s row i).row := ez
      rw [ez, rowT_spec (tr_spec g t hi).1]
  · rw [List.pairwise_map]
    refine pw.imp_of_mem fun {a b} ma mb h => ?_
    cases q : kLt (rowT s b.2).key (rowT s a.2).key with
    | false => rfl
    | true =>
      have h : (if b.1 = a.1 then (if b.2 = a.2 then false else (oT oInt).lt b.2 a.2) else (oT oInt).lt b.1 a.1) = false := h
      rw [(zf a ma).1, (zf b mb).1, if_neg (flat_ne q), lex_flat, q] at h
      cases h
  · rw [List.map_map]
    refine List.map_congr_left fun z m => ?_
    show z.2 = unk (rowT s z.2).key
    rw [show unk (rowT s z.2).key = (rowT s z.2).row from Tre.key_row _, rk z m]
theorem law_gen (ns : List Int) (h1 : ns.length ≤ 63) (h2 : ∀ z ∈ ns, Builtin.Int.intBits z ≤ 1048576) (P : Bool → Prop) (hP : P true) : W_law ns P := by
  unfold W_law
  generalize hM : (if (if (3 : Int) < (ns.length : Int) then (3 : Int) else (ns.length : Int)) > (1 : Int) then (if (3 : Int) < (ns.length : Int) then (3 : Int) else (ns.length : Int)) else (1 : Int)) = M
  have M0 : 1 ≤ M ∧ M ≤ 3 := by
    rw [← hM]
    split <;> split <;> omega
  refine ⟨rg (by omega) (by omega), ?_⟩
  refine forW_inv (I := fun _ (_ : Unit) => True) (j := 0) trivial ?_ (fun _ _ => hP)
  rintro i x _ nx hi _ hn
  obtain ⟨rfl, hi2⟩ := rangeL_at hi
  have done := hn () trivial
  refine box_plain h2 h1 (by omega) (by omega) fun u v b1 b2 b3 => ⟨⟨u, v, rfl, b1, b2, b3⟩, fun _ => ?_⟩
  refine signs_plain fun s g => ?_
  have pick : ∀ Q : Int → Prop, (∀ n : Int, 1 ≤ n → n ≤ 40 → Q n) → W__law_take (4 : Int) fun r87 => ∃ y12, atI ([(1 : Int), (3 : Int), (12 : Int), (40 : Int)] : List Int) r87 = some y12 ∧ Q y12 := fun Q hq => by
    refine tk (by decide) (by decide) fun d d0 d1 => ?_
    have : d = 0 ∨ d = 1 ∨ d = 2 ∨ d = 3 := by omega
    rcases this with rfl | rfl | rfl | rfl
    · exact ⟨1, rfl, hq 1 (by decide) (by decide)⟩
    · exact ⟨3, rfl, hq 3 (by decide) (by decide)⟩
    · exact ⟨12, rfl, hq 12 (by decide) (by decide)⟩
    · exact ⟨40, rfl, hq 40 (by decide) (by decide)⟩
  refine pick _ fun n n0 n1 => row_plain g n0 n1 fun row t => ?_
  have rl := t.len
  have r0 := row_ne t
  refine book_plain g ?_
  refine lines_plain g t fun G al => ?_
  have e0 : seg row 0 (stp s row 0) = row := by unfold seg; rw [stp_zero g t r0, List.take_length, List.drop_zero]
  have kp := law_kids_plain (P := fun r => r = kidSegs s row 0) g t r0 rfl
  have kids : ∀ Q : List (List Int) → Prop, Q (kidSegs s row 0) → W__law_kids s row Q := fun Q hq => by
    have := law_kids_plain (P := Q) g t r0 hq
    rwa [e0] at this
  refine kids _ ?_
  have ll : ((allN s row).map (lin3 s row)).length ≤ sizeLine := by rw [List.length_map]; exact len_line (by omega)
  refine ⟨ll, ?_⟩
  refine (lcW_map (g := fun x : List Int × List Int => x.2)).mpr ?_
  rw [List.nil_append]
  refine due_plain g t G al fun zs zl ⟨ks, K, ez⟩ => ?_
  refine ⟨len_line (by omega), ?_⟩
  refine (lcW_map (g := fun x : List Int × List Int => x.2)).mpr ?_
  rw [List.nil_append, ez]
  refine ⟨ll, ?_⟩
  refine (lcW_map (g := fun x : List Int × List Int => x.1)).mpr ?_
  have e1 : ((allN s row).map (lin3 s row)).map (fun x : List Int × List Int => x.1) = (allN s row).map (·.1) := by rw [List.map_map]; rfl
  rw [List.nil_append, e1]
  have hd := all_head g t
  refine ⟨.inr ⟨?_, fun z m => ?_⟩, fun ps pm pw => ?_⟩
  · obtain ⟨r, er⟩ := hd
    rw [er]
    exact ⟨_, rfl⟩
  · obtain ⟨x, _, rfl⟩ := List.mem_map.mp m
    exact ⟨_, rfl⟩
  have pl : ps.length ≤ 40 := by rw [pm.length_eq, List.length_map]; exact al
  refine height_plain g t ?_
  show if false = true then _ else _
  rw [if_neg (by decide)]
  refine ⟨len_line (by omega), ?_⟩
  refine (lcW_map (g := fun x : List Int => (x.length : Int))).mpr ?_
  rw [List.nil_append]
  have deep := all_deep g t G
  have top := all_ht g t
  have mem1 : ∀ p, p ∈ ps ↔ ∃ x ∈ allN s row, x.1 = p := fun p => by rw [pm.mem_iff, List.mem_map]
  refine ⟨?_, fun m mm mx => ?_⟩
  · obtain ⟨x, mx, _⟩ := deep
    rw [List.length_map]
    exact List.length_pos_iff.mpr fun z => by
      have := (mem1 x.1).mpr ⟨x, mx, rfl⟩
      rw [z] at this; cases this
  have em : ((tr s row 0).ht : Int) = 1 + m := by
    obtain ⟨p, mp, rfl⟩ := List.mem_map.mp mm
    obtain ⟨x, hx, rfl⟩ := (mem1 p).mp mp
    obtain ⟨y, hy, ey⟩ := deep
    have h3 := mx _ (List.mem_map.mpr ⟨y.1, (mem1 _).mpr ⟨y, hy, rfl⟩, rfl⟩)
    have h4 := top x hx
    have h5 := ht_pos (tr s row x.2)
    omega
  rw [em]
  show if (!decide (1 + m = 1 + m)) = true then P false else _
  rw [if_neg (by simp)]
  refine ⟨rg (by decide) (by decide), ?_⟩
  refine forW_inv (I := fun _ (_ : Unit) => True) (j := 0) trivial ?_ (fun _ _ => done)
  rintro i3 x3 _ nx3 hi3 _ hn3
  refine kids_of_plain g t (parts_plain g t fun ks2 K2 => ?_)
  have ek := K2.uniq K
  subst ek
  refine places_of_plain g t al hd fun ps2 pm2 pw2 => ?_
  have ep : ps2 = ps := (sto_lex sto_int).uniq (pm2.trans pm.symm) pw2 pw
  subst ep
  refine ⟨⟨fun _ _ _ _ _ _ => trivial, fun _ _ _ _ _ _ => trivial⟩, ?_⟩
  show if (!decide (_ = _)) = true then P false else _
  rw [if_neg (by simp)]
  have kl : (kidSegs s row 0).length ≤ 40 := by
    have := kn_eq g t r0
    have kb := kd_nn g t r0
    unfold kidSegs
    rw [List.length_map, List.length_range]; omega
  have kl2 : (ks2.map unk).length ≤ 40 := by rw [← ez, List.length_map]; exact zl
  refine ⟨⟨fun xs m => ?_, by show 1000 + 3 < sizeLine; decide⟩, hn3 () trivial⟩
  have m : xs = kidSegs s row 0 ∨ xs = ks2.map unk ∨ xs = ps2 := by simpa using m
  rcases m with rfl | rfl | rfl <;> omega
theorem law_plain (ns : List Int) (h1 : ns.length ≤ 63) (h2 : ∀ z ∈ ns, Builtin.Int.intBits z ≤ 1048576) : W_law ns (fun b => b = true) := law_gen ns h1 h2 _ rfl
end TM
set_option Elab.async false
set_option linter.all false
set_option maxRecDepth 100000
set_option maxHeartbeats 1000000
namespace TM
open PySem PySem.Spec PyProof.Rows L2
theorem all_mk {l : PySem.W.OpenLaw} {w : World} {K : PySem.W.Frag} {h : Heap} {mg : Str → Option Value} {fa C_Book f0 f1 f2 f3 f4 f5 f6 f7 f8 f9 f10 f11 f12 f13 f14 f15 f16 f17 f18 f19 f20 f21 f22 f23 f24 : Addr} (X : K.In h) (G : h.Ns mainGlobals mg) (hfa : mg "law" = some (.ref fa))
    {oc0 kV0 dc0 pm0 cd0 ct0 oc1 kV1 dc1 pm1 cd1 ct1 oc2 kV2 dc2 pm2 cd2 ct2 oc3 kV3 dc3 pm3 cd3 ct3 oc4 kV4 dc4 pm4 cd4 ct4 oc5 kV5 dc5 pm5 cd5 ct5 oc6 kV6 dc6 pm6 cd6 ct6 oc7 kV7 dc7 pm7 cd7 ct7 oc8 kV8 dc8 pm8 cd8 ct8 oc9 kV9 dc9 pm9 cd9 ct9 oc10 kV10 dc10 pm10 cd10 ct10 oc11 kV11 dc11 pm11 cd11 ct11 oc12 kV12 dc12 pm12 cd12 ct12 oc13 kV13 dc13 pm13 cd13 ct13 oc14 kV14 dc14 pm14 cd14 ct14 oc15 kV15 dc15 pm15 cd15 ct15 oc16 kV16 dc16 pm16 cd16 ct16 oc17 kV17 dc17 pm17 cd17 ct17 oc18 kV18 dc18 pm18 cd18 ct18 oc19 kV19 dc19 pm19 cd19 ct19 oc20 kV20 dc20 pm20 cd20 ct20 oc21 kV21 dc21 pm21 cd21 ct21 oc22 kV22 dc22 pm22 cd22 ct22 oc23 kV23 dc23 pm23 cd23 ct23 oc24 kV24 dc24 pm24 cd24 ct24 : Value}
    {od0 an0 od1 an1 od2 an2 od3 an3 od4 an4 od5 an5 od6 an6 od7 an7 od8 an8 od9 an9 od10 an10 od11 an11 od12 an12 od13 an13 od14 an14 od15 an15 od16 an16 od17 an17 od18 an18 od19 an19 od20 an20 od21 an21 od22 an22 od23 an23 od24 an24 : Option Addr}
    {sl0 sl1 sl2 sl3 sl4 sl5 sl6 sl7 sl8 sl9 sl10 sl11 sl12 sl13 sl14 sl15 sl16 sl17 sl18 sl19 sl20 sl21 sl22 sl23 sl24 : Array (Option Value)}
    {t_LETTERS t_MOST_IN t_MOST_SIGNS : Tok}
    (aC_Book : PySem.W.nsIn K mainGlobals "Book" = some (some (.ref C_Book)))
    (a0 : PySem.W.nsIn K mainGlobals "is_name" = some (some (.ref f0)))
    (l0 : K.lookup f0 = some ⟨oc0, od0, .func (PySem.W.fnOf "is_name" "is_name" (defArgs s_is_name) (defBody s_is_name) (defScope s_is_name) .none kV0 dc0 pm0 an0 cd0 ct0), sl0⟩)
    (c0 : PySem.W.codeIn K cd0 "is_name" = true)
    (k0 : PySem.W.keepIn K (.ref f0) = true)
    (a1 : PySem.W.nsIn K mainGlobals "check_book" = some (some (.ref f1)))
    (l1 : K.lookup f1 = some ⟨oc1, od1, .func (PySem.W.fnOf "check_book" "check_book" (defArgs s_check_book) (defBody s_check_book) (defScope s_check_book) .none kV1 dc1 pm1 an1 cd1 ct1), sl1⟩)
    (c1 : PySem.W.codeIn K cd1 "check_book" = true)
    (k1 : PySem.W.keepIn K (.ref f1) = true)
    (a2 : PySem.W.findIn K (.ref C_Book) "__init__" = some (some (.ref f2)))
    (i2 : PySem.W.isFn K (.ref f2) = true)
    (l2 : K.lookup f2 = some ⟨oc2, od2, .func (PySem.W.fnOf "__init__" "Book.__init__" (defArgs s_Book___init__) (defBody s_Book___init__) (defScope s_Book___init__) .none kV2 dc2 pm2 an2 cd2 ct2), sl2⟩)
    (c2 : PySem.W.codeIn K cd2 "Book.__init__" = true)
    (k2 : PySem.W.keepIn K (.ref f2) = true)
    (a3 : PySem.W.findIn K (.ref C_Book) "many" = some (some (.ref f3)))
    (i3 : PySem.W.isFn K (.ref f3) = true)
    (l3 : K.lookup f3 = some ⟨oc3, od3, .func (PySem.W.fnOf "many" "Book.many" (defArgs s_Book_many) (defBody s_Book_many) (defScope s_Book_many) .none kV3 dc3 pm3 an3 cd3 ct3), sl3⟩)
    (c3 : PySem.W.codeIn K cd3 "Book.many" = true)
    (k3 : PySem.W.keepIn K (.ref f3) = true)
    (a4 : PySem.W.findIn K (.ref C_Book) "kids" = some (some (.ref f4)))
    (i4 : PySem.W.isFn K (.ref f4) = true)
    (l4 : K.lookup f4 = some ⟨oc4, od4, .func (PySem.W.fnOf "kids" "Book.kids" (defArgs s_Book_kids) (defBody s_Book_kids) (defScope s_Book_kids) .none kV4 dc4 pm4 an4 cd4 ct4), sl4⟩)
    (c4 : PySem.W.codeIn K cd4 "Book.kids" = true)
    (k4 : PySem.W.keepIn K (.ref f4) = true)
    (a5 : PySem.W.nsIn K mainGlobals "end_of" = some (some (.ref f5)))
    (l5 : K.lookup f5 = some ⟨oc5, od5, .func (PySem.W.fnOf "end_of" "end_of" (defArgs s_end_of) (defBody s_end_of) (defScope s_end_of) .none kV5 dc5 pm5 an5 cd5 ct5), sl5⟩)
    (c5 : PySem.W.codeIn K cd5 "end_of" = true)
    (k5 : PySem.W.keepIn K (.ref f5) = true)
    (a6 : PySem.W.nsIn K mainGlobals "is_tree" = some (some (.ref f6)))
    (l6 : K.lookup f6 = some ⟨oc6, od6, .func (PySem.W.fnOf "is_tree" "is_tree" (defArgs s_is_tree) (defBody s_is_tree) (defScope s_is_tree) .none kV6 dc6 pm6 an6 cd6 ct6), sl6⟩)
    (c6 : PySem.W.codeIn K cd6 "is_tree" = true)
    (k6 : PySem.W.keepIn K (.ref f6) = true)
    (a7 : PySem.W.nsIn K mainGlobals "check_tree" = some (some (.ref f7)))
    (l7 : K.lookup f7 = some ⟨oc7, od7, .func (PySem.W.fnOf "check_tree" "check_tree" (defArgs s_check_tree) (defBody s_check_tree) (defScope s_check_tree) .none kV7 dc7 pm7 an7 cd7 ct7), sl7⟩)
    (c7 : PySem.W.codeIn K cd7 "check_tree" = true)
    (k7 : PySem.W.keepIn K (.ref f7) = true)
    (a8 : PySem.W.nsIn K mainGlobals "kids_in" = some (some (.ref f8)))
    (l8 : K.lookup f8 = some ⟨oc8, od8, .func (PySem.W.fnOf "kids_in" "kids_in" (defArgs s_kids_in) (defBody s_kids_in) (defScope s_kids_in) .none kV8 dc8 pm8 an8 cd8 ct8), sl8⟩)
    (c8 : PySem.W.codeIn K cd8 "kids_in" = true)
    (k8 : PySem.W.keepIn K (.ref f8) = true)
    (a9 : PySem.W.nsIn K mainGlobals "kids_of" = some (some (.ref f9)))
    (l9 : K.lookup f9 = some ⟨oc9, od9, .func (PySem.W.fnOf "kids_of" "kids_of" (defArgs s_kids_of) (defBody s_kids_of) (defScope s_kids_of) .none kV9 dc9 pm9 an9 cd9 ct9), sl9⟩)
    (c9 : PySem.W.codeIn K cd9 "kids_of" = true)
    (k9 : PySem.W.keepIn K (.ref f9) = true)
    (a10 : PySem.W.nsIn K mainGlobals "height" = some (some (.ref f10)))
    (l10 : K.lookup f10 = some ⟨oc10, od10, .func (PySem.W.fnOf "height" "height" (defArgs s_height) (defBody s_height) (defScope s_height) .none kV10 dc10 pm10 an10 cd10 ct10), sl10⟩)
    (c10 : PySem.W.codeIn K cd10 "height" = true)
    (k10 : PySem.W.keepIn K (.ref f10) = true)
    (a11 : PySem.W.nsIn K mainGlobals "rows_in" = some (some (.ref f11)))
    (l11 : K.lookup f11 = some ⟨oc11, od11, .func (PySem.W.fnOf "rows_in" "rows_in" (defArgs s_rows_in) (defBody s_rows_in) (defScope s_rows_in) .none kV11 dc11 pm11 an11 cd11 ct11), sl11⟩)
    (c11 : PySem.W.codeIn K cd11 "rows_in" = true)
    (k11 : PySem.W.keepIn K (.ref f11) = true)
    (a12 : PySem.W.nsIn K mainGlobals "key_of" = some (some (.ref f12)))
    (l12 : K.lookup f12 = some ⟨oc12, od12, .func (PySem.W.fnOf "key_of" "key_of" (defArgs s_key_of) (defBody s_key_of) (defScope s_key_of) .none kV12 dc12 pm12 an12 cd12 ct12), sl12⟩)
    (c12 : PySem.W.codeIn K cd12 "key_of" = true)
    (k12 : PySem.W.keepIn K (.ref f12) = true)
    (a13 : PySem.W.nsIn K mainGlobals "parts" = some (some (.ref f13)))
    (l13 : K.lookup f13 = some ⟨oc13, od13, .func (PySem.W.fnOf "parts" "parts" (defArgs s_parts) (defBody s_parts) (defScope s_parts) .none kV13 dc13 pm13 an13 cd13 ct13), sl13⟩)
    (c13 : PySem.W.codeIn K cd13 "parts" = true)
    (k13 : PySem.W.keepIn K (.ref f13) = true)
    (a14 : PySem.W.nsIn K mainGlobals "places_in" = some (some (.ref f14)))
    (l14 : K.lookup f14 = some ⟨oc14, od14, .func (PySem.W.fnOf "places_in" "places_in" (defArgs s_places_in) (defBody s_places_in) (defScope s_places_in) .none kV14 dc14 pm14 an14 cd14 ct14), sl14⟩)
    (c14 : PySem.W.codeIn K cd14 "places_in" = true)
    (k14 : PySem.W.keepIn K (.ref f14) = true)
    (a15 : PySem.W.nsIn K mainGlobals "places" = some (some (.ref f15)))
    (l15 : K.lookup f15 = some ⟨oc15, od15, .func (PySem.W.fnOf "places" "places" (defArgs s_places) (defBody s_places) (defScope s_places) .none kV15 dc15 pm15 an15 cd15 ct15), sl15⟩)
    (c15 : PySem.W.codeIn K cd15 "places" = true)
    (k15 : PySem.W.keepIn K (.ref f15) = true)
    (a16 : PySem.W.nsIn K mainGlobals "_law_box" = some (some (.ref f16)))
    (l16 : K.lookup f16 = some ⟨oc16, od16, .func (PySem.W.fnOf "_law_box" "_law_box" (defArgs s__law_box) (defBody s__law_box) (defScope s__law_box) .none kV16 dc16 pm16 an16 cd16 ct16), sl16⟩)
    (c16 : PySem.W.codeIn K cd16 "_law_box" = true)
    (k16 : PySem.W.keepIn K (.ref f16) = true)
    (a17 : PySem.W.nsIn K mainGlobals "_law_more" = some (some (.ref f17)))
    (l17 : K.lookup f17 = some ⟨oc17, od17, .func (PySem.W.fnOf "_law_more" "_law_more" (defArgs s__law_more) (defBody s__law_more) (defScope s__law_more) .none kV17 dc17 pm17 an17 cd17 ct17), sl17⟩)
    (c17 : PySem.W.codeIn K cd17 "_law_more" = true)
    (k17 : PySem.W.keepIn K (.ref f17) = true)
    (a18 : PySem.W.nsIn K mainGlobals "_law_take" = some (some (.ref f18)))
    (l18 : K.lookup f18 = some ⟨oc18, od18, .func (PySem.W.fnOf "_law_take" "_law_take" (defArgs s__law_take) (defBody s__law_take) (defScope s__law_take) .none kV18 dc18 pm18 an18 cd18 ct18), sl18⟩)
    (c18 : PySem.W.codeIn K cd18 "_law_take" = true)
    (k18 : PySem.W.keepIn K (.ref f18) = true)
    (a19 : PySem.W.nsIn K mainGlobals "_law_signs" = some (some (.ref f19)))
    (l19 : K.lookup f19 = some ⟨oc19, od19, .func (PySem.W.fnOf "_law_signs" "_law_signs" (defArgs s__law_signs) (defBody s__law_signs) (defScope s__law_signs) .none kV19 dc19 pm19 an19 cd19 ct19), sl19⟩)
    (c19 : PySem.W.codeIn K cd19 "_law_signs" = true)
    (k19 : PySem.W.keepIn K (.ref f19) = true)
    (a20 : PySem.W.nsIn K mainGlobals "_law_row" = some (some (.ref f20)))
    (l20 : K.lookup f20 = some ⟨oc20, od20, .func (PySem.W.fnOf "_law_row" "_law_row" (defArgs s__law_row) (defBody s__law_row) (defScope s__law_row) .none kV20 dc20 pm20 an20 cd20 ct20), sl20⟩)
    (c20 : PySem.W.codeIn K cd20 "_law_row" = true)
    (k20 : PySem.W.keepIn K (.ref f20) = true)
    (a21 : PySem.W.nsIn K mainGlobals "_law_kids" = some (some (.ref f21)))
    (l21 : K.lookup f21 = some ⟨oc21, od21, .func (PySem.W.fnOf "_law_kids" "_law_kids" (defArgs s__law_kids) (defBody s__law_kids) (defScope s__law_kids) .none kV21 dc21 pm21 an21 cd21 ct21), sl21⟩)
    (c21 : PySem.W.codeIn K cd21 "_law_kids" = true)
    (k21 : PySem.W.keepIn K (.ref f21) = true)
    (a22 : PySem.W.nsIn K mainGlobals "_law_key" = some (some (.ref f22)))
    (l22 : K.lookup f22 = some ⟨oc22, od22, .func (PySem.W.fnOf "_law_key" "_law_key" (defArgs s__law_key) (defBody s__law_key) (defScope s__law_key) .none kV22 dc22 pm22 an22 cd22 ct22), sl22⟩)
    (c22 : PySem.W.codeIn K cd22 "_law_key" = true)
    (k22 : PySem.W.keepIn K (.ref f22) = true)
    (a23 : PySem.W.nsIn K mainGlobals "_law_lines" = some (some (.ref f23)))
    (l23 : K.lookup f23 = some ⟨oc23, od23, .func (PySem.W.fnOf "_law_lines" "_law_lines" (defArgs s__law_lines) (defBody s__law_lines) (defScope s__law_lines) .none kV23 dc23 pm23 an23 cd23 ct23), sl23⟩)
    (c23 : PySem.W.codeIn K cd23 "_law_lines" = true)
    (k23 : PySem.W.keepIn K (.ref f23) = true)
    (a24 : PySem.W.nsIn K mainGlobals "law" = some (some (.ref f24)))
    (l24 : K.lookup f24 = some ⟨oc24, od24, .func (PySem.W.fnOf "law" "law" (defArgs s_law) (defBody s_law) (defScope s_law) .none kV24 dc24 pm24 an24 cd24 ct24), sl24⟩)
    (c24 : PySem.W.codeIn K cd24 "law" = true)
    (k24 : PySem.W.keepIn K (.ref f24) = true)
    (pg_Book : PySem.W.plainGet K C_Book Str.empty = true)
    (hd_Book : PySem.W.hasDictIn K C_Book = true)
    (po_Book : PySem.W.plainOver K C_Book = true)
    (sa_Book : PySem.W.findIn K (.ref C_Book) "__setattr__" = some (some (.builtin "object.__setattr__")))
    (mk_Book : PySem.W.makesIn K C_Book = true)
    (kc_Book : PySem.W.keepIn K (.ref C_Book) = true)
    (n_Book_kids_told : PySem.W.findIn K (.ref C_Book) "kids_told" = some none)
    (n_Book_names_told : PySem.W.findIn K (.ref C_Book) "names_told" = some none)
    (z_abs : PySem.W.nsIn K mainGlobals "abs" = some none)
    (z_all : PySem.W.nsIn K mainGlobals "all" = some none)
    (z_bool : PySem.W.nsIn K mainGlobals "bool" = some none)
    (z_divmod : PySem.W.nsIn K mainGlobals "divmod" = some none)
    (z_enumerate : PySem.W.nsIn K mainGlobals "enumerate" = some none)
    (z_int : PySem.W.nsIn K mainGlobals "int" = some none)
    (z_isinstance : PySem.W.nsIn K mainGlobals "isinstance" = some none)
    (z_len : PySem.W.nsIn K mainGlobals "len" = some none)
    (z_list : PySem.W.nsIn K mainGlobals "list" = some none)
    (z_max : PySem.W.nsIn K mainGlobals "max" = some none)
    (z_min : PySem.W.nsIn K mainGlobals "min" = some none)
    (z_range : PySem.W.nsIn K mainGlobals "range" = some none)
    (z_reversed : PySem.W.nsIn K mainGlobals "reversed" = some none)
    (z_set : PySem.W.nsIn K mainGlobals "set" = some none)
    (z_sorted : PySem.W.nsIn K mainGlobals "sorted" = some none)
    (z_tuple : PySem.W.nsIn K mainGlobals "tuple" = some none)
    (z_zip : PySem.W.nsIn K mainGlobals "zip" = some none)
    (y_LETTERS : PySem.W.nsIn K mainGlobals "LETTERS" = some (some (.str "abcdefghijklmnopqrstuvwxyz" t_LETTERS)))
    (y_MOST_IN : PySem.W.nsIn K mainGlobals "MOST_IN" = some (some (.int (40) t_MOST_IN)))
    (y_MOST_SIGNS : PySem.W.nsIn K mainGlobals "MOST_SIGNS" = some (some (.int (6) t_MOST_SIGNS)))
    : ∃ fd : FuncData, (∀ (s : Shared) (v : Value), BindsTo s fd ⟨[v], []⟩ [("_law_script", v)]) ∧ ∀ base : Heap, K.In base → base.Ns mainGlobals mg → FnOk l.prog w K mg base CX0 6 fa fd ["_law_script"] (sp_law K) := by
  have e := hfa.symm.trans (PySem.W.mg_of X G a24)
  cases e
  have T : Txt K mg C_Book := { cl_Book := ⟨pg_Book, hd_Book, po_Book, sa_Book⟩, na_Book_kids_told := n_Book_kids_told, na_Book_names_told := n_Book_names_told, b_abs := PySem.W.mg_none_of X G z_abs, b_all := PySem.W.mg_none_of X G z_all, b_bool := PySem.W.mg_none_of X G z_bool, b_divmod := PySem.W.mg_none_of X G z_divmod, b_enumerate := PySem.W.mg_none_of X G z_enumerate, b_int := PySem.W.mg_none_of X G z_int, b_isinstance := PySem.W.mg_none_of X G z_isinstance, b_len := PySem.W.mg_none_of X G z_len, b_list := PySem.W.mg_none_of X G z_list, b_max := PySem.W.mg_none_of X G z_max, b_min := PySem.W.mg_none_of X G z_min, b_range := PySem.W.mg_none_of X G z_range, b_reversed := PySem.W.mg_none_of X G z_reversed, b_set := PySem.W.mg_none_of X G z_set, b_sorted := PySem.W.mg_none_of X G z_sorted, b_tuple := PySem.W.mg_none_of X G z_tuple, b_zip := PySem.W.mg_none_of X G z_zip, g_LETTERS := ⟨_, PySem.W.mg_of X G y_LETTERS⟩, g_MOST_IN := ⟨_, PySem.W.mg_of X G y_MOST_IN⟩, g_MOST_SIGNS := ⟨_, PySem.W.mg_of X G y_MOST_SIGNS⟩ }
  have F0 := fun_mk (st := s_is_name) l0 c0 k0
  have b0 := F0.binds (ps := ["text", "most"]) fun _ _ _ _ _ _ us hl => match us, hl with | [_, _], _ => rfl
  have F1 := fun_mk (st := s_check_book) l1 c1 k1
  have b1 := F1.binds (ps := ["signs"]) fun _ _ _ _ _ _ us hl => match us, hl with | [_], _ => rfl
  have F2 := fun_mk (st := s_Book___init__) l2 c2 k2
  have b2 := F2.binds (ps := ["self", "signs"]) fun _ _ _ _ _ _ us hl => match us, hl with | [_, _], _ => rfl
  have F3 := fun_mk (st := s_Book_many) l3 c3 k3
  have b3 := F3.binds (ps := ["self"]) fun _ _ _ _ _ _ us hl => match us, hl with | [_], _ => rfl
  have F4 := fun_mk (st := s_Book_kids) l4 c4 k4
  have b4 := F4.binds (ps := ["self", "sign"]) fun _ _ _ _ _ _ us hl => match us, hl with | [_, _], _ => rfl
  have F5 := fun_mk (st := s_end_of) l5 c5 k5
  have b5 := F5.binds (ps := ["book", "row", "start"]) fun _ _ _ _ _ _ us hl => match us, hl with | [_, _, _], _ => rfl
  have F6 := fun_mk (st := s_is_tree) l6 c6 k6
  have b6 := F6.binds (ps := ["book", "tree"]) fun _ _ _ _ _ _ us hl => match us, hl with | [_, _], _ => rfl
  have F7 := fun_mk (st := s_check_tree) l7 c7 k7
  have b7 := F7.binds (ps := ["book", "tree"]) fun _ _ _ _ _ _ us hl => match us, hl with | [_, _], _ => rfl
  have F8 := fun_mk (st := s_kids_in) l8 c8 k8
  have b8 := F8.binds (ps := ["book", "row"]) fun _ _ _ _ _ _ us hl => match us, hl with | [_, _], _ => rfl
  have F9 := fun_mk (st := s_kids_of) l9 c9 k9
  have b9 := F9.binds (ps := ["book", "tree"]) fun _ _ _ _ _ _ us hl => match us, hl with | [_, _], _ => rfl
  have F10 := fun_mk (st := s_height) l10 c10 k10
  have b10 := F10.binds (ps := ["book", "tree"]) fun _ _ _ _ _ _ us hl => match us, hl with | [_, _], _ => rfl
  have F11 := fun_mk (st := s_rows_in) l11 c11 k11
  have b11 := F11.binds (ps := ["book", "row"]) fun _ _ _ _ _ _ us hl => match us, hl with | [_, _], _ => rfl
  have F12 := fun_mk (st := s_key_of) l12 c12 k12
  have b12 := F12.binds (ps := ["book", "row"]) fun _ _ _ _ _ _ us hl => match us, hl with | [_, _], _ => rfl
  have F13 := fun_mk (st := s_parts) l13 c13 k13
  have b13 := F13.binds (ps := ["book", "tree"]) fun _ _ _ _ _ _ us hl => match us, hl with | [_, _], _ => rfl
  have F14 := fun_mk (st := s_places_in) l14 c14 k14
  have b14 := F14.binds (ps := ["book", "row"]) fun _ _ _ _ _ _ us hl => match us, hl with | [_, _], _ => rfl
  have F15 := fun_mk (st := s_places) l15 c15 k15
  have b15 := F15.binds (ps := ["book", "tree"]) fun _ _ _ _ _ _ us hl => match us, hl with | [_, _], _ => rfl
  have F16 := fun_mk (st := s__law_box) l16 c16 k16
  have b16 := F16.binds (ps := ["_law_script", "_law_k"]) fun _ _ _ _ _ _ us hl => match us, hl with | [_, _], _ => rfl
  have F17 := fun_mk (st := s__law_more) l17 c17 k17
  have b17 := F17.binds (ps := ["_law_box_here"]) fun _ _ _ _ _ _ us hl => match us, hl with | [_], _ => rfl
  have F18 := fun_mk (st := s__law_take) l18 c18 k18
  have b18 := F18.binds (ps := ["_law_box_here", "_law_count"]) fun _ _ _ _ _ _ us hl => match us, hl with | [_, _], _ => rfl
  have F19 := fun_mk (st := s__law_signs) l19 c19 k19
  have b19 := F19.binds (ps := ["_law_box_here"]) fun _ _ _ _ _ _ us hl => match us, hl with | [_], _ => rfl
  have F20 := fun_mk (st := s__law_row) l20 c20 k20
  have b20 := F20.binds (ps := ["_law_box_here", "_law_signs_here", "_law_most"]) fun _ _ _ _ _ _ us hl => match us, hl with | [_, _, _], _ => rfl
  have F21 := fun_mk (st := s__law_kids) l21 c21 k21
  have b21 := F21.binds (ps := ["_law_signs_here", "_law_row_here"]) fun _ _ _ _ _ _ us hl => match us, hl with | [_, _], _ => rfl
  have F22 := fun_mk (st := s__law_key) l22 c22 k22
  have b22 := F22.binds (ps := ["_law_signs_here", "_law_row_here"]) fun _ _ _ _ _ _ us hl => match us, hl with | [_, _], _ => rfl
  have F23 := fun_mk (st := s__law_lines) l23 c23 k23
  have b23 := F23.binds (ps := ["_law_signs_here", "_law_row_here"]) fun _ _ _ _ _ _ us hl => match us, hl with | [_, _], _ => rfl
  have F24 := fun_mk (st := s_law) l24 c24 k24
  refine ⟨PySem.W.fnOf "law" "law" (defArgs s_law) (defBody s_law) (defScope s_law) .none kV24 dc24 pm24 an24 cd24 ct24, fun s v => .of_eq rfl, fun base _ _ => ?_⟩
  have G_is_name : Glob l.prog w K mg base "is_name" 1 ps_is_name (sp_is_name ) := ⟨f0, _, PySem.W.mg_of X G a0, k0, b0, (ok_is_name F0 T )⟩
  have G_check_book : Glob l.prog w K mg base "check_book" 2 ps_check_book (sp_check_book ) := ⟨f1, _, PySem.W.mg_of X G a1, k1, b1, (ok_check_book F1 T G_is_name)⟩
  have G_Book___init__ : MakeJ l.prog w K mg base "Book" C_Book 3 ps_Book___init__ (sp_Book___init__ C_Book) := ⟨PySem.W.mg_of X G aC_Book, f2, _, ⟨mk_Book, a2, i2, kc_Book⟩, b2, (ok_Book___init__ F2 T G_check_book)⟩
  have G_Book_many : MethG l.prog w K mg base C_Book "many" 1 ps_Book_many (sp_Book_many C_Book) := ⟨f3, _, ⟨a3, i3, k3⟩, b3, (ok_Book_many F3 T )⟩
  have G_Book_kids : MethG l.prog w K mg base C_Book "kids" 1 ps_Book_kids (sp_Book_kids C_Book) := ⟨f4, _, ⟨a4, i4, k4⟩, b4, (ok_Book_kids F4 T )⟩
  have G_end_of : Glob l.prog w K mg base "end_of" 2 ps_end_of (sp_end_of C_Book) := ⟨f5, _, PySem.W.mg_of X G a5, k5, b5, (ok_end_of F5 T G_Book_kids G_Book_many)⟩
  have G_is_tree : Glob l.prog w K mg base "is_tree" 3 ps_is_tree (sp_is_tree C_Book) := ⟨f6, _, PySem.W.mg_of X G a6, k6, b6, (ok_is_tree F6 T G_end_of)⟩
  have G_check_tree : Glob l.prog w K mg base "check_tree" 4 ps_check_tree (sp_check_tree C_Book) := ⟨f7, _, PySem.W.mg_of X G a7, k7, b7, (ok_check_tree F7 T G_is_tree)⟩
  have G_kids_in : Glob l.prog w K mg base "kids_in" 3 ps_kids_in (sp_kids_in C_Book) := ⟨f8, _, PySem.W.mg_of X G a8, k8, b8, (ok_kids_in F8 T G_Book_kids G_end_of)⟩
  have G_kids_of : Glob l.prog w K mg base "kids_of" 5 ps_kids_of (sp_kids_of C_Book) := ⟨f9, _, PySem.W.mg_of X G a9, k9, b9, (ok_kids_of F9 T G_check_tree G_kids_in)⟩
  have G_height : Glob l.prog w K mg base "height" 5 ps_height (sp_height C_Book) := ⟨f10, _, PySem.W.mg_of X G a10, k10, b10, (ok_height F10 T G_Book_kids G_check_tree)⟩
  have G_rows_in : Glob l.prog w K mg base "rows_in" 3 ps_rows_in (sp_rows_in C_Book) := ⟨f11, _, PySem.W.mg_of X G a11, k11, b11, (ok_rows_in F11 T G_end_of)⟩
  have G_key_of : Glob l.prog w K mg base "key_of" 2 ps_key_of (sp_key_of C_Book) := ⟨f12, _, PySem.W.mg_of X G a12, k12, b12, (ok_key_of F12 T G_Book_kids)⟩
  have G_parts : Glob l.prog w K mg base "parts" 5 ps_parts (sp_parts C_Book) := ⟨f13, _, PySem.W.mg_of X G a13, k13, b13, (ok_parts F13 T G_check_tree G_key_of G_rows_in)⟩
  have G_places_in : Glob l.prog w K mg base "places_in" 3 ps_places_in (sp_places_in C_Book) := ⟨f14, _, PySem.W.mg_of X G a14, k14, b14, (ok_places_in F14 T G_Book_kids G_end_of)⟩
  have G_places : Glob l.prog w K mg base "places" 5 ps_places (sp_places C_Book) := ⟨f15, _, PySem.W.mg_of X G a15, k15, b15, (ok_places F15 T G_check_tree G_places_in)⟩
  have G__law_box : Glob l.prog w K mg base "_law_box" 1 ps__law_box (sp__law_box K) := ⟨f16, _, PySem.W.mg_of X G a16, k16, b16, (ok__law_box F16 T )⟩
  have G__law_more : Glob l.prog w K mg base "_law_more" 1 ["_law_box_here"] spMore := ⟨f17, _, PySem.W.mg_of X G a17, k17, b17, (ok__law_more F17 T )⟩
  have G__law_take : Glob l.prog w K mg base "_law_take" 2 ps__law_take (sp__law_take ) := ⟨f18, _, PySem.W.mg_of X G a18, k18, b18, (ok__law_take F18 T G__law_more)⟩
  have G__law_signs : Glob l.prog w K mg base "_law_signs" 3 ps__law_signs (sp__law_signs ) := ⟨f19, _, PySem.W.mg_of X G a19, k19, b19, (ok__law_signs F19 T G__law_take)⟩
  have G__law_row : Glob l.prog w K mg base "_law_row" 3 ps__law_row (sp__law_row ) := ⟨f20, _, PySem.W.mg_of X G a20, k20, b20, (ok__law_row F20 T G__law_take)⟩
  have G__law_kids : Glob l.prog w K mg base "_law_kids" 1 ps__law_kids (sp__law_kids ) := ⟨f21, _, PySem.W.mg_of X G a21, k21, b21, (ok__law_kids F21 T )⟩
  have G__law_key : Glob l.prog w K mg base "_law_key" 1 ps__law_key (sp__law_key ) := ⟨f22, _, PySem.W.mg_of X G a22, k22, b22, (ok__law_key F22 T )⟩
  have G__law_lines : Glob l.prog w K mg base "_law_lines" 2 ps__law_lines (sp__law_lines ) := ⟨f23, _, PySem.W.mg_of X G a23, k23, b23, (ok__law_lines F23 T G__law_kids)⟩
  exact (ok_law F24 T G_Book___init__ G__law_box G__law_key G__law_kids G__law_lines G__law_row G__law_signs G__law_take G_height G_kids_of G_parts G_places)
theorem walk {l : PySem.W.OpenLaw} {q : Program} {loose : List Str} {XP : (Str → Option Value) → Heap → Prop} {YP : World → Heap → Prop} {d : DefRec} {K : Params → PySem.W.Frag} (hn : l.most = some 63) (hdf : d.params.defaults = [])
    (hY : ∀ (w : World) (h : Heap), YP w h → (K w.params).In h)
    (F : ∀ (w : World) (mg : Str → Option Value) (fa : Addr) (h : Heap), (K w.params).In h → h.Ns mainGlobals mg → mg d.name = some (.ref fa) →
      ∃ fd : FuncData, (∀ (s : Shared) (u : Value), BindsTo s fd ⟨[u], []⟩ [("_law_script", u)]) ∧ ∀ base : Heap, (K w.params).In base → base.Ns mainGlobals mg → FnOk l.prog w (K w.params) mg base CX0 6 fa fd ["_law_script"] (sp_law (K w.params) )) :
    PySem.W.WalkO q loose XP YP l.row.toRowW d [] (fun f vs => PySem.call f vs) :=
  L2.walk_ofB (n := 63) (k := 6) (x := "_law_script") (CX := fun _ => CX0) (sp := fun w => sp_law (K w.params) ) hn (by decide) hdf ⟨rfl, by decide, by decide⟩ hY F (fun w H a ns hn hb hO hS => sp_of (law_plain ns hn hb) hO hS) fun _ _ _ _ _ z => z
end TM
open PySem PySem.W PyProof.Rows in
set_option maxRecDepth 100000 in
set_option maxHeartbeats 0 in
theorem PySem.Challenge.cw_treehands_k03_kids_parts_places_holds : PySem.Challenge.rw_treehands_k03_kids_parts_places.Holds := by
  w_on; o_law; k_head; (case hw => w_witness2)
  k_fill
  refine TM.walk (l := PySem.Challenge.rw_treehands_k03_kids_parts_places) rfl rfl (fun w h Y => by first | exact PySem.W.kIn_of Y | exact PySem.W.km_in_of Y) ?F
  case F =>
    intro w mg fa h KX G hmg
    refine' TM.all_mk KX G hmg ?aC_Book ?a0 ?l0 ?c0 ?k0 ?a1 ?l1 ?c1 ?k1 ?a2 ?i2 ?l2 ?c2 ?k2 ?a3 ?i3 ?l3 ?c3 ?k3 ?a4 ?i4 ?l4 ?c4 ?k4 ?a5 ?l5 ?c5 ?k5 ?a6 ?l6 ?c6 ?k6 ?a7 ?l7 ?c7 ?k7 ?a8 ?l8 ?c8 ?k8 ?a9 ?l9 ?c9 ?k9 ?a10 ?l10 ?c10 ?k10 ?a11 ?l11 ?c11 ?k11 ?a12 ?l12 ?c12 ?k12 ?a13 ?l13 ?c13 ?k13 ?a14 ?l14 ?c14 ?k14 ?a15 ?l15 ?c15 ?k15 ?a16 ?l16 ?c16 ?k16 ?a17 ?l17 ?c17 ?k17 ?a18 ?l18 ?c18 ?k18 ?a19 ?l19 ?c19 ?k19 ?a20 ?l20 ?c20 ?k20 ?a21 ?l21 ?c21 ?k21 ?a22 ?l22 ?c22 ?k22 ?a23 ?l23 ?c23 ?k23 ?a24 ?l24 ?c24 ?k24 ?pg_Book ?hd_Book ?po_Book ?sa_Book ?mk_Book ?kc_Book ?n_Book_kids_told ?n_Book_names_told ?z_abs ?z_all ?z_bool ?z_divmod ?z_enumerate ?z_int ?z_isinstance ?z_len ?z_list ?z_max ?z_min ?z_range ?z_reversed ?z_set ?z_sorted ?z_tuple ?z_zip ?y_LETTERS ?y_MOST_IN ?y_MOST_SIGNS
    (case aC_Book => k_is)
    (case a0 => k_is)
    (case l0 => k_is)
    (case c0 => k_is)
    (case k0 => k_is)
    (case a1 => k_is)
    (case l1 => k_is)
    (case c1 => k_is)
    (case k1 => k_is)
    (case a2 => k_is)
    (case i2 => k_is)
    (case l2 => k_is)
    (case c2 => k_is)
    (case k2 => k_is)
    (case a3 => k_is)
    (case i3 => k_is)
    (case l3 => k_is)
    (case c3 => k_is)
    (case k3 => k_is)
    (case a4 => k_is)
    (case i4 => k_is)
    (case l4 => k_is)
    (case c4 => k_is)
    (case k4 => k_is)
    (case a5 => k_is)
    (case l5 => k_is)
    (case c5 => k_is)
    (case k5 => k_is)
    (case a6 => k_is)
    (case l6 => k_is)
    (case c6 => k_is)
    (case k6 => k_is)
    (case a7 => k_is)
    (case l7 => k_is)
    (case c7 => k_is)
    (case k7 => k_is)
    (case a8 => k_is)
    (case l8 => k_is)
    (case c8 => k_is)
    (case k8 => k_is)
    (case a9 => k_is)
    (case l9 => k_is)
    (case c9 => k_is)
    (case k9 => k_is)
    (case a10 => k_is)
    (case l10 => k_is)
    (case c10 => k_is)
    (case k10 => k_is)
    (case a11 => k_is)
    (case l11 => k_is)
    (case c11 => k_is)
    (case k11 => k_is)
    (case a12 => k_is)
    (case l12 => k_is)
    (case c12 => k_is)
    (case k12 => k_is)
    (case a13 => k_is)
    (case l13 => k_is)
    (case c13 => k_is)
    (case k13 => k_is)
    (case a14 => k_is)
    (case l14 => k_is)
    (case c14 => k_is)
    (case k14 => k_is)
    (case a15 => k_is)
    (case l15 => k_is)
    (case c15 => k_is)
    (case k15 => k_is)
    (case a16 => k_is)
    (case l16 => k_is)
    (case c16 => k_is)
    (case k16 => k_is)
    (case a17 => k_is)
    (case l17 => k_is)
    (case c17 => k_is)
    (case k17 => k_is)
    (case a18 => k_is)
    (case l18 => k_is)
    (case c18 => k_is)
    (case k18 => k_is)
    (case a19 => k_is)
    (case l19 => k_is)
    (case c19 => k_is)
    (case k19 => k_is)
    (case a20 => k_is)
    (case l20 => k_is)
    (case c20 => k_is)
    (case k20 => k_is)
    (case a21 => k_is)
    (case l21 => k_is)
    (case c21 => k_is)
    (case k21 => k_is)
    (case a22 => k_is)
    (case l22 => k_is)
    (case c22 => k_is)
    (case k22 => k_is)
    (case a23 => k_is)
    (case l23 => k_is)
    (case c23 => k_is)
    (case k23 => k_is)
    (case a24 => k_is)
    (case l24 => k_is)
    (case c24 => k_is)
    (case k24 => k_is)
    (case pg_Book => k_is)
    (case hd_Book => k_is)
    (case po_Book => k_is)
    (case sa_Book => k_is)
    (case mk_Book => k_is)
    (case kc_Book => k_is)
    (case n_Book_kids_told => k_is)
    (case n_Book_names_told => k_is)
    (case z_abs => k_is)
    (case z_all => k_is)
    (case z_bool => k_is)
    (case z_divmod => k_is)
    (case z_enumerate => k_is)
    (case z_int => k_is)
    (case z_isinstance => k_is)
    (case z_len => k_is)
    (case z_list => k_is)
    (case z_max => k_is)
    (case z_min => k_is)
    (case z_range => k_is)
    (case z_reversed => k_is)
    (case z_set => k_is)
    (case z_sorted => k_is)
    (case z_tuple => k_is)
    (case z_zip => k_is)
    (case y_LETTERS => k_is)
    (case y_MOST_IN => k_is)
    (case y_MOST_SIGNS => k_is)
