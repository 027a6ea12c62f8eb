import PyProof.Rows.All
import Wide.All
import OpenK.AllK
import Wide.FinOn
import HandS.ForMost
import HandS.Evl
import HandS.ForExc
import HandS.CallSlots
import HandS.Wide
import HandS.TupLe
import HandS.Zip
import HandS.IsInst
import HandS.TupAny
import HandS.Deep
import PyProof.StrOps2
import PyProof.AttrMissHeap
import PyProof.TupleIter
import HandS.Replace
import HandS.Dict
import HandS.RevRange
import HandS.Iter
import HandS.ExcInit
import HandS.ExcIs
import HandS.ExcField
import HandS.WordsExc
import KE.SortKeyHeap
import HandS.More
import HandS.SortKw
import HandS.Keys
import HandS.SetFor
import HandS.Strs
import PyProof.Rows.SortShellAny
import HandS.WordsDict
import HandS.WideBits
import HandS.Conv
import HandS.ListItems
import HandS.SetKeys
import HandS.SortRule
import PyProof.DictMoreH
import HandS.TryOnly
import KE.DataCmp
import PyProof.FactsAll.dict
import PySem.Challenge.RW_lostblock_k27_strokes_and_cells
set_option Elab.async false
set_option linter.all false
set_option maxRecDepth 100000
set_option synthInstance.maxSize 4000
set_option maxHeartbeats 8000000
namespace Fw
open PySem L2
abbrev Frag := PySem.W.Frag
def Inc (G H : Hp) : Prop := ∀ a o, G a = some o → H a = some o
theorem Inc.refl (H : Hp) : Inc H H := fun _ _ h => h
theorem Inc.trans {H H1 H2 : Hp} (a : Inc H H1) (b : Inc H1 H2) : Inc H H2 := fun x o h => b x o (a x o h)
theorem Inc.nope {G H : Hp} (s : Inc G H) {a : Addr} (h : H a = none) : G a = none := by
  cases e : G a with
  | none => rfl
  | some o => rw [s a o e] at h; cases h
theorem Inc.new {G : Hp} {a : Addr} {o : HO} (h : G a = none) : Inc G (upd G a o) := fun b u e => by
  rw [upd_ne (ne_of_none e h)]; exact e
theorem Inc.mut {G H : Hp} {a : Addr} {o : HO} (s : Inc G H) (h : G a = none) : Inc G (upd H a o) := fun b u e => by
  rw [upd_ne (ne_of_none e h)]; exact s b u e
theorem Inc.both {G H : Hp} {a : Addr} {o : HO} (s : Inc G H) : Inc (upd G a o) (upd H a o) := fun b u e => by
  by_cases q : b = a
  · subst q; rw [upd_same] at e ⊢; exact e
  · rw [upd_ne q] at e ⊢; exact s b u e
theorem Inc.rd {G H : Hp} {a : Addr} {u : HO} (e : Inc G H) (h : Rd G a u) : Rd H a u := by
  rcases h with h | ⟨o, h⟩
  · exact .inl (e a _ h)
  · exact .inr ⟨o, e a _ h⟩
theorem Inc.sql {K : Frag} {G H : Hp} {a : Addr} {xs : List V} (e : Inc G H) (h : SqL K G a xs) : SqL K H a xs := by
  rcases h with h | h
  · exact .inl (e.rd h)
  · exact .inr h
theorem Inc.sqt {K : Frag} {G H : Hp} {a : Addr} {xs : List V} (e : Inc G H) (h : SqT K G a xs) : SqT K H a xs := by
  rcases h with h | h
  · exact .inl (e.rd h)
  · exact .inr h
/-- what never changes -/
def imm : HO → Bool
  | .tup _ => true
  | .frz _ _ => true
  | .xd _ => true
  | .own _ => true
  | _ => false
/-- a world: what is frozen for good, and all that is tracked; what never changes is frozen -/
structure Wd where
  G : Hp
  H : Hp
  sub : Inc G H
  im : ∀ a u, H a = some u → imm u = true → G a = some u
theorem im_upd {G H : Hp} {p : Addr} {o : HO} (im : ∀ a u, H a = some u → imm u = true → G a = some u) (hi : imm o = false) : ∀ a u, upd H p o a = some u → imm u = true → G a = some u := fun a u h i => by
  by_cases q : a = p
  · subst q
    rw [upd_same] at h
    cases h
    rw [hi] at i; cases i
  · rw [upd_ne q] at h
    exact im a u h i
theorem im_both {G H : Hp} {p : Addr} {o : HO} (im : ∀ a u, H a = some u → imm u = true → G a = some u) : ∀ a u, upd H p o a = some u → imm u = true → upd G p o a = some u := fun a u h i => by
  by_cases q : a = p
  · subst q
    rw [upd_same] at h ⊢
    exact h
  · rw [upd_ne q] at h ⊢
    exact im a u h i
/-- all is frozen -/
def Wd.all (H : Hp) : Wd := ⟨H, H, fun _ _ h => h, fun _ _ h _ => h⟩
structure Le (W W' : Wd) : Prop where
  g : Inc W.G W'.G
  h : Inc W.H W'.H
  o : ∀ a, W.G a = none → W.H a ≠ none → W'.G a = none
theorem Le.refl (W : Wd) : Le W W := ⟨Inc.refl _, Inc.refl _, fun _ h _ => h⟩
theorem Le.trans {A B C : Wd} (x : Le A B) (y : Le B C) : Le A C := ⟨x.g.trans y.g, x.h.trans y.h, fun a h n => by
  refine y.o a (x.o a h n) fun q => ?_
  exact n (x.h.nope q)⟩
/-- a new frozen thing | a new owned thing -/
def Wd.nf (W : Wd) (p : Addr) (o : HO) : Wd := ⟨upd W.G p o, upd W.H p o, W.sub.both, im_both W.im⟩
def Wd.no (W : Wd) (p : Addr) (o : HO) (h : W.H p = none) (hi : imm o = false := by rfl) : Wd := ⟨W.G, upd W.H p o, W.sub.mut (W.sub.nope h), im_upd W.im hi⟩
def Wd.mt (W : Wd) (p : Addr) (o : HO) (h : W.G p = none) (hi : imm o = false := by rfl) : Wd := ⟨W.G, upd W.H p o, W.sub.mut h, im_upd W.im hi⟩
theorem Le.nf {W : Wd} {p : Addr} {o : HO} (h : W.H p = none) : Le W (W.nf p o) :=
  ⟨Inc.new (W.sub.nope h), Inc.new h, fun a g n => by
    show upd W.G p o a = none
    rw [upd_ne (fun q => n (by rw [q]; exact h))]; exact g⟩
theorem Le.no {W : Wd} {p : Addr} {o : HO} (h : W.H p = none) {hi : imm o = false} : Le W (W.no p o h hi) :=
  ⟨Inc.refl _, Inc.new h, fun a g n => g⟩
theorem Le.mt {W W' : Wd} {p : Addr} {o : HO} (e : Le W W') (h : W'.G p = none) (n : W.H p = none) {hi : imm o = false} : Le W (W'.mt p o h hi) :=
  ⟨e.g, fun b u q => by
    show upd W'.H p o b = _
    rw [upd_ne (ne_of_none q n)]; exact e.h b u q, fun a g n => e.o a g n⟩
theorem Le.fr {W W' : Wd} {p : Addr} (e : Le W W') (h : W'.H p = none) : W.H p = none := e.h.nope h
/-- an owned thing is frozen -/
def Wd.fz (W : Wd) (f : List Addr) : Wd := ⟨fun a => if a ∈ f then W.H a else W.G a, W.H, fun a o e => by
  dsimp only at e
  by_cases q : a ∈ f
  · rw [if_pos q] at e; exact e
  · rw [if_neg q] at e; exact W.sub a o e, fun a u h i => by
  show (if a ∈ f then W.H a else W.G a) = some u
  by_cases q : a ∈ f
  · rw [if_pos q]; exact h
  · rw [if_neg q]; exact W.im a u h i⟩
theorem Wd.fz_in {W : Wd} {f : List Addr} {a : Addr} (h : a ∈ f) : (W.fz f).G a = W.H a := if_pos h
theorem Wd.fz_ni {W : Wd} {f : List Addr} {a : Addr} (h : a ∉ f) : (W.fz f).G a = W.G a := if_neg h
theorem Wd.fz_sub {W : Wd} {f : List Addr} : Inc W.G (W.fz f).G := fun a o e => by
  by_cases q : a ∈ f
  · rw [Wd.fz_in q]; exact W.sub a o e
  · rw [Wd.fz_ni q]; exact e
theorem Le.fz {W W' : Wd} {f : List Addr} (e : Le W W') (h : ∀ a ∈ f, W.H a = none) : Le W (W'.fz f) :=
  ⟨e.g.trans Wd.fz_sub, e.h, fun a g n => by
    rw [Wd.fz_ni (fun q => n (h a q))]; exact e.o a g n⟩

/-! ### mirror values and what represents them -/
class Rp (α : Type) where
  rep : Frag → α → V → Hp → Prop
  mono : ∀ {K : Frag} {x : α} {v : V} {G H : Hp}, Inc G H → rep K x v G → rep K x v H
class Ob (α : Type) where
  own : Frag → α → V → List Addr → Wd → Prop
  keep : ∀ {K : Frag} {x : α} {v : V} {f : List Addr} {W W' : Wd}, own K x v f W → Inc W.G W'.G → (∀ a ∈ f, W'.G a = none) → (∀ a ∈ f, W'.H a = W.H a) → own K x v f W'
  foot : ∀ {K : Frag} {x : α} {v : V} {f : List Addr} {W : Wd}, own K x v f W → ∀ a ∈ f, W.G a = none ∧ W.H a ≠ none
class Fz (α : Type) extends Rp α, Ob α where
  fz : ∀ {K : Frag} {x : α} {v : V} {f : List Addr} {W : Wd}, own K x v f W → rep K x v (W.fz f).G

instance : Rp Int := ⟨fun _ x v _ => v = .int x, fun _ h => h⟩
instance : Rp Bool := ⟨fun _ x v _ => v = .bl x, fun _ h => h⟩
def SOk (x : Str) : Prop := x.length ≤ sizeLine ∧ x.cps.all (· < 0x110000) = true
instance : Rp Str := ⟨fun _ x v _ => v = .str x ∧ SOk x, fun _ h => h⟩
instance : Rp Unit := ⟨fun _ _ v _ => v = .non, fun _ h => h⟩
/-- values of which the heap says nothing -/
class Sc (α : Type) extends Rp α where
  any : ∀ {K : Frag} {x : α} {v : V} {G H : Hp}, rep K x v G → rep K x v H
  nn : ∀ {K : Frag} {x : α} {v : V} {G : Hp}, rep K x v G → ∃ u : V, v = u
instance : Sc Int := ⟨fun h => h, fun _ => ⟨_, rfl⟩⟩
instance : Sc Bool := ⟨fun h => h, fun _ => ⟨_, rfl⟩⟩
instance : Sc Str := ⟨fun h => h, fun _ => ⟨_, rfl⟩⟩
instance : Sc Unit := ⟨fun h => h, fun _ => ⟨_, rfl⟩⟩
/-- place by place -/
def Al {α : Type} (P : α → V → Prop) (xs : List α) (vs : List V) : Prop := xs.length = vs.length ∧ ∀ (i : Nat) x v, xs[i]? = some x → vs[i]? = some v → P x v
section
variable {α β : Type} {P Q : α → V → Prop} {xs ys : List α} {vs ws : List V} {x : α} {v : V}
theorem Al.imp (h : Al P xs vs) (k : ∀ x v, P x v → Q x v) : Al Q xs vs := ⟨h.1, fun i x v a b => k x v (h.2 i x v a b)⟩
theorem Al.nil : Al P [] [] := ⟨rfl, fun i x v a _ => by simp at a⟩
theorem Al.one (h : P x v) : Al P [x] [v] := ⟨rfl, fun i y w a b => by
  cases i with
  | zero => cases a; cases b; exact h
  | succ i => simp at a⟩
theorem Al.cons (h : P x v) (t : Al P xs vs) : Al P (x :: xs) (v :: vs) := ⟨by simp [t.1], fun i y w a b => by
  cases i with
  | zero => cases a; cases b; exact h
  | succ i => exact t.2 i y w a b⟩
theorem Al.app (h : Al P xs vs) (t : Al P ys ws) : Al P (xs ++ ys) (vs ++ ws) := ⟨by simp [h.1, t.1], fun i y w a b => by
  by_cases q : i < xs.length
  · rw [List.getElem?_append_left q] at a
    rw [List.getElem?_append_left (h.1 ▸ q)] at b
    exact h.2 i y w a b
  · rw [List.getElem?_append_right (by omega)] at a
    rw [List.getElem?_append_right (by have := h.1; omega)] at b
    rw [← h.1] at b
    exact t.2 _ y w a b⟩
theorem Al.get {i : Nat} (h : Al P xs vs) (a : xs[i]? = some x) : ∃ v, vs[i]? = some v ∧ P x v := by
  have hi : i < vs.length := h.1 ▸ (List.getElem?_eq_some_iff.mp a).1
  exact ⟨vs[i], List.getElem?_eq_getElem hi, h.2 i x _ a (List.getElem?_eq_getElem hi)⟩
theorem Al.getV {i : Nat} (h : Al P xs vs) (a : vs[i]? = some v) : ∃ x, xs[i]? = some x ∧ P x v := by
  have hi : i < xs.length := h.1 ▸ (List.getElem?_eq_some_iff.mp a).1
  exact ⟨xs[i], List.getElem?_eq_getElem hi, h.2 i _ v (List.getElem?_eq_getElem hi) a⟩
theorem Al.set (h : Al P xs vs) (r : P x v) (i : Nat) : Al P (xs.set i x) (vs.set i v) := ⟨by simp [h.1], fun j y w a b => by
  rw [List.getElem?_set] at a b
  by_cases q : i = j
  · subst q
    simp only [if_true] at a b
    split at a
    · rename_i c
      rw [if_pos (h.1 ▸ c)] at b
      cases a; cases b; exact r
    · cases a
  · rw [if_neg q] at a b
    exact h.2 j y w a b⟩
theorem Al.take (h : Al P xs vs) (n : Nat) : Al P (xs.take n) (vs.take n) := ⟨by simp [h.1], fun i y w a b => by
  rw [List.getElem?_take] at a b
  split at a
  · rename_i c; rw [if_pos c] at b; exact h.2 i y w a b
  · cases a⟩
theorem Al.drop (h : Al P xs vs) (n : Nat) : Al P (xs.drop n) (vs.drop n) := ⟨by simp [h.1], fun i y w a b => by
  rw [List.getElem?_drop] at a b
  exact h.2 _ y w a b⟩
theorem Al.rev (h : Al P xs vs) : Al P xs.reverse vs.reverse := ⟨by simp [h.1], fun i y w a b => by
  have hi : i < xs.length := by have := (List.getElem?_eq_some_iff.mp a).1; simpa using this
  rw [List.getElem?_reverse hi] at a
  rw [List.getElem?_reverse (h.1 ▸ hi), ← h.1] at b
  exact h.2 _ y w a b⟩
end
section
variable {α β γ δ : Type} [Rp α] [Rp β] [Rp γ] [Rp δ]
def repL (K : Frag) (xs : List α) (v : V) (G : Hp) : Prop := ∃ p vs, v = .ref p ∧ G p = some (.lst vs) ∧ Al (fun x v => Rp.rep K x v G) xs vs ∧ xs.length ≤ sizeLine
instance : Rp (List α) := ⟨repL, fun s ⟨p, vs, e, h, a, l⟩ => ⟨p, vs, e, s _ _ h, a.imp fun _ _ r => Rp.mono s r, l⟩⟩
instance : Rp (α × β) := ⟨fun K x v G => ∃ p a b, v = .ref p ∧ SqT K G p [a, b] ∧ Rp.rep K x.1 a G ∧ Rp.rep K x.2 b G, fun s ⟨p, a, b, e, h, r1, r2⟩ => ⟨p, a, b, e, s.sqt h, Rp.mono s r1, Rp.mono s r2⟩⟩
end
/-- a list that is only read: the script, what is written -/
structure Sq (α : Type) where
  l : List α
deriving DecidableEq
/-- a tuple of any length, of one kind -/
structure Tup (α : Type) where
  l : List α
deriving DecidableEq
structure T3 (α β γ : Type) where
  a : α
  b : β
  c : γ
deriving DecidableEq
structure T4 (α β γ δ : Type) where
  a : α
  b : β
  c : γ
  d : δ
deriving DecidableEq
section
variable {α β γ δ : Type} [Rp α] [Rp β] [Rp γ] [Rp δ]
instance : Rp (Sq α) := ⟨fun K xs v G => ∃ p vs, v = .ref p ∧ SqL K G p vs ∧ Al (fun x v => Rp.rep K x v G) xs.l vs ∧ xs.l.length ≤ sizeLine, fun s ⟨p, vs, e, h, a, l⟩ => ⟨p, vs, e, s.sql h, a.imp fun _ _ r => Rp.mono s r, l⟩⟩
instance : Rp (Tup α) := ⟨fun K xs v G => ∃ p vs, v = .ref p ∧ SqT K G p vs ∧ Al (fun x v => Rp.rep K x v G) xs.l vs ∧ xs.l.length ≤ sizeLine, fun s ⟨p, vs, e, h, a, l⟩ => ⟨p, vs, e, s.sqt h, a.imp fun _ _ r => Rp.mono s r, l⟩⟩
instance : Rp (T3 α β γ) := ⟨fun K x v G => ∃ p a b c, v = .ref p ∧ SqT K G p [a, b, c] ∧ Rp.rep K x.a a G ∧ Rp.rep K x.b b G ∧ Rp.rep K x.c c G,
  fun s ⟨p, a, b, c, e, h, r1, r2, r3⟩ => ⟨p, a, b, c, e, s.sqt h, Rp.mono s r1, Rp.mono s r2, Rp.mono s r3⟩⟩
instance : Rp (T4 α β γ δ) := ⟨fun K x v G => ∃ p a b c d, v = .ref p ∧ SqT K G p [a, b, c, d] ∧ Rp.rep K x.a a G ∧ Rp.rep K x.b b G ∧ Rp.rep K x.c c G ∧ Rp.rep K x.d d G,
  fun s ⟨p, a, b, c, d, e, h, r1, r2, r3, r4⟩ => ⟨p, a, b, c, d, e, s.sqt h, Rp.mono s r1, Rp.mono s r2, Rp.mono s r3, Rp.mono s r4⟩⟩
instance : Rp (Option α) := ⟨fun K x v G => match x with
  | none => v = .non
  | some y => v ≠ .non ∧ Rp.rep K y v G, fun {K x v G H} s h => by
    cases x with
    | none => exact h
    | some y => exact ⟨h.1, Rp.mono s h.2⟩⟩
/-- an owned list -/
def ownL (K : Frag) (xs : List α) (v : V) (f : List Addr) (W : Wd) : Prop := ∃ p vs, v = .ref p ∧ f = [p] ∧ W.G p = none ∧ W.H p = some (.lst vs) ∧ Al (fun x v => Rp.rep K x v W.G) xs vs ∧ xs.length ≤ sizeLine
instance : Fz (List α) where
  own := ownL
  keep := fun {K x v f W W'} ⟨p, vs, e, ef, g, h, a, l⟩ s n k => by
    subst ef
    exact ⟨p, vs, e, rfl, n p (List.mem_singleton.mpr rfl), (k p (List.mem_singleton.mpr rfl)).trans h, a.imp fun _ _ r => Rp.mono s r, l⟩
  foot := fun {K x v f W} ⟨p, vs, e, ef, g, h, a, l⟩ b hb => by
    subst ef
    obtain rfl := List.mem_singleton.mp hb
    exact ⟨g, by rw [h]; exact fun z => nomatch z⟩
  fz := fun {K x v f W} ⟨p, vs, e, ef, g, h, a, l⟩ => by
    subst ef
    exact ⟨p, vs, e, (Wd.fz_in (List.mem_singleton.mpr rfl)).trans h, a.imp fun _ _ r => Rp.mono Wd.fz_sub r, l⟩
end
/-! ### what the slots hold -/
inductive Sl : Type 1 where
  | un
  | fr {α : Type} [Rp α] (x : α)
  | ow {α : Type} [Ob α] (pin : Option V) (x : α)
def Hd (K : Frag) : Sl → Option V → Wd → List Addr → Prop
  | .un, _, _, _ => True
  | @Sl.fr _ _ x, o, W, _ => ∃ v, o = some v ∧ Rp.rep K x v W.G
  | @Sl.ow _ _ pin x, o, W, f => ∃ v, o = some v ∧ Ob.own K x v f W ∧ ∀ u, pin = some u → v = u
structure At (K : Frag) (W0 : Wd) (As : List Sl) (σ : St) (W : Wd) : Prop where
  len : σ.length = As.length
  le : Le W0 W
  fp : ∃ F : Nat → List Addr, (∀ (i : Nat) A o, As[i]? = some A → σ[i]? = some o → Hd K A o W (F i)) ∧ (∀ i j a, i ≠ j → a ∈ F i → a ∉ F j) ∧ ∀ i a, a ∈ F i → W.G a = none ∧ W.H a ≠ none ∧ W0.H a = none
section
variable {K : Frag} {W0 W W' : Wd} {As Bs : List Sl} {σ : St} {i : Nat} {v : V}
theorem Hd.mono {A : Sl} {o : Option V} {f : List Addr} (e : Le W W') (hf : ∀ a ∈ f, W.G a = none ∧ W.H a ≠ none) (h : Hd K A o W f) : Hd K A o W' f := by
  cases A with
  | un => trivial
  | fr x => obtain ⟨v, e1, r⟩ := h; exact ⟨v, e1, Rp.mono e.g r⟩
  | ow x =>
    obtain ⟨v, e1, r, pn⟩ := h
    refine ⟨v, e1, Ob.keep r e.g (fun a ha => e.o a (hf a ha).1 (hf a ha).2) fun a ha => ?_, pn⟩
    cases q : W.H a with
    | none => exact absurd q (hf a ha).2
    | some u => exact e.h a u q
theorem At.mono (h : At K W0 As σ W) (e : Le W W') : At K W0 As σ W' := by
  obtain ⟨l, le, F, h1, h2, h3⟩ := h
  refine ⟨l, le.trans e, F, fun i A o a b => Hd.mono e (fun x hx => ⟨(h3 i x hx).1, (h3 i x hx).2.1⟩) (h1 i A o a b), h2, fun i a ha => ?_⟩
  obtain ⟨g, n, z⟩ := h3 i a ha
  exact ⟨e.o a g n, fun q => n (e.h.nope q), z⟩
theorem At.var {α : Type} [Rp α] {x : α} (h : At K W0 As σ W) (hi : As[i]? = some (.fr x)) : ∃ v, σ[i]? = some (some v) ∧ Rp.rep K x v W.G := by
  obtain ⟨l, le, F, h1, h2, h3⟩ := h
  have hl : i < σ.length := l ▸ (List.getElem?_eq_some_iff.mp hi).1
  obtain ⟨v, e, r⟩ := h1 i _ _ hi (List.getElem?_eq_getElem hl)
  exact ⟨v, by rw [List.getElem?_eq_getElem hl, e], r⟩
theorem At.varO {α : Type} [Ob α] {x : α} {pin : Option V} (h : At K W0 As σ W) (hi : As[i]? = some (.ow pin x)) : ∃ v f, σ[i]? = some (some v) ∧ Ob.own K x v f W ∧ (∀ u, pin = some u → v = u) ∧ ∀ a ∈ f, W0.H a = none := by
  obtain ⟨l, le, F, h1, h2, h3⟩ := h
  have hl : i < σ.length := l ▸ (List.getElem?_eq_some_iff.mp hi).1
  obtain ⟨v, e, r, pn⟩ := h1 i _ _ hi (List.getElem?_eq_getElem hl)
  exact ⟨v, F i, by rw [List.getElem?_eq_getElem hl, e], r, pn, fun a ha => (h3 i a ha).2.2⟩
theorem get_set_ne.{u} {α : Type u} {l : List α} {i j : Nat} {x : α} (h : i ≠ j) : (l.set i x)[j]? = l[j]? := by
  rw [List.getElem?_set, if_neg h]
theorem get_set_eq.{u} {α : Type u} {l : List α} {i : Nat} {x y : α} (h : (l.set i x)[i]? = some y) : y = x := by
  rw [List.getElem?_set] at h
  simp only [if_true] at h
  split at h
  · exact (Option.some.inj h).symm
  · cases h
/-- slot i gets a frozen value, or one of which nothing is known -/
theorem At.set {A : Sl} {o : Option V} (h : At K W0 As σ W) (hA : Hd K A o W []) : At K W0 (As.set i A) (σ.set i o) W := by
  obtain ⟨l, le, F, h1, h2, h3⟩ := h
  refine ⟨by simp [l], le, fun j => if j = i then [] else F j, fun j B p a b => ?_, fun j k a n ha hb => ?_, fun j a ha => ?_⟩
  · by_cases q : i = j
    · subst q
      rw [get_set_eq a, get_set_eq b]
      simpa using hA
    · rw [get_set_ne q] at a b
      dsimp only
      rw [if_neg (Ne.symm q)]
      exact h1 j B p a b
  · dsimp only at ha hb
    split at ha
    · cases ha
    · split at hb
      · cases hb
      · exact h2 j k a n ha hb
  · dsimp only at ha
    split at ha
    · cases ha
    · exact h3 j a ha
/-- slot i gets an owned thing on new ground -/
theorem At.setO {α : Type} [Ob α] {x : α} {f : List Addr} {W1 : Wd} (h : At K W0 As σ W1) (e : Le W1 W) (r : Ob.own K x v f W) (hf : ∀ a ∈ f, W1.H a = none) : At K W0 (As.set i (.ow none x)) (σ.set i (some v)) W := by
  have h' := h.mono e
  obtain ⟨l, le, F, h1, h2, h3⟩ := h
  obtain ⟨_, le', _⟩ := h'
  refine ⟨by simp [l], le', fun j => if j = i then f else F j, fun j B p a b => ?_, fun j k a n ha hb => ?_, fun j a ha => ?_⟩
  · by_cases q : i = j
    · subst q
      rw [get_set_eq a, get_set_eq b]
      simp only [if_true]
      exact ⟨v, rfl, r, fun u z => nomatch z⟩
    · rw [get_set_ne q] at a b
      dsimp only
      rw [if_neg (Ne.symm q)]
      exact Hd.mono e (fun x hx => ⟨(h3 j x hx).1, (h3 j x hx).2.1⟩) (h1 j B p a b)
  · dsimp only at ha hb
    split at ha
    · split at hb
      · rename_i c d; exact n (c.trans d.symm)
      · exact (h3 k a hb).2.1 (hf a ha)
    · split at hb
      · exact (h3 j a ha).2.1 (hf a hb)
      · exact h2 j k a n ha hb
  · dsimp only at ha
    split at ha
    · exact ⟨(Ob.foot r a ha).1, (Ob.foot r a ha).2, le.h.nope (hf a ha)⟩
    · obtain ⟨g, n, z⟩ := h3 j a ha
      exact ⟨e.o a g n, fun q => n (e.h.nope q), z⟩
/-- the owned thing of slot i changes, on its own and on new ground -/
theorem At.chg {α β : Type} [Ob α] [Ob β] {x : α} {y : β} {pin : Option V} (h : At K W0 As σ W) (hi : As[i]? = some (.ow pin x)) :
    ∃ v f, σ[i]? = some (some v) ∧ Ob.own K x v f W ∧ (∀ a ∈ f, W0.H a = none) ∧ ∀ (W' : Wd) f', Inc W.G W'.G → (∀ a, a ∉ f → W.G a = none → W.H a ≠ none → W'.G a = none) → (∀ a, a ∉ f → W.H a ≠ none → W'.H a = W.H a) →
      Ob.own K y v f' W' → (∀ a ∈ f', a ∈ f ∨ W.H a = none) → At K W0 (As.set i (.ow pin y)) σ W' := by
  obtain ⟨l, le, F, h1, h2, h3⟩ := h
  have hl : i < σ.length := l ▸ (List.getElem?_eq_some_iff.mp hi).1
  obtain ⟨v, e, r, pn⟩ := h1 i _ _ hi (List.getElem?_eq_getElem hl)
  refine ⟨v, F i, by rw [List.getElem?_eq_getElem hl, e], r, fun a ha => (h3 i a ha).2.2, fun W' f' sg so sh r' hf => ?_⟩
  have z0 : ∀ a ∈ f', W0.H a = none := fun a ha => by
    rcases hf a ha with q | q
    · exact (h3 i a q).2.2
    · exact le.h.nope q
  have lw : Le W0 W' := ⟨le.g.trans sg, fun a o q => by
    have n0 : W0.H a ≠ none := by rw [q]; exact fun z => nomatch z
    have w := le.h a o q
    rw [sh a (fun ha => n0 ((h3 i a ha).2.2)) (by rw [w]; exact fun z => nomatch z)]
    exact w, fun a g n => so a (fun ha => n ((h3 i a ha).2.2)) (le.o a g n) (fun q => n (le.h.nope q))⟩
  refine ⟨by simp [l], lw, fun j => if j = i then f' else F j, fun j B p a b => ?_, fun j k a n ha hb => ?_, fun j a ha => ?_⟩
  · by_cases q : i = j
    · subst q
      rw [get_set_eq a]
      rw [List.getElem?_eq_getElem hl, e] at b
      cases b
      simp only [if_true]
      exact ⟨v, rfl, r', pn⟩
    · rw [get_set_ne q] at a
      dsimp only
      rw [if_neg (Ne.symm q)]
      have hd := h1 j B p a b
      cases B with
      | un => trivial
      | fr x => obtain ⟨v, e1, r⟩ := hd; exact ⟨v, e1, Rp.mono sg r⟩
      | ow x =>
        obtain ⟨v, e1, r, pn⟩ := hd
        exact ⟨v, e1, Ob.keep r sg (fun a ha => so a (fun z => h2 j i a (Ne.symm q) ha z) (h3 j a ha).1 (h3 j a ha).2.1) fun a ha => sh a (fun z => h2 j i a (Ne.symm q) ha z) (h3 j a ha).2.1, pn⟩
  · dsimp only at ha hb
    split at ha
    · split at hb
      · rename_i c d; exact n (c.trans d.symm)
      · rename_i c d
        rcases hf a ha with q | q
        · exact h2 i k a (Ne.symm d) q hb
        · exact (h3 k a hb).2.1 q
    · split at hb
      · rename_i c d
        rcases hf a hb with q | q
        · exact h2 j i a c ha q
        · exact (h3 j a ha).2.1 q
      · exact h2 j k a n ha hb
  · dsimp only at ha
    split at ha
    · exact ⟨(Ob.foot r' a ha).1, (Ob.foot r' a ha).2, z0 a ha⟩
    · rename_i c
      obtain ⟨g, n, z⟩ := h3 j a ha
      refine ⟨so a (fun q => h2 j i a c ha q) g n, ?_, z⟩
      rw [sh a (fun q => h2 j i a c ha q) n]
      exact n
/-- an owned thing is frozen -/
theorem At.fz {α : Type} [Fz α] {x : α} {pin : Option V} (h : At K W0 As σ W) (hi : As[i]? = some (.ow pin x)) : ∃ W', W'.H = W.H ∧ At K W0 (As.set i (.fr x)) σ W' := by
  obtain ⟨l, le, F, h1, h2, h3⟩ := h
  have hl : i < σ.length := l ▸ (List.getElem?_eq_some_iff.mp hi).1
  obtain ⟨v, e, r, _⟩ := h1 i _ _ hi (List.getElem?_eq_getElem hl)
  refine ⟨W.fz (F i), rfl, by simp [l], le.fz fun a ha => (h3 i a ha).2.2, fun j => if j = i then [] else F j, fun j B p a b => ?_, fun j k a n ha hb => ?_, fun j a ha => ?_⟩
  · by_cases q : i = j
    · subst q
      rw [get_set_eq a]
      rw [List.getElem?_eq_getElem hl, e] at b
      cases b
      exact ⟨v, rfl, Fz.fz r⟩
    · rw [get_set_ne q] at a
      dsimp only
      rw [if_neg (Ne.symm q)]
      have hd := h1 j B p a b
      cases B with
      | un => trivial
      | fr x => obtain ⟨v, e1, r⟩ := hd; exact ⟨v, e1, Rp.mono Wd.fz_sub r⟩
      | ow x =>
        obtain ⟨v, e1, r, pn⟩ := hd
        refine ⟨v, e1, Ob.keep r Wd.fz_sub (fun a ha => ?_) (fun _ _ => rfl), pn⟩
        rw [Wd.fz_ni (fun z => h2 j i a (Ne.symm q) ha z)]
        exact (h3 j a ha).1
  · dsimp only at ha hb
    split at ha
    · cases ha
    · split at hb
      · cases hb
      · exact h2 j k a n ha hb
  · dsimp only at ha
    split at ha
    · cases ha
    · rename_i c
      obtain ⟨g, n, z⟩ := h3 j a ha
      refine ⟨?_, n, z⟩
      rw [Wd.fz_ni (fun z => h2 j i a c ha z)]
      exact g
theorem At.re {W1 : Wd} (h : At K W1 As σ W) (e : Le W0 W1) : At K W0 As σ W := by
  obtain ⟨l, le, F, h1, h2, h3⟩ := h
  exact ⟨l, e.trans le, F, h1, h2, fun i a ha => ⟨(h3 i a ha).1, (h3 i a ha).2.1, e.h.nope (h3 i a ha).2.2⟩⟩
/-- a later ground, by what is frozen now -/
def Wd.rb (W0 W : Wd) (le : Le W0 W) : Wd := ⟨W.G, fun a => match W0.H a with | some o => some o | none => W.G a, fun a o e => by
  show (match W0.H a with | some o => some o | none => W.G a) = some o
  cases q : W0.H a with
  | none => exact e
  | some u => exact (le.h a u q).symm.trans (W.sub a o e), fun a u h i => by
  have h' : (match W0.H a with | some o => some o | none => W.G a) = some u := h
  cases q : W0.H a with
  | none => rw [q] at h'; exact h'
  | some o => rw [q] at h'; cases h'; exact le.g a _ (W0.im a _ q i)⟩
theorem Wd.rb_none {W0 W : Wd} {le : Le W0 W} {a : Addr} (h : W0.H a = none) (g : W.G a = none) : (W0.rb W le).H a = none := by
  show (match W0.H a with | some o => some o | none => W.G a) = none
  rw [h]; exact g
theorem Le.rb0 {W0 W : Wd} (le : Le W0 W) : Le W0 (W0.rb W le) := ⟨le.g, fun a o e => by
  show (match W0.H a with | some o => some o | none => W.G a) = some o
  rw [e], fun a g n => le.o a g n⟩
theorem Le.rb1 {W0 W : Wd} (le : Le W0 W) : Le (W0.rb W le) W := ⟨Inc.refl _, fun a o e => by
  have e' : (match W0.H a with | some o => some o | none => W.G a) = some o := e
  cases q : W0.H a with
  | none => rw [q] at e'; exact W.sub a o e'
  | some u => rw [q] at e'; cases e'; exact le.h a _ q, fun _ g _ => g⟩
theorem At.rb (h : At K W0 As σ W) : At K (W0.rb W h.le) As σ W := by
  have le' := h.le
  obtain ⟨l, le, F, h1, h2, h3⟩ := h
  exact ⟨l, Le.rb1 le, F, h1, h2, fun i a ha => ⟨(h3 i a ha).1, (h3 i a ha).2.1, Wd.rb_none (h3 i a ha).2.2 (h3 i a ha).1⟩⟩
/-- less is known -/
inductive Wk : List Sl → List Sl → Prop
  | nil : Wk [] []
  | same {A As Bs} : Wk As Bs → Wk (A :: As) (A :: Bs)
  | drop {A As Bs} : Wk As Bs → Wk (A :: As) (.un :: Bs)
theorem Wk.get : ∀ {As Bs : List Sl} {i : Nat} {B : Sl}, Wk As Bs → Bs[i]? = some B → B = .un ∨ As[i]? = some B
  | _, _, _, _, .nil, h => by simp at h
  | _, _, 0, _, .same _, h => .inr h
  | _, _, i + 1, _, .same t, h => Wk.get (i := i) t h
  | _, _, 0, _, .drop _, h => .inl (Option.some.inj h).symm
  | _, _, i + 1, _, .drop t, h => Wk.get (i := i) t h
theorem Wk.len : ∀ {As Bs : List Sl}, Wk As Bs → As.length = Bs.length
  | _, _, .nil => rfl
  | _, _, .same t => congrArg (· + 1) (Wk.len t)
  | _, _, .drop t => congrArg (· + 1) (Wk.len t)
theorem Wk.refl : ∀ {As : List Sl}, Wk As As
  | [] => .nil
  | _ :: _ => .same Wk.refl
theorem At.wk (h : At K W0 As σ W) (w : Wk As Bs) : At K W0 Bs σ W := by
  obtain ⟨l, le, F, h1, h2, h3⟩ := h
  refine ⟨l.trans w.len, le, F, fun i B o a b => ?_, h2, h3⟩
  rcases w.get a with q | q
  · rw [q]; trivial
  · exact h1 i B o q b
end
end Fw

namespace Fw
open PySem L2
/-! ### kinds of what an expression hands back -/
structure Kd where
  p : Wd → V → Wd → Prop
  up : ∀ {A B C : Wd} {v : V}, p A v B → Le B C → p A v C
  dn : ∀ {A B C : Wd} {v : V}, Le A B → p B v C → p A v C
def kFr (K : Frag) {α : Type} [Rp α] (x : α) : Kd := ⟨fun _ v W => Rp.rep K x v W.G, fun h e => Rp.mono e.g h, fun _ h => h⟩
theorem own_up {K : Frag} {α : Type} [Ob α] {x : α} {v : V} {f : List Addr} {W W' : Wd} (h : Ob.own K x v f W) (e : Le W W') : Ob.own K x v f W' :=
  Ob.keep h e.g (fun a ha => e.o a (Ob.foot h a ha).1 (Ob.foot h a ha).2) fun a ha => by
    cases q : W.H a with
    | none => exact absurd q (Ob.foot h a ha).2
    | some u => exact e.h a u q
def kNw (K : Frag) {α : Type} [Ob α] (x : α) : Kd := ⟨fun A v W => ∃ f, Ob.own K x v f W ∧ ∀ a ∈ f, A.H a = none,
  fun ⟨f, r, n⟩ e => ⟨f, own_up r e, n⟩, fun e ⟨f, r, n⟩ => ⟨f, r, fun a ha => e.h.nope (n a ha)⟩⟩
/-- a list that may be read: frozen or owned -/
def kSh (K : Frag) {α : Type} [Rp α] (xs : List α) : Kd := ⟨fun _ v W => ∃ p vs, v = .ref p ∧ SqL K W.H p vs ∧ Al (fun x v => Rp.rep K x v W.G) xs vs ∧ xs.length ≤ sizeLine,
  fun ⟨p, vs, e, h, a, l⟩ q => ⟨p, vs, e, q.h.sql h, a.imp fun _ _ r => Rp.mono q.g r, l⟩, fun _ h => h⟩
/-- a value of which the heap says nothing more -/
def kV (v : V) : Kd := ⟨fun _ u _ => u = v, fun h _ => h, fun _ h => h⟩
def Ev (te : TE) (σ : St) (W : Wd) (k : Kd) : Prop := ∀ W1, Le W W1 → ∀ Q : VK, (∀ v W2, Le W1 W2 → k.p W1 v W2 → Q v W2.H) → te σ W1.H Q
def EvT (tt : TT) (σ : St) (W : Wd) (b : Bool) : Prop := ∀ W1, Le W W1 → ∀ Q : Bool → Hp → Prop, (∀ W2, Le W1 W2 → Q b W2.H) → tt σ W1.H Q

/-! ### the mirror's monad -/
structure Exc where
  cls : Str
  fs : List (Str × V)
inductive R (α : Type) where
  | ok (x : α)
  | ex (e : Exc)
  | no
namespace R
variable {α β γ : Type}
def bind (m : R α) (f : α → R β) : R β := match m with
  | .ok x => f x
  | .ex e => .ex e
  | .no => .no
@[simp] theorem bind_ok (x : α) (f : α → R β) : (R.ok x).bind f = f x := rfl
@[simp] theorem bind_no (f : α → R β) : (R.no : R α).bind f = .no := rfl
@[simp] theorem bind_ex (e : Exc) (f : α → R β) : (R.ex e : R α).bind f = .ex e := rfl
/-- checked -/
def chk (c : Bool) (x : α) : R α := if c then .ok x else .no
@[simp] theorem chk_t (x : α) : chk true x = .ok x := rfl
/-- of an option -/
def opt (o : Option α) : R α := match o with
  | some x => .ok x
  | none => .no
@[simp] theorem opt_some (x : α) : opt (some x) = .ok x := rfl
def ite (m : R Bool) (a b : R α) : R α := m.bind fun c => if c then a else b
def and (a b : R Bool) : R Bool := a.bind fun c => if c then b else .ok false
def or (a b : R Bool) : R Bool := a.bind fun c => if c then .ok true else b
/-- what can't be raised here -/
def np (m : R α) : R α := match m with
  | .ok x => .ok x
  | _ => .no
@[simp] theorem np_ok (x : α) : np (.ok x) = .ok x := rfl
end R
/-- what a raised exception is: its class, its own dict -/
structure ExM where
  C : Str → Value
/-- what a field of an exception may be -/
def VOk : V → Prop
  | .str s => s.length ≤ sizeLine ∧ s.cps.all (· < 0x110000) = true
  | _ => True
/-- its own dict -/
def ExD (fs : List (Str × V)) (d : Option Addr) (G : Hp) : Prop := match fs with
  | [] => d = none
  | fs => ∃ a, d = some a ∧ G a = some (.xd fs)
def ExAt (M : Str → Value) (e : Exc) (cls : Value) (d : Option Addr) (W : Wd) : Prop := cls = M e.cls ∧ ExD e.fs d W.G ∧ ∀ p ∈ e.fs, VOk p.2
/-- what stands fixed in a def: the written part, the classes of exceptions -/
structure Cn where
  K : Frag
  M : Str → Value
section
variable {c : Cn} {W0 : Wd} {X : WX} {As Bs : List Sl} {α β γ δ τ ρ : Type}
def Exp (c : Cn) (W0 : Wd) (te : TE) (As : List Sl) (k : Kd) : Prop := ∀ σ W, At c.K W0 As σ W → Ev te σ W k
def Rz (c : Cn) (X : WX) (te : TE) (σ : St) (W : Wd) (e : Exc) : Prop := ∀ W1, Le W W1 → ∀ Q, (∀ cls d W2, Le W1 W2 → ExAt c.M e cls d W2 → X cls d σ W2.H) → te σ W1.H Q
def SatR (m : R α) (P : α → Prop) (E : Exc → Prop) : Prop := match m with
  | .ok x => P x
  | .ex e => E e
  | .no => True
def Exr (c : Cn) (W0 : Wd) (X : WX) (te : TE) (As : List Sl) (m : R α) (k : α → Kd) : Prop := ∀ σ W, At c.K W0 As σ W → SatR m (fun x => Ev te σ W (k x)) (Rz c X te σ W)
def Txp (c : Cn) (W0 : Wd) (tt : TT) (As : List Sl) (b : Bool) : Prop := ∀ σ W, At c.K W0 As σ W → EvT tt σ W b
def RzT (c : Cn) (X : WX) (tt : TT) (σ : St) (W : Wd) (e : Exc) : Prop := ∀ W1, Le W W1 → ∀ Q, (∀ cls d W2, Le W1 W2 → ExAt c.M e cls d W2 → X cls d σ W2.H) → tt σ W1.H Q
def Txr (c : Cn) (W0 : Wd) (X : WX) (tt : TT) (As : List Sl) (m : R Bool) : Prop := ∀ σ W, At c.K W0 As σ W → SatR m (EvT tt σ W) (RzT c X tt σ W)
theorem exr_p {te : TE} {x : α} {k : α → Kd} (h : Exp c W0 te As (k x)) : Exr c W0 X te As (.ok x) k := h
theorem txr_p {tt : TT} {b : Bool} (h : Txp c W0 tt As b) : Txr c W0 X tt As (.ok b) := h
theorem exp_w {te : TE} {k k' : Kd} (h : Exp c W0 te As k) (w : ∀ A v B, k.p A v B → k'.p A v B) : Exp c W0 te As k' := fun σ W a W1 e Q q => h σ W a W1 e Q fun v W2 e2 p => q v W2 e2 (w _ _ _ p)
theorem exr_w {te : TE} {m : R α} {k k' : α → Kd} (h : Exr c W0 X te As m k) (w : ∀ x A v B, (k x).p A v B → (k' x).p A v B) : Exr c W0 X te As m k' := fun σ W a => by
  have h' := h σ W a
  cases m with
  | ok x => exact fun W1 e Q q => h' W1 e Q fun v W2 e2 p => q v W2 e2 (w _ _ _ _ p)
  | ex e => exact h'
  | no => trivial
/-! leaves -/
theorem e_var [Rp α] {x : α} (i : Nat) (h : As[i]? = some (.fr x) := by rfl) : Exp c W0 (tVar i) As (kFr c.K x) := fun σ W a W1 e Q q => by
  obtain ⟨v, hv, r⟩ := a.var h
  exact ⟨v, hv, q v W1 (Le.refl _) (Rp.mono e.g r)⟩
/-- an owned list, read -/
theorem own_sh [Rp α] {K : Frag} {x : List α} {v : V} {f : List Addr} {W A : Wd} (h : Ob.own K x v f W) : (kSh K x).p A v W := by
  obtain ⟨p, vs, e, ef, g, hh, a, l⟩ := h
  exact ⟨p, vs, e, .inl (.inl hh), a, l⟩
theorem fr_sh [Rp α] {K : Frag} {x : List α} {v : V} {W A : Wd} (h : (kFr K x).p A v W) : (kSh K x).p A v W := by
  obtain ⟨p, vs, e, hh, a, l⟩ := h
  exact ⟨p, vs, e, .inl (.inl (W.sub _ _ hh)), a, l⟩
theorem sq_sh [Rp α] {K : Frag} {x : Sq α} {v : V} {W A : Wd} (h : (kFr K x).p A v W) : (kSh K x.l).p A v W := by
  obtain ⟨p, vs, e, hh, a, l⟩ := h
  exact ⟨p, vs, e, W.sub.sql hh, a, l⟩
theorem fr_sq [Rp α] {K : Frag} {x : List α} {v : V} {W A : Wd} (h : (kFr K x).p A v W) : (kFr K (Sq.mk x)).p A v W := by
  obtain ⟨p, vs, e, hh, a, l⟩ := h
  exact ⟨p, vs, e, .inl (.inl hh), a, l⟩
theorem nw_sh [Rp α] {K : Frag} {x : List α} {v : V} {W A : Wd} (h : (kNw K x).p A v W) : (kSh K x).p A v W := by
  obtain ⟨f, o, _⟩ := h
  exact own_sh o
theorem e_varS [Rp α] {x : List α} {pin : Option V} (i : Nat) (h : As[i]? = some (.ow pin x) := by rfl) : Exp c W0 (tVar i) As (kSh c.K x) := fun σ W a W1 e Q q => by
  obtain ⟨v, f, hv, r, _⟩ := a.varO h
  exact ⟨v, hv, q v W1 (Le.refl _) (own_sh (own_up r e))⟩
theorem e_int (i : Int) : Exp c W0 (tC (.int i)) As (kFr c.K i) := fun σ W a W1 e Q q => q _ W1 (Le.refl _) rfl
theorem e_bl (b : Bool) : Exp c W0 (tC (.bl b)) As (kFr c.K b) := fun σ W a W1 e Q q => q _ W1 (Le.refl _) rfl
theorem sok_of {s : Str} (h : (decide (s.length ≤ 16777216) && s.cps.all (· < 0x110000)) = true) : SOk s := by
  rw [Bool.and_eq_true] at h
  exact ⟨by have := of_decide_eq_true h.1; rw [sizeLine_eq]; exact this, h.2⟩
theorem e_str (s : Str) (h : SOk s := by exact sok_of (by decide +kernel)) : Exp c W0 (tC (.str s)) As (kFr c.K s) := fun σ W a W1 e Q q => q _ W1 (Le.refl _) ⟨rfl, h⟩
theorem e_unit : Exp c W0 (tC .non) As (kFr c.K ()) := fun σ W a W1 e Q q => q _ W1 (Le.refl _) rfl
theorem e_nil [Rp α] : Exp c W0 (tLst tNil) As (kNw c.K ([] : List α)) := fun σ W a W1 e Q q =>
  ⟨Nat.zero_le _, fun p hp => q _ (W1.no p _ hp) (Le.no hp) ⟨[p], ⟨p, [], rfl, rfl, W1.sub.nope hp, upd_same, Al.nil, Nat.zero_le _⟩, fun a ha => by rw [List.mem_singleton.mp ha]; exact hp⟩⟩
/-- a new thing is left as it is for good -/
theorem nw_fr [Fz α] {K : Frag} {x : α} {v : V} {A W : Wd} (h : (kNw K x).p A v W) : ∃ W', W'.H = W.H ∧ (Le A W → Le A W') ∧ Inc W.G W'.G ∧ (kFr K x).p A v W' := by
  obtain ⟨f, o, n⟩ := h
  exact ⟨W.fz f, rfl, fun e => e.fz n, Wd.fz_sub, Fz.fz o⟩
theorem e_fz [Fz α] {te : TE} {x : α} (h : Exp c W0 te As (kNw c.K x)) : Exp c W0 te As (kFr c.K x) := fun σ W a W1 e Q q => h σ W a W1 e Q fun v W2 e2 p => by
  obtain ⟨W', eh, le, _, r⟩ := nw_fr p
  rw [← eh]
  exact q v W' (le e2) r
theorem r_fz [Fz α] {te : TE} {m : R α} (h : Exr c W0 X te As m fun x => kNw c.K x) : Exr c W0 X te As m fun x => kFr c.K x := fun σ W a => by
  have h' := h σ W a
  cases m with
  | ok x => exact e_fz (fun σ W a => by exact h σ W a) σ W a
  | ex e => exact h'
  | no => trivial
theorem e_sh [Rp α] {te : TE} {x : List α} (h : Exp c W0 te As (kFr c.K x)) : Exp c W0 te As (kSh c.K x) := exp_w h fun _ _ _ => fr_sh
theorem r_sh [Rp α] {te : TE} {m : R (List α)} (h : Exr c W0 X te As m fun x => kFr c.K x) : Exr c W0 X te As m fun x => kSh c.K x := exr_w h fun _ _ _ _ => fr_sh
theorem e_shQ [Rp α] {te : TE} {x : Sq α} (h : Exp c W0 te As (kFr c.K x)) : Exp c W0 te As (kSh c.K x.l) := exp_w h fun _ _ _ => sq_sh
theorem e_seq [Rp α] {te : TE} {x : List α} (h : Exp c W0 te As (kFr c.K x)) : Exp c W0 te As (kFr c.K (Sq.mk x)) := exp_w h fun _ _ _ => fr_sq
theorem e_shN [Rp α] {te : TE} {x : List α} (h : Exp c W0 te As (kNw c.K x)) : Exp c W0 te As (kSh c.K x) := exp_w h fun _ _ _ => nw_sh
theorem r_shN [Rp α] {te : TE} {m : R (List α)} (h : Exr c W0 X te As m fun x => kNw c.K x) : Exr c W0 X te As m fun x => kSh c.K x := exr_w h fun _ _ _ _ => nw_sh

/-! operators of one and of two places -/
def Op1 (r : V → Hp → VK → Prop) (k1 : α → Kd) (f : α → R γ) (k3 : γ → Kd) : Prop := ∀ x, match f x with
  | .ok z => ∀ (W0 W : Wd) v, (k1 x).p W0 v W → ∀ Q : VK, (∀ u W', Le W W' → (k3 z).p W u W' → Q u W'.H) → r v W.H Q
  | .ex _ => False
  | .no => True
def Op2 (r : R2) (k1 : α → Kd) (k2 : β → Kd) (f : α → β → R γ) (k3 : γ → Kd) : Prop := ∀ x y, match f x y with
  | .ok z => ∀ (W0 W : Wd) v w, (k1 x).p W0 v W → (k2 y).p W0 w W → ∀ Q : VK, (∀ u W', Le W W' → (k3 z).p W u W' → Q u W'.H) → r v w W.H Q
  | .ex _ => False
  | .no => True
theorem e_op1 {r : V → Hp → VK → Prop} {ta : TE} {k1 : α → Kd} {k3 : γ → Kd} {g : α → γ} {x : α} (h : Op1 r k1 (fun x => .ok (g x)) k3) (ha : Exp c W0 ta As (k1 x)) {k : Kd} (hk : k3 (g x) = k) : Exp c W0 (tUn r ta) As k := hk ▸ fun σ W a W1 e Q q =>
  ha σ W a W1 e _ fun v W2 e2 p => h x _ _ v p Q fun u W3 e3 p3 => q u W3 (e2.trans e3) ((k3 (g x)).dn e2 p3)
theorem r_op1 {r : V → Hp → VK → Prop} {ta : TE} {k1 : α → Kd} {k3 : γ → Kd} {f : α → R γ} {m : R α} (h : Op1 r k1 f k3) (ha : Exr c W0 X ta As m k1) : Exr c W0 X (tUn r ta) As (m.bind f) k3 := fun σ W a => by
  have ha' := ha σ W a
  cases m with
  | no => trivial
  | ex e => exact fun W1 e1 Q q => ha' W1 e1 _ q
  | ok x =>
    have h' := h x
    show SatR (f x) _ _
    cases hf : f x with
    | no => trivial
    | ex e => rw [hf] at h'; exact h'.elim
    | ok z =>
      rw [hf] at h'
      exact fun W1 e Q q => ha' W1 e _ fun v W2 e2 p => h' _ _ v p Q fun u W3 e3 p3 => q u W3 (e2.trans e3) ((k3 z).dn e2 p3)
theorem e_op2 {r : R2} {ta tb : TE} {k1 : α → Kd} {k2 : β → Kd} {k3 : γ → Kd} {g : α → β → γ} {x : α} {y : β} (h : Op2 r k1 k2 (fun x y => .ok (g x y)) k3) (ha : Exp c W0 ta As (k1 x)) (hb : Exp c W0 tb As (k2 y)) {k : Kd} (hk : k3 (g x y) = k) : Exp c W0 (tOp r ta tb) As k := hk ▸ fun σ W a W1 e Q q =>
  ha σ W a W1 e _ fun v W2 e2 p => hb σ W a W2 (e.trans e2) _ fun w W3 e3 p3 => h x y W1 W3 v w ((k1 x).up p e3) ((k2 y).dn e2 p3) Q fun u W4 e4 p4 => q u W4 (e2.trans (e3.trans e4)) ((k3 (g x y)).dn (e2.trans e3) p4)
theorem r_op2 {r : R2} {ta tb : TE} {k1 : α → Kd} {k2 : β → Kd} {k3 : γ → Kd} {f : α → β → R γ} {m : R α} {n : R β} (h : Op2 r k1 k2 f k3) (ha : Exr c W0 X ta As m k1) (hb : Exr c W0 X tb As n k2) :
    Exr c W0 X (tOp r ta tb) As (m.bind fun x => n.bind fun y => f x y) k3 := fun σ W a => by
  have ha' := ha σ W a
  have hb' := hb σ W a
  cases m with
  | no => trivial
  | ex e => exact fun W1 e1 Q q => ha' W1 e1 _ q
  | ok x =>
    cases n with
    | no => trivial
    | ex e => exact fun W1 e1 Q q => ha' W1 e1 _ fun v W2 e2 p => hb' W2 (e1.trans e2) _ fun cls d W3 e3 z => q cls d W3 (e2.trans e3) z
    | ok y =>
      have h' := h x y
      show SatR (f x y) _ _
      cases hf : f x y with
      | no => trivial
      | ex e => rw [hf] at h'; exact h'.elim
      | ok z =>
        rw [hf] at h'
        exact fun W1 e Q q => ha' W1 e _ fun v W2 e2 p => hb' W2 (e.trans e2) _ fun w W3 e3 p3 => h' W1 W3 v w ((k1 x).up p e3) ((k2 y).dn e2 p3) Q fun u W4 e4 p4 => q u W4 (e2.trans (e3.trans e4)) ((k3 z).dn (e2.trans e3) p4)
/-! arguments -/
structure KdA where
  p : Wd → List V → Wd → Prop
  up : ∀ {A B C : Wd} {v : List V}, p A v B → Le B C → p A v C
  dn : ∀ {A B C : Wd} {v : List V}, Le A B → p B v C → p A v C
def aNil : KdA := ⟨fun _ vs _ => vs = [], fun h _ => h, fun _ h => h⟩
def aCons (k : Kd) (ks : KdA) : KdA := ⟨fun A vs W => ∃ v r, vs = v :: r ∧ k.p A v W ∧ ks.p A r W, fun ⟨v, r, e, a, b⟩ q => ⟨v, r, e, k.up a q, ks.up b q⟩, fun q ⟨v, r, e, a, b⟩ => ⟨v, r, e, k.dn q a, ks.dn q b⟩⟩
def EvA (ta : TA) (σ : St) (W : Wd) (k : KdA) : Prop := ∀ W1, Le W W1 → ∀ Q : List V → Hp → Prop, (∀ v W2, Le W1 W2 → k.p W1 v W2 → Q v W2.H) → ta σ W1.H Q
def RzA (c : Cn) (X : WX) (ta : TA) (σ : St) (W : Wd) (e : Exc) : Prop := ∀ W1, Le W W1 → ∀ Q, (∀ cls d W2, Le W1 W2 → ExAt c.M e cls d W2 → X cls d σ W2.H) → ta σ W1.H Q
def Axp (c : Cn) (W0 : Wd) (ta : TA) (As : List Sl) (k : KdA) : Prop := ∀ σ W, At c.K W0 As σ W → EvA ta σ W k
def Axr (c : Cn) (W0 : Wd) (X : WX) (ta : TA) (As : List Sl) (m : R τ) (k : τ → KdA) : Prop := ∀ σ W, At c.K W0 As σ W → SatR m (fun x => EvA ta σ W (k x)) (RzA c X ta σ W)
theorem axr_p {ta : TA} {x : τ} {k : τ → KdA} (h : Axp c W0 ta As (k x)) : Axr c W0 X ta As (.ok x) k := h
theorem a_nil : Axp c W0 tNil As aNil := fun σ W a W1 e Q q => q [] W1 (Le.refl _) rfl
theorem a_cons {te : TE} {ta : TA} {k : Kd} {ks : KdA} (h : Exp c W0 te As k) (hr : Axp c W0 ta As ks) : Axp c W0 (tCons te ta) As (aCons k ks) := fun σ W a W1 e Q q =>
  h σ W a W1 e _ fun v W2 e2 p => hr σ W a W2 (e.trans e2) _ fun vs W3 e3 ps => q _ W3 (e2.trans e3) ⟨v, vs, rfl, k.up p e3, ks.dn e2 ps⟩
theorem ar_cons {te : TE} {ta : TA} {m : R α} {n : R τ} {k : α → Kd} {ks : τ → KdA} (h : Exr c W0 X te As m k) (hr : Axr c W0 X ta As n ks) :
    Axr c W0 X (tCons te ta) As (m.bind fun x => n.bind fun y => .ok (x, y)) (fun z => aCons (k z.1) (ks z.2)) := fun σ W a => by
  have h' := h σ W a
  have hr' := hr σ W a
  cases m with
  | no => trivial
  | ex e => exact fun W1 e1 Q q => h' W1 e1 _ q
  | ok x =>
    cases n with
    | no => trivial
    | ex e => exact fun W1 e1 Q q => h' W1 e1 _ fun v W2 e2 p => hr' W2 (e1.trans e2) _ fun cls d W3 e3 z => q cls d W3 (e2.trans e3) z
    | ok y => exact fun W1 e Q q => h' W1 e _ fun v W2 e2 p => hr' W2 (e.trans e2) _ fun vs W3 e3 ps => q _ W3 (e2.trans e3) ⟨v, vs, rfl, (k x).up p e3, (ks y).dn e2 ps⟩
/-- what is reckoned of arguments -/
def OpA (r : List V → Hp → VK → Prop) (ks : τ → KdA) (f : τ → R γ) (k3 : γ → Kd) : Prop := ∀ x, match f x with
  | .ok z => ∀ (W0 W : Wd) vs, (ks x).p W0 vs W → ∀ Q : VK, (∀ u W', Le W W' → (k3 z).p W u W' → Q u W'.H) → r vs W.H Q
  | .ex _ => False
  | .no => True
/-- any reading that goes by its arguments -/
theorem e_opA {r : List V → Hp → VK → Prop} {ta : TA} {ks : τ → KdA} {k3 : γ → Kd} {g : τ → γ} {x : τ} (h : OpA r ks (fun x => .ok (g x)) k3) (ha : Axp c W0 ta As (ks x)) {k : Kd} (hk : k3 (g x) = k) : Exp c W0 (fun σ H Q => ta σ H fun vs H1 => r vs H1 Q) As k := hk ▸ fun σ W a W1 e Q q =>
  ha σ W a W1 e _ fun v W2 e2 p => h x _ _ v p Q fun u W3 e3 p3 => q u W3 (e2.trans e3) ((k3 (g x)).dn e2 p3)
theorem r_opA {r : List V → Hp → VK → Prop} {ta : TA} {ks : τ → KdA} {k3 : γ → Kd} {f : τ → R γ} {m : R τ} (h : OpA r ks f k3) (ha : Axr c W0 X ta As m ks) : Exr c W0 X (fun σ H Q => ta σ H fun vs H1 => r vs H1 Q) As (m.bind f) k3 := fun σ W a => by
  have ha' := ha σ W a
  cases m with
  | no => trivial
  | ex e => exact fun W1 e1 Q q => ha' W1 e1 _ q
  | ok x =>
    have h' := h x
    show SatR (f x) _ _
    cases hf : f x with
    | no => trivial
    | ex e => rw [hf] at h'; exact h'.elim
    | ok z =>
      rw [hf] at h'
      exact fun W1 e Q q => ha' W1 e _ fun v W2 e2 p => h' _ _ v p Q fun u W3 e3 p3 => q u W3 (e2.trans e3) ((k3 z).dn e2 p3)
/-! displays of tuples and lists -/
theorem e_pair [Rp α] [Rp β] {ta : TA} {x : α} {y : β} (h : Axp c W0 ta As (aCons (kFr c.K x) (aCons (kFr c.K y) aNil))) : Exp c W0 (tTup ta) As (kFr c.K (x, y)) := fun σ W a W1 e Q q =>
  h σ W a W1 e _ fun vs W2 e2 ⟨v, r, ev, p1, w, r2, ew, p2, en⟩ => by
    subst ev ew en
    exact ⟨by show 2 ≤ sizeLine; decide, fun p hp => q _ (W2.nf p _) (e2.trans (Le.nf hp)) ⟨p, v, w, rfl, .inl (.inl upd_same), Rp.mono (Le.nf hp).g p1, Rp.mono (Le.nf hp).g p2⟩⟩
theorem rz_tup {ta : TA} {σ : St} {W : Wd} {e : Exc} (h : RzA c X ta σ W e) : Rz c X (tTup ta) σ W e := fun W1 e1 Q q => h W1 e1 _ q
theorem rz_lst {ta : TA} {σ : St} {W : Wd} {e : Exc} (h : RzA c X ta σ W e) : Rz c X (tLst ta) σ W e := fun W1 e1 Q q => h W1 e1 _ q
/-- a reading over arguments lifts -/
theorem r_ofA {ta : TA} {m : R τ} {g : τ → γ} {ks : τ → KdA} {k : γ → Kd} {te : TA → TE} (ha : Axr c W0 X ta As m ks) (h : ∀ x, m = .ok x → Axp c W0 ta As (ks x) → Exp c W0 (te ta) As (k (g x)))
    (hz : ∀ σ W e, RzA c X ta σ W e → Rz c X (te ta) σ W e) : Exr c W0 X (te ta) As (m.bind fun x => .ok (g x)) k := fun σ W a => by
  cases m with
  | no => trivial
  | ex e => exact hz σ W e (ha σ W a)
  | ok x => exact h x rfl (fun σ W a => ha σ W a) σ W a
theorem r_pair [Rp α] [Rp β] {ta : TA} {m : R (α × β × Unit)} (h : Axr c W0 X ta As m fun z => aCons (kFr c.K z.1) (aCons (kFr c.K z.2.1) aNil)) : Exr c W0 X (tTup ta) As (m.bind fun z => .ok (z.1, z.2.1)) fun x => kFr c.K x :=
  r_ofA (te := tTup) h (fun x _ h' => e_pair h') fun _ _ _ => rz_tup
theorem e_t3 [Rp α] [Rp β] [Rp γ] {ta : TA} {x : α} {y : β} {z : γ} (h : Axp c W0 ta As (aCons (kFr c.K x) (aCons (kFr c.K y) (aCons (kFr c.K z) aNil)))) : Exp c W0 (tTup ta) As (kFr c.K (T3.mk x y z)) := fun σ W a W1 e Q q =>
  h σ W a W1 e _ fun vs W2 e2 ⟨v, r, ev, p1, w, r2, ew, p2, u, r3, eu, p3, en⟩ => by
    subst ev ew eu en
    exact ⟨by show 3 ≤ sizeLine; decide, fun p hp => q _ (W2.nf p _) (e2.trans (Le.nf hp)) ⟨p, v, w, u, rfl, .inl (.inl upd_same), Rp.mono (Le.nf hp).g p1, Rp.mono (Le.nf hp).g p2, Rp.mono (Le.nf hp).g p3⟩⟩
theorem r_t3 [Rp α] [Rp β] [Rp γ] {ta : TA} {m : R (α × β × γ × Unit)} (h : Axr c W0 X ta As m fun z => aCons (kFr c.K z.1) (aCons (kFr c.K z.2.1) (aCons (kFr c.K z.2.2.1) aNil))) : Exr c W0 X (tTup ta) As (m.bind fun z => .ok (T3.mk z.1 z.2.1 z.2.2.1)) fun x => kFr c.K x :=
  r_ofA (te := tTup) h (fun x _ h' => e_t3 h') fun _ _ _ => rz_tup
theorem e_t4 [Rp α] [Rp β] [Rp γ] [Rp δ] {ta : TA} {x : α} {y : β} {z : γ} {t : δ} (h : Axp c W0 ta As (aCons (kFr c.K x) (aCons (kFr c.K y) (aCons (kFr c.K z) (aCons (kFr c.K t) aNil))))) : Exp c W0 (tTup ta) As (kFr c.K (T4.mk x y z t)) := fun σ W a W1 e Q q =>
  h σ W a W1 e _ fun vs W2 e2 ⟨v, r, ev, p1, w, r2, ew, p2, u, r3, eu, p3, t', r4, et, p4, en⟩ => by
    subst ev ew eu et en
    exact ⟨by show 4 ≤ sizeLine; decide, fun p hp => q _ (W2.nf p _) (e2.trans (Le.nf hp)) ⟨p, v, w, u, t', rfl, .inl (.inl upd_same), Rp.mono (Le.nf hp).g p1, Rp.mono (Le.nf hp).g p2, Rp.mono (Le.nf hp).g p3, Rp.mono (Le.nf hp).g p4⟩⟩
theorem r_t4 [Rp α] [Rp β] [Rp γ] [Rp δ] {ta : TA} {m : R (α × β × γ × δ × Unit)} (h : Axr c W0 X ta As m fun z => aCons (kFr c.K z.1) (aCons (kFr c.K z.2.1) (aCons (kFr c.K z.2.2.1) (aCons (kFr c.K z.2.2.2.1) aNil)))) :
    Exr c W0 X (tTup ta) As (m.bind fun z => .ok (T4.mk z.1 z.2.1 z.2.2.1 z.2.2.2.1)) fun x => kFr c.K x :=
  r_ofA (te := tTup) h (fun x _ h' => e_t4 h') fun _ _ _ => rz_tup
/-- all arguments of one kind -/
def aAll (k : α → Kd) : List α → KdA
  | [] => aNil
  | x :: xs => aCons (k x) (aAll k xs)
theorem aAll_al [Rp α] {K : Frag} : ∀ {xs : List α} {A B : Wd} {vs : List V}, (aAll (fun x => kFr K x) xs).p A vs B → Al (fun x v => Rp.rep K x v B.G) xs vs
  | [], _, _, _, h => by cases h; exact Al.nil
  | x :: xs, _, _, _, ⟨v, r, e, p, q⟩ => by subst e; exact Al.cons p (aAll_al q)
theorem szl {xs : List α} {n : Nat} (h : xs.length = n) (hn : n ≤ 1000) : xs.length ≤ sizeLine := by
  rw [h, sizeLine_eq]
  omega
theorem e_lst [Rp α] {ta : TA} {xs : List α} (h : Axp c W0 ta As (aAll (fun x => kFr c.K x) xs)) (hl : xs.length ≤ sizeLine) : Exp c W0 (tLst ta) As (kNw c.K xs) := fun σ W a W1 e Q q =>
  h σ W a W1 e _ fun vs W2 e2 ps => by
    have al := aAll_al ps
    exact ⟨al.1 ▸ hl, fun p hp => q _ (W2.no p _ hp) (e2.trans (Le.no hp)) ⟨[p], ⟨p, vs, rfl, rfl, W2.sub.nope hp, upd_same, al, hl⟩, fun b hb => by rw [List.mem_singleton.mp hb]; exact e2.fr hp⟩⟩
theorem e_tupl [Rp α] {ta : TA} {xs : List α} (h : Axp c W0 ta As (aAll (fun x => kFr c.K x) xs)) (hl : xs.length ≤ sizeLine) : Exp c W0 (tTup ta) As (kFr c.K (Tup.mk xs)) := fun σ W a W1 e Q q =>
  h σ W a W1 e _ fun vs W2 e2 ps => by
    have al := aAll_al ps
    exact ⟨al.1 ▸ hl, fun p hp => q _ (W2.nf p _) (e2.trans (Le.nf hp)) ⟨p, vs, rfl, .inl (.inl upd_same), al.imp fun _ _ r => Rp.mono (Le.nf hp).g r, hl⟩⟩
theorem r_lst [Rp α] {ta : TA} {m : R τ} {g : τ → List α} {ks : τ → KdA} (h : Axr c W0 X ta As m ks) (hk : ∀ z, ks z = aAll (fun x => kFr c.K x) (g z)) (hl : ∀ z, (g z).length ≤ sizeLine) : Exr c W0 X (tLst ta) As (m.bind fun z => .ok (g z)) fun x => kNw c.K x :=
  r_ofA (te := tLst) h (fun x _ h' => e_lst (by rw [← hk]; exact h') (hl x)) fun _ _ _ => rz_lst
/-! tests -/
theorem t_e {te : TE} {b : Bool} (h : Exp c W0 te As (kFr c.K b)) : Txp c W0 (tTest te) As b := fun σ W a W1 e Q q => h σ W a W1 e _ fun v W2 e2 p => ⟨b, p, q W2 e2⟩
theorem tr_e {te : TE} {m : R Bool} (h : Exr c W0 X te As m fun b => kFr c.K b) : Txr c W0 X (tTest te) As m := fun σ W a => by
  have h' := h σ W a
  cases m with
  | no => trivial
  | ex e => exact fun W1 e1 Q q => h' W1 e1 _ q
  | ok b => exact fun W1 e Q q => h' W1 e _ fun v W2 e2 p => ⟨b, p, q W2 e2⟩
theorem t_B {te : TE} {b : Bool} (h : Exp c W0 te As (kFr c.K b)) : Txp c W0 (tB te) As b := fun σ W a W1 e Q q => h σ W a W1 e _ fun v W2 e2 p => ⟨b, p, q W2 e2⟩
theorem tr_B {te : TE} {m : R Bool} (h : Exr c W0 X te As m fun b => kFr c.K b) : Txr c W0 X (tB te) As m := fun σ W a => by
  have h' := h σ W a
  cases m with
  | no => trivial
  | ex e => exact fun W1 e1 Q q => h' W1 e1 _ q
  | ok b => exact fun W1 e Q q => h' W1 e _ fun v W2 e2 p => ⟨b, p, q W2 e2⟩
theorem t_not {t : TT} {b : Bool} (h : Txp c W0 t As b) : Txp c W0 (tNot t) As (!b) := fun σ W a W1 e Q q => h σ W a W1 e _ fun W2 e2 => q W2 e2
theorem tr_not {t : TT} {m : R Bool} (h : Txr c W0 X t As m) : Txr c W0 X (tNot t) As (m.bind fun b => .ok (!b)) := fun σ W a => by
  have h' := h σ W a
  cases m with
  | no => trivial
  | ex e => exact fun W1 e1 Q q => h' W1 e1 _ q
  | ok b => exact fun W1 e Q q => h' W1 e _ fun W2 e2 => q W2 e2
theorem t_and {t u : TT} {a b : Bool} (h : Txp c W0 t As a) (h2 : Txp c W0 u As b) : Txp c W0 (tAnd t u) As (a && b) := fun σ W at_ W1 e Q q => h σ W at_ W1 e _ fun W2 e2 => by
  cases a with
  | true => exact h2 σ W at_ W2 (e.trans e2) Q fun W3 e3 => q W3 (e2.trans e3)
  | false => exact q W2 e2
theorem t_or {t u : TT} {a b : Bool} (h : Txp c W0 t As a) (h2 : Txp c W0 u As b) : Txp c W0 (tOr t u) As (a || b) := fun σ W at_ W1 e Q q => h σ W at_ W1 e _ fun W2 e2 => by
  cases a with
  | false => exact h2 σ W at_ W2 (e.trans e2) Q fun W3 e3 => q W3 (e2.trans e3)
  | true => exact q W2 e2
theorem tr_and {t u : TT} {m n : R Bool} (h : Txr c W0 X t As m) (h2 : Txr c W0 X u As n) : Txr c W0 X (tAnd t u) As (m.and n) := fun σ W a => by
  have h' := h σ W a
  have h2' := h2 σ W a
  cases m with
  | no => trivial
  | ex e => exact fun W1 e1 Q q => h' W1 e1 _ q
  | ok b =>
    cases b with
    | false => exact fun W1 e Q q => h' W1 e _ fun W2 e2 => q W2 e2
    | true =>
      show SatR (n) _ _
      cases n with
      | no => trivial
      | ex e => exact fun W1 e1 Q q => h' W1 e1 _ fun W2 e2 => h2' W2 (e1.trans e2) _ fun cls d W3 e3 z => q cls d W3 (e2.trans e3) z
      | ok b => exact fun W1 e Q q => h' W1 e _ fun W2 e2 => h2' W2 (e.trans e2) Q fun W3 e3 => q W3 (e2.trans e3)
theorem tr_or {t u : TT} {m n : R Bool} (h : Txr c W0 X t As m) (h2 : Txr c W0 X u As n) : Txr c W0 X (tOr t u) As (m.or n) := fun σ W a => by
  have h' := h σ W a
  have h2' := h2 σ W a
  cases m with
  | no => trivial
  | ex e => exact fun W1 e1 Q q => h' W1 e1 _ q
  | ok b =>
    cases b with
    | true => exact fun W1 e Q q => h' W1 e _ fun W2 e2 => q W2 e2
    | false =>
      show SatR (n) _ _
      cases n with
      | no => trivial
      | ex e => exact fun W1 e1 Q q => h' W1 e1 _ fun W2 e2 => h2' W2 (e1.trans e2) _ fun cls d W3 e3 z => q cls d W3 (e2.trans e3) z
      | ok b => exact fun W1 e Q q => h' W1 e _ fun W2 e2 => h2' W2 (e.trans e2) Q fun W3 e3 => q W3 (e2.trans e3)
/-! and, or, not, if as values -/
theorem e_andV {ta tb : TE} {a b : Bool} (h : Exp c W0 ta As (kFr c.K a)) (h2 : Exp c W0 tb As (kFr c.K b)) : Exp c W0 (tAndV ta tb) As (kFr c.K (a && b)) := fun σ W at_ W1 e Q q => h σ W at_ W1 e _ fun v W2 e2 p => ⟨a, p, by
  cases a with
  | true => exact h2 σ W at_ W2 (e.trans e2) Q fun w W3 e3 p3 => q w W3 (e2.trans e3) p3
  | false => exact q _ W2 e2 rfl⟩
theorem e_orV {ta tb : TE} {a b : Bool} (h : Exp c W0 ta As (kFr c.K a)) (h2 : Exp c W0 tb As (kFr c.K b)) : Exp c W0 (tOrV ta tb) As (kFr c.K (a || b)) := fun σ W at_ W1 e Q q => h σ W at_ W1 e _ fun v W2 e2 p => ⟨a, p, by
  cases a with
  | false => exact h2 σ W at_ W2 (e.trans e2) Q fun w W3 e3 p3 => q w W3 (e2.trans e3) p3
  | true => exact q _ W2 e2 rfl⟩
theorem r_andV {ta tb : TE} {m n : R Bool} (h : Exr c W0 X ta As m fun b => kFr c.K b) (h2 : Exr c W0 X tb As n fun b => kFr c.K b) : Exr c W0 X (tAndV ta tb) As (m.and n) fun b => kFr c.K b := fun σ W a => by
  have h' := h σ W a
  have h2' := h2 σ W a
  cases m with
  | no => trivial
  | ex e => exact fun W1 e1 Q q => h' W1 e1 _ q
  | ok b =>
    cases b with
    | false => exact fun W1 e Q q => h' W1 e _ fun v W2 e2 p => ⟨false, p, q _ W2 e2 rfl⟩
    | true =>
      show SatR (n) _ _
      cases n with
      | no => trivial
      | ex e => exact fun W1 e1 Q q => h' W1 e1 _ fun v W2 e2 p => ⟨true, p, h2' W2 (e1.trans e2) _ fun cls d W3 e3 z => q cls d W3 (e2.trans e3) z⟩
      | ok b => exact fun W1 e Q q => h' W1 e _ fun v W2 e2 p => ⟨true, p, h2' W2 (e.trans e2) Q fun w W3 e3 p3 => q w W3 (e2.trans e3) p3⟩
theorem r_orV {ta tb : TE} {m n : R Bool} (h : Exr c W0 X ta As m fun b => kFr c.K b) (h2 : Exr c W0 X tb As n fun b => kFr c.K b) : Exr c W0 X (tOrV ta tb) As (m.or n) fun b => kFr c.K b := fun σ W a => by
  have h' := h σ W a
  have h2' := h2 σ W a
  cases m with
  | no => trivial
  | ex e => exact fun W1 e1 Q q => h' W1 e1 _ q
  | ok b =>
    cases b with
    | true => exact fun W1 e Q q => h' W1 e _ fun v W2 e2 p => ⟨true, p, q _ W2 e2 rfl⟩
    | false =>
      show SatR (n) _ _
      cases n with
      | no => trivial
      | ex e => exact fun W1 e1 Q q => h' W1 e1 _ fun v W2 e2 p => ⟨false, p, h2' W2 (e1.trans e2) _ fun cls d W3 e3 z => q cls d W3 (e2.trans e3) z⟩
      | ok b => exact fun W1 e Q q => h' W1 e _ fun v W2 e2 p => ⟨false, p, h2' W2 (e.trans e2) Q fun w W3 e3 p3 => q w W3 (e2.trans e3) p3⟩
theorem e_notV {ta : TE} {a : Bool} (h : Exp c W0 ta As (kFr c.K a)) : Exp c W0 (tNotV ta) As (kFr c.K (!a)) := fun σ W at_ W1 e Q q => h σ W at_ W1 e _ fun v W2 e2 p => ⟨a, p, q _ W2 e2 rfl⟩
theorem r_notV {ta : TE} {m : R Bool} (h : Exr c W0 X ta As m fun b => kFr c.K b) : Exr c W0 X (tNotV ta) As (m.bind fun b => .ok (!b)) fun b => kFr c.K b := fun σ W a => by
  have h' := h σ W a
  cases m with
  | no => trivial
  | ex e => exact fun W1 e1 Q q => h' W1 e1 _ q
  | ok b => exact fun W1 e Q q => h' W1 e _ fun v W2 e2 p => ⟨b, p, q _ W2 e2 rfl⟩
theorem e_if {t : TT} {ta tb : TE} {b : Bool} {k : α → Kd} {x y : α} (ht : Txp c W0 t As b) (h : Exp c W0 ta As (k x)) (h2 : Exp c W0 tb As (k y)) {k' : Kd} (hk : k (if b then x else y) = k') : Exp c W0 (tIf t ta tb) As k' := hk ▸ fun σ W at_ W1 e Q q => ht σ W at_ W1 e _ fun W2 e2 => by
  cases b with
  | true => exact h σ W at_ W2 (e.trans e2) Q fun w W3 e3 p3 => q w W3 (e2.trans e3) ((k x).dn e2 p3)
  | false => exact h2 σ W at_ W2 (e.trans e2) Q fun w W3 e3 p3 => q w W3 (e2.trans e3) ((k y).dn e2 p3)
theorem r_if {t : TT} {ta tb : TE} {m : R Bool} {a b : R α} {k : α → Kd} (ht : Txr c W0 X t As m) (h : Exr c W0 X ta As a k) (h2 : Exr c W0 X tb As b k) : Exr c W0 X (tIf t ta tb) As (m.ite a b) k := fun σ W at_ => by
  have t' := ht σ W at_
  have h' := h σ W at_
  have h2' := h2 σ W at_
  cases m with
  | no => trivial
  | ex e => exact fun W1 e1 Q q => t' W1 e1 _ q
  | ok z =>
    cases z with
    | true =>
      show SatR (a) _ _
      cases a with
      | no => trivial
      | ex e => exact fun W1 e1 Q q => t' W1 e1 _ fun W2 e2 => h' W2 (e1.trans e2) _ fun cls d W3 e3 z => q cls d W3 (e2.trans e3) z
      | ok x => exact fun W1 e Q q => t' W1 e _ fun W2 e2 => h' W2 (e.trans e2) Q fun w W3 e3 p3 => q w W3 (e2.trans e3) ((k x).dn e2 p3)
    | false =>
      show SatR (b) _ _
      cases b with
      | no => trivial
      | ex e => exact fun W1 e1 Q q => t' W1 e1 _ fun W2 e2 => h2' W2 (e1.trans e2) _ fun cls d W3 e3 z => q cls d W3 (e2.trans e3) z
      | ok x => exact fun W1 e Q q => t' W1 e _ fun W2 e2 => h2' W2 (e.trans e2) Q fun w W3 e3 p3 => q w W3 (e2.trans e3) ((k x).dn e2 p3)
end
end Fw

namespace Fw
open PySem L2
inductive Out (S J ρ : Type) where
  | nx (s : S)
  | rt (r : ρ)
  | bk (j : J)
  | ct (j : J)
  | ex (e : Exc)
  | no
namespace Out
variable {S T J ρ α : Type}
def bind (m : Out S J ρ) (k : S → Out T J ρ) : Out T J ρ := match m with
  | .nx s => k s
  | .rt r => .rt r
  | .bk j => .bk j
  | .ct j => .ct j
  | .ex e => .ex e
  | .no => .no
@[simp] theorem bind_nx (s : S) (k : S → Out T J ρ) : (Out.nx s : Out S J ρ).bind k = k s := rfl
@[simp] theorem bind_rt (r : ρ) (k : S → Out T J ρ) : (Out.rt r : Out S J ρ).bind k = .rt r := rfl
@[simp] theorem bind_bk (r : J) (k : S → Out T J ρ) : (Out.bk r : Out S J ρ).bind k = .bk r := rfl
@[simp] theorem bind_ct (r : J) (k : S → Out T J ρ) : (Out.ct r : Out S J ρ).bind k = .ct r := rfl
@[simp] theorem bind_ex (r : Exc) (k : S → Out T J ρ) : (Out.ex r : Out S J ρ).bind k = .ex r := rfl
@[simp] theorem bind_no (k : S → Out T J ρ) : (Out.no : Out S J ρ).bind k = .no := rfl
end Out
/-- go on with what was reckoned -/
def R.to {α S J ρ : Type} (m : R α) (k : α → Out S J ρ) : Out S J ρ := match m with
  | .ok x => k x
  | .ex e => .ex e
  | .no => .no
section
variable {α S J ρ : Type}
@[simp] theorem R.to_ok (x : α) (k : α → Out S J ρ) : (R.ok x).to k = k x := rfl
@[simp] theorem R.to_no (k : α → Out S J ρ) : (R.no : R α).to k = .no := rfl
@[simp] theorem R.to_ex (e : Exc) (k : α → Out S J ρ) : (R.ex e : R α).to k = .ex e := rfl
/-- a def's end: what it hands back -/
def Out.fin (m : Out Unit Unit ρ) (d : Unit → R ρ) : R ρ := match m with
  | .nx s => d s
  | .rt r => .ok r
  | _ => .no
/-- a def all of whose ways return -/
def Out.run (m : Out Unit Unit ρ) : R ρ := match m with
  | .rt r => .ok r
  | _ => .no
/-- .. and that may raise -/
def Out.runX (m : Out Unit Unit ρ) : R ρ := match m with
  | .rt r => .ok r
  | .ex e => .ex e
  | _ => .no
theorem Out.run_ne (m : Out Unit Unit ρ) (e : Exc) : m.run ≠ .ex e := by
  cases m <;> exact fun z => nomatch z
theorem Out.fin_ne {d : Unit → R ρ} (hd : ∀ s e, d s ≠ .ex e) (m : Out Unit Unit ρ) (e : Exc) : m.fin d ≠ .ex e := by
  cases m with
  | nx s => exact hd s e
  | _ => exact fun z => nomatch z
@[simp] theorem Out.run_rt (r : ρ) : (Out.rt r : Out Unit Unit ρ).run = .ok r := rfl
@[simp] theorem Out.run_ex (e : Exc) : (Out.ex e : Out Unit Unit ρ).run = .no := rfl
@[simp] theorem Out.run_no : (Out.no : Out Unit Unit ρ).run = .no := rfl
def lt {β : Type} (x : α) (k : α → β) : β := k x
def lt2 {β γ : Type} (x : α × β) (k : α → β → γ) : γ := k x.1 x.2
def R.to2 {β : Type} (m : R (α × β)) (k : α → β → Out S J ρ) : Out S J ρ := m.to fun z => k z.1 z.2
def R.toS {β : Type} (m : R (β × α)) (k : α → Out S J ρ) : Out S J ρ := m.to fun z => k z.2
@[simp] theorem R.to2_ok {β : Type} (x : α × β) (k : α → β → Out S J ρ) : (R.ok x).to2 k = k x.1 x.2 := rfl
@[simp] theorem R.toS_ok {β : Type} (x : β × α) (k : α → Out S J ρ) : (R.ok x).toS k = k x.2 := rfl
def forL : List α → S → (S → α → Out S S ρ) → Out S J ρ
  | [], s, _ => .nx s
  | x :: xs, s, f => match f s x with
    | .nx s' => forL xs s' f
    | .ct s' => forL xs s' f
    | .bk s' => .nx s'
    | .rt r => .rt r
    | .ex e => .ex e
    | .no => .no
def whileF : Nat → S → (S → R Bool) → (S → Out S S ρ) → Out S J ρ
  | 0, _, _, _ => .no
  | n + 1, s, c, f => match c s with
    | .ok true => match f s with
      | .nx s' => whileF n s' c f
      | .ct s' => whileF n s' c f
      | .bk s' => .nx s'
      | .rt r => .rt r
      | .ex e => .ex e
      | .no => .no
    | .ok false => .nx s
    | .ex e => .ex e
    | .no => .no
end
/-- the grounds of a block: its own, the def's, that of what is raised -/
structure Bd where
  W0 : Wd
  Wo : Wd
  We : Wd
  le : Le Wo W0
  lx : Le We W0
def Bd.re (B : Bd) (W1 : Wd) (e : Le B.W0 W1) : Bd := ⟨W1, B.Wo, B.We, B.le.trans e, B.lx.trans e⟩
section
variable {J S T U ρ α β γ : Type} {c : Cn} {X : WX} {kr : ρ → Kd} {Ls : List Sl} {Js : J → List Sl} {B : Bd} {As Bs' : List Sl} {Bs : S → List Sl} {Cs : T → List Sl}
def Fin (c : Cn) (X : WX) (kr : ρ → Kd) (Ls : List Sl) (Js : J → List Sl) (B : Bd) (Bs : S → List Sl) (D : Ends) (m : Out S J ρ) : Prop := match m with
  | .nx s => ∀ σ W, At c.K B.W0 (Bs s) σ W → D.nx σ W.H
  | .rt r => ∀ v W, Le B.W0 W → (kr r).p B.Wo v W → D.rt v W.H
  | .bk j => ∀ σ W, At c.K B.W0 (Js j) σ W → D.bk σ W.H
  | .ct j => ∀ σ W, At c.K B.W0 (Js j) σ W → D.ct σ W.H
  | .ex e => ∀ cls d σ W, At c.K B.We Ls σ W → ExAt c.M e cls d W → X cls d σ W.H
  | .no => False
def Den (c : Cn) (X : WX) (kr : ρ → Kd) (Ls : List Sl) (Js : J → List Sl) (B : Bd) (t : TS) (As : List Sl) (m : Out S J ρ) (Bs : S → List Sl) : Prop := ∀ D σ W, At c.K B.W0 As σ W → Fin c X kr Ls Js B Bs D m → t D σ W.H
/-- what may leave the block where the slots are so -/
abbrev Lx (Ls : List Sl) (As : List Sl) : Prop := Wk As Ls
theorem lx_at {K : Frag} {W : Wd} {σ : St} (h : Lx Ls As) (a : At K B.W0 As σ W) : At K B.We Ls σ W := (a.wk h).re B.lx
theorem At.setF [Rp α] {K : Frag} {W0 W : Wd} {σ : St} {x : α} {v : V} {i : Nat} (h : At K W0 As σ W) (r : Rp.rep K x v W.G) : At K W0 (As.set i (.fr x)) (σ.set i (some v)) W := h.set ⟨v, rfl, r⟩
theorem d_seq {t u : TS} {m : Out S J ρ} {k : S → Out T J ρ} (h : Den c X kr Ls Js B t As m Bs) (hk : ∀ s, Den c X kr Ls Js B u (Bs s) (k s) Cs) : Den c X kr Ls Js B (tSeq t u) As (m.bind k) Cs := fun D σ W a f => by
  refine h { D with nx := u D } σ W a ?_
  cases m with
  | nx s => exact fun σ' W' a' => hk s D σ' W' a' f
  | _ => exact f
theorem d_wk {t : TS} {m : Out S J ρ} (w : Wk As Bs') (h : Den c X kr Ls Js B t Bs' m Bs) : Den c X kr Ls Js B t As m Bs := fun D σ W a f => h D σ W (a.wk w) f
theorem d_nx {s : S} (w : Wk As (Bs s)) : Den c X kr Ls Js B tNext As (.nx s) Bs := fun D σ W a f => f σ W (a.wk w)
theorem d_bk {j : J} (w : Wk As (Js j)) : Den c X kr Ls Js B tBreak As (.bk j) Bs := fun D σ W a f => f σ W (a.wk w)
theorem d_ct {j : J} (w : Wk As (Js j)) : Den c X kr Ls Js B tCont As (.ct j) Bs := fun D σ W a f => f σ W (a.wk w)
theorem d_bkS {j : J} {u : TS} (w : Wk As (Js j)) : Den c X kr Ls Js B (tSeq tBreak u) As (.bk j) Bs := fun D σ W a f => f σ W (a.wk w)
theorem d_ctS {j : J} {u : TS} (w : Wk As (Js j)) : Den c X kr Ls Js B (tSeq tCont u) As (.ct j) Bs := fun D σ W a f => f σ W (a.wk w)
theorem d_pass {u : TS} {m : Out S J ρ} (h : Den c X kr Ls Js B u As m Bs) : Den c X kr Ls Js B (tSeq tNext u) As m Bs := fun D σ W a f => h D σ W a f
theorem d_fz [Fz α] {pin : Option V} {t : TS} {m : Out S J ρ} {x : α} (i : Nat) (hi : As[i]? = some (.ow pin x)) (h : Den c X kr Ls Js B t (As.set i (.fr x)) m Bs) : Den c X kr Ls Js B t As m Bs := fun D σ W a f => by
  obtain ⟨W', e, a'⟩ := a.fz hi
  rw [← e]
  exact h D σ W' a' f
/-- x = e -/
theorem d_let [Rp α] {te : TE} {u : TS} {x : α} {k : α → Out S J ρ} (i : Nat) (h : Exp c B.W0 te As (kFr c.K x)) (hk : ∀ y, Den c X kr Ls Js B u (As.set i (.fr y)) (k y) Bs) : Den c X kr Ls Js B (tSeq (tAsg te (gName i)) u) As (lt x k) Bs := fun D σ W a f =>
  h σ W a W (Le.refl _) _ fun v W2 e p => hk x D _ W2 ((a.mono e).setF p) f
theorem d_get [Rp α] {te : TE} {u : TS} {m : R α} {k : α → Out S J ρ} (i : Nat) (lx : Lx Ls As) (h : Exr c B.W0 X te As m fun x => kFr c.K x) (hk : ∀ y, Den c X kr Ls Js B u (As.set i (.fr y)) (k y) Bs) : Den c X kr Ls Js B (tSeq (tAsg te (gName i)) u) As (m.to k) Bs := fun D σ W a f => by
  have h' := h σ W a
  cases m with
  | no => exact False.elim f
  | ex e => exact h' W (Le.refl _) _ fun cls d W2 e2 z => f cls d σ W2 (lx_at lx (a.mono e2)) z
  | ok x => exact h' W (Le.refl _) _ fun v W2 e p => hk x D _ W2 ((a.mono e).setF p) f
theorem d_letN [Ob α] {te : TE} {u : TS} {x : α} {k : α → Out S J ρ} (i : Nat) (h : Exp c B.W0 te As (kNw c.K x)) (hk : ∀ y, Den c X kr Ls Js B u (As.set i (.ow none y)) (k y) Bs) : Den c X kr Ls Js B (tSeq (tAsg te (gName i)) u) As (lt x k) Bs := fun D σ W a f =>
  h σ W a W (Le.refl _) _ fun v W2 e ⟨fp, o, n⟩ => hk x D _ W2 (a.setO e o n) f
theorem d_getN [Ob α] {te : TE} {u : TS} {m : R α} {k : α → Out S J ρ} (i : Nat) (lx : Lx Ls As) (h : Exr c B.W0 X te As m fun x => kNw c.K x) (hk : ∀ y, Den c X kr Ls Js B u (As.set i (.ow none y)) (k y) Bs) : Den c X kr Ls Js B (tSeq (tAsg te (gName i)) u) As (m.to k) Bs := fun D σ W a f => by
  have h' := h σ W a
  cases m with
  | no => exact False.elim f
  | ex e => exact h' W (Le.refl _) _ fun cls d W2 e2 z => f cls d σ W2 (lx_at lx (a.mono e2)) z
  | ok x => exact h' W (Le.refl _) _ fun v W2 e ⟨fp, o, n⟩ => hk x D _ W2 (a.setO e o n) f
/-- a, b = e -/
theorem d_let2 [Rp α] [Rp β] {te : TE} {u : TS} {x : α × β} {k : α → β → Out S J ρ} (i j : Nat) (h : Exp c B.W0 te As (kFr c.K x)) (hk : ∀ y z, Den c X kr Ls Js B u ((As.set i (.fr y)).set j (.fr z)) (k y z) Bs) :
    Den c X kr Ls Js B (tSeq (tAsg te (gTup c.K 2 (gCons (gName i) (gCons (gName j) gNil)))) u) As (lt2 x k) Bs := fun D σ W a f =>
  h σ W a W (Le.refl _) _ fun v W2 e ⟨p, va, vb, ev, hp, r1, r2⟩ => ⟨p, [va, vb], ev, W2.sub.sqt hp, rfl, va, [vb], rfl, vb, [], rfl, rfl, hk x.1 x.2 D _ W2 (((a.mono e).setF r1).setF r2) f⟩
theorem d_get2 [Rp α] [Rp β] {te : TE} {u : TS} {m : R (α × β)} {k : α → β → Out S J ρ} (i j : Nat) (lx : Lx Ls As) (h : Exr c B.W0 X te As m fun x => kFr c.K x) (hk : ∀ y z, Den c X kr Ls Js B u ((As.set i (.fr y)).set j (.fr z)) (k y z) Bs) :
    Den c X kr Ls Js B (tSeq (tAsg te (gTup c.K 2 (gCons (gName i) (gCons (gName j) gNil)))) u) As (m.to2 k) Bs := fun D σ W a f => by
  have h' := h σ W a
  cases m with
  | no => exact False.elim f
  | ex e => exact h' W (Le.refl _) _ fun cls d W2 e2 z => f cls d σ W2 (lx_at lx (a.mono e2)) z
  | ok x => exact h' W (Le.refl _) _ fun v W2 e ⟨p, va, vb, ev, hp, r1, r2⟩ => ⟨p, [va, vb], ev, W2.sub.sqt hp, rfl, va, [vb], rfl, vb, [], rfl, rfl, hk x.1 x.2 D _ W2 (((a.mono e).setF r1).setF r2) f⟩
/-- return e -/
theorem kr_ok {r : ρ} {v : V} {A W : Wd} (e : Le B.W0 A) (h : (kr r).p A v W) : (kr r).p B.Wo v W := (kr r).dn (B.le.trans e) h
theorem d_ret {te : TE} {u : TS} {r : ρ} (h : Exp c B.W0 te As (kr r)) : Den c X kr Ls Js B (tSeq (tRet te) u) As (.rt r) Bs := fun D σ W a f =>
  h σ W a W (Le.refl _) _ fun v W2 e p => f v W2 (a.le.trans e) (kr_ok a.le p)
theorem d_retR {te : TE} {u : TS} {m : R ρ} (lx : Lx Ls As) (h : Exr c B.W0 X te As m kr) : Den c X kr Ls Js B (tSeq (tRet te) u) As (m.to .rt) Bs := fun D σ W a f => by
  have h' := h σ W a
  cases m with
  | no => exact False.elim f
  | ex e => exact h' W (Le.refl _) _ fun cls d W2 e2 z => f cls d σ W2 (lx_at lx (a.mono e2)) z
  | ok x => exact h' W (Le.refl _) _ fun v W2 e p => f v W2 (a.le.trans e) (kr_ok a.le p)
/-- return x, x an owned thing of this def -/
theorem d_retO [Ob ρ] {pin : Option V} {u : TS} {r : ρ} (i : Nat) (hi : As[i]? = some (.ow pin r)) (hr : kr = fun x => kNw c.K x) : Den c X kr Ls Js B (tSeq (tRet (tVar i)) u) As (.rt r) Bs := fun D σ W a f => by
  obtain ⟨v, fp, hv, o, n, _⟩ := a.chg (β := ρ) (y := r) hi
  refine ⟨v, hv, f v W a.le ?_⟩
  rw [hr]
  exact ⟨fp, o, fun b hb => B.le.h.nope (n b hb)⟩
/-- if -/
theorem d_if {tc : TT} {t u v : TS} {m : R Bool} {a b : Out S J ρ} {k : S → Out T J ρ} (lx : Lx Ls As) (hc : Txr c B.W0 X tc As m) (h1 : Den c X kr Ls Js B t As a Bs) (h2 : Den c X kr Ls Js B u As b Bs) (hk : ∀ s, Den c X kr Ls Js B v (Bs s) (k s) Cs) :
    Den c X kr Ls Js B (tSeq (tIfS tc t u) v) As (m.to fun z => (if z then a else b).bind k) Cs := fun D σ W at_ f => by
  have h' := hc σ W at_
  cases m with
  | no => exact False.elim f
  | ex e => exact h' W (Le.refl _) _ fun cls d W2 e2 z => f cls d σ W2 (lx_at lx (at_.mono e2)) z
  | ok z =>
    refine h' W (Le.refl _) _ fun W2 e2 => ?_
    cases z with
    | true => exact d_seq h1 hk D σ W2 (at_.mono e2) f
    | false => exact d_seq h2 hk D σ W2 (at_.mono e2) f
theorem d_ifp {tc : TT} {t u v : TS} {z : Bool} {a b : Out S J ρ} {k : S → Out T J ρ} (hc : Txp c B.W0 tc As z) (h1 : Den c X kr Ls Js B t As a Bs) (h2 : Den c X kr Ls Js B u As b Bs) (hk : ∀ s, Den c X kr Ls Js B v (Bs s) (k s) Cs) :
    Den c X kr Ls Js B (tSeq (tIfS tc t u) v) As ((if z then a else b).bind k) Cs := fun D σ W at_ f => by
  refine hc σ W at_ W (Le.refl _) _ fun W2 e2 => ?_
  cases z with
  | true => exact d_seq h1 hk D σ W2 (at_.mono e2) f
  | false => exact d_seq h2 hk D σ W2 (at_.mono e2) f
/-- a block that never goes on: its state is of the type Empty -/
def Out.abs (m : Out Empty J ρ) : Out S J ρ := m.bind fun e => nomatch e
@[simp] theorem Out.abs_rt (r : ρ) : (Out.rt r : Out Empty J ρ).abs = (Out.rt r : Out S J ρ) := rfl
@[simp] theorem Out.abs_bk (r : J) : (Out.bk r : Out Empty J ρ).abs = (Out.bk r : Out S J ρ) := rfl
@[simp] theorem Out.abs_ct (r : J) : (Out.ct r : Out Empty J ρ).abs = (Out.ct r : Out S J ρ) := rfl
@[simp] theorem Out.abs_ex (r : Exc) : (Out.ex r : Out Empty J ρ).abs = (Out.ex r : Out S J ρ) := rfl
@[simp] theorem Out.abs_no : (Out.no : Out Empty J ρ).abs = (Out.no : Out S J ρ) := rfl
def noSl : Empty → List Sl := fun e => nomatch e
/-- if c: a block that never goes on -/
theorem d_abs {t v : TS} {a : Out Empty J ρ} (h : Den c X kr Ls Js B t As a noSl) (D : Ends) : ∀ σ W, At c.K B.W0 As σ W → Fin c X kr Ls Js B Cs D a.abs → t { D with nx := v D } σ W.H := fun σ W at_ f => by
  refine h { D with nx := v D } σ W at_ ?_
  cases a with
  | nx s => exact s.elim
  | _ => exact f
theorem d_ifa {tc : TT} {t v : TS} {m : R Bool} {a : Out Empty J ρ} {k : Out T J ρ} (lx : Lx Ls As) (hc : Txr c B.W0 X tc As m) (h1 : Den c X kr Ls Js B t As a noSl) (hk : Den c X kr Ls Js B v As k Cs) :
    Den c X kr Ls Js B (tSeq (tIfS tc t tNext) v) As (m.to fun z => if z then a.abs else k) Cs := fun D σ W at_ f => by
  have h' := hc σ W at_
  cases m with
  | no => exact False.elim f
  | ex e => exact h' W (Le.refl _) _ fun cls d W2 e2 z => f cls d σ W2 (lx_at lx (at_.mono e2)) z
  | ok z =>
    refine h' W (Le.refl _) _ fun W2 e2 => ?_
    cases z with
    | true => exact d_abs (v := v) h1 D σ W2 (at_.mono e2) f
    | false => exact hk D σ W2 (at_.mono e2) f
theorem d_ifap {tc : TT} {t v : TS} {z : Bool} {a : Out Empty J ρ} {k : Out T J ρ} (hc : Txp c B.W0 tc As z) (h1 : Den c X kr Ls Js B t As a noSl) (hk : Den c X kr Ls Js B v As k Cs) :
    Den c X kr Ls Js B (tSeq (tIfS tc t tNext) v) As (if z then a.abs else k) Cs := fun D σ W at_ f => by
  refine hc σ W at_ W (Le.refl _) _ fun W2 e2 => ?_
  cases z with
  | true => exact d_abs (v := v) h1 D σ W2 (at_.mono e2) f
  | false => exact hk D σ W2 (at_.mono e2) f
/-- if c: a block that never goes on; else: one that does (elif) -/
theorem d_ifb {tc : TT} {t u v : TS} {m : R Bool} {a : Out Empty J ρ} {b : Out S J ρ} {k : S → Out T J ρ} (lx : Lx Ls As) (hc : Txr c B.W0 X tc As m) (h1 : Den c X kr Ls Js B t As a noSl) (h2 : Den c X kr Ls Js B u As b Bs) (hk : ∀ s, Den c X kr Ls Js B v (Bs s) (k s) Cs) :
    Den c X kr Ls Js B (tSeq (tIfS tc t u) v) As (m.to fun z => if z then a.abs else b.bind k) Cs := fun D σ W at_ f => by
  have h' := hc σ W at_
  cases m with
  | no => exact False.elim f
  | ex e => exact h' W (Le.refl _) _ fun cls d W2 e2 z => f cls d σ W2 (lx_at lx (at_.mono e2)) z
  | ok z =>
    refine h' W (Le.refl _) _ fun W2 e2 => ?_
    cases z with
    | true => exact d_abs (v := v) h1 D σ W2 (at_.mono e2) f
    | false => exact d_seq h2 hk D σ W2 (at_.mono e2) f
/-- a whole def or block ends by a block that never goes on -/
theorem d_end {t : TS} {a : Out Empty J ρ} (h : Den c X kr Ls Js B t As a noSl) : Den c X kr Ls Js B t As (a.abs : Out S J ρ) Bs := fun D σ W at_ f => by
  refine h D σ W at_ ?_
  cases a with
  | nx s => exact s.elim
  | _ => exact f
/-- e alone -/
theorem d_drop {te : TE} {u : TS} {m : R α} {k : Out S J ρ} {kd : α → Kd} (lx : Lx Ls As) (h : Exr c B.W0 X te As m kd) (hk : Den c X kr Ls Js B u As k Bs) : Den c X kr Ls Js B (tSeq (tDrop te) u) As (m.to fun _ => k) Bs := fun D σ W a f => by
  have h' := h σ W a
  cases m with
  | no => exact False.elim f
  | ex e => exact h' W (Le.refl _) _ fun cls d W2 e2 z => f cls d σ W2 (lx_at lx (a.mono e2)) z
  | ok x => exact h' W (Le.refl _) _ fun v W2 e p => hk D _ W2 (a.mono e) f
/-- n += e -/
theorem d_aug {te : TE} {u : TS} {g : Int → Int → Int} {x : Int} {m : R Int} {k : Int → Out S J ρ} (i : Nat) (hi : As[i]? = some (.fr x)) (lx : Lx Ls As) (h : Exr c B.W0 X te As m fun x => kFr c.K x) (hk : ∀ y : Int, Den c X kr Ls Js B u (As.set i (.fr y)) (k y) Bs) :
    Den c X kr Ls Js B (tSeq (tAug i te (ipI g)) u) As (m.to fun y => lt (g x y) k) Bs := fun D σ W a f => by
  have h' := h σ W a
  obtain ⟨w, hw, rw_⟩ := a.var hi
  refine ⟨w, hw, ?_⟩
  cases m with
  | no => exact False.elim f
  | ex e => exact h' W (Le.refl _) _ fun cls d W2 e2 z => f cls d σ W2 (lx_at lx (a.mono e2)) z
  | ok y => exact h' W (Le.refl _) _ fun v W2 e p => ⟨x, y, rw_, p, hk _ D _ W2 ((a.mono e).setF (v := .int _) rfl) f⟩
/-- xs.append(e) -/
@[irreducible] def R.app (xs : List α) (x : α) : R (List α) := if xs.length < sizeLine then .ok (xs ++ [x]) else .no
@[irreducible] def R.ext (xs ys : List α) : R (List α) := if xs.length + ys.length ≤ sizeLine then .ok (xs ++ ys) else .no
theorem al_mono {K : Frag} [Rp α] {xs : List α} {vs : List V} {G H : Hp} (h : Al (fun x v => Rp.rep K x v G) xs vs) (s : Inc G H) : Al (fun x v => Rp.rep K x v H) xs vs := h.imp fun _ _ r => Rp.mono s r
theorem mut_keep {W : Wd} {p : Addr} {o : HO} (g : W.G p = none) {hi : imm o = false} (a : Addr) (h : a ∉ [p]) (n : W.H a ≠ none) : (W.mt p o g hi).H a = W.H a := upd_ne (fun q => h (List.mem_singleton.mpr q))
theorem d_app [Rp α] {pin : Option V} {te : TE} {u : TS} {xs : List α} {m : R α} {k : List α → Out S J ρ} (i : Nat) (hi : As[i]? = some (.ow pin xs)) (lx : Lx Ls As) (h : Exr c B.W0 X te As m fun x => kFr c.K x) (hk : ∀ ys : List α, Den c X kr Ls Js B u (As.set i (.ow pin ys)) (k ys) Bs) :
    Den c X kr Ls Js B (tSeq (tDrop (tBM c.K "list" rAppend (tVar i) (tCons te tNil))) u) As (m.to fun y => (R.app xs y).to k) Bs := fun D σ W a f => by
  have h' := h σ W a
  obtain ⟨w, fp, hw, rw_, n0, chg⟩ := a.chg (β := List α) (y := xs) hi
  obtain ⟨p, vs, ew, ef, g, hh, al, l⟩ := rw_
  subst ew ef
  refine ⟨_, hw, .inl ⟨rfl, vs, .inl (.inl hh)⟩, ?_⟩
  cases m with
  | no => exact False.elim f
  | ex e => exact h' W (Le.refl _) _ fun cls d W2 e2 z => f cls d σ W2 (lx_at lx (a.mono e2)) z
  | ok y =>
    refine h' W (Le.refl _) _ fun v W2 e r => ?_
    have f' : Fin c X kr Ls Js B Bs D (R.to (if xs.length < sizeLine then R.ok (xs ++ [y]) else R.no) k) := by
      have f2 : Fin c X kr Ls Js B Bs D ((R.app xs y).to k) := f
      unfold R.app at f2
      exact f2
    have g2 : W2.G p = none := e.o p g (by rw [hh]; exact fun z => nomatch z)
    by_cases cz : xs.length < sizeLine
    · rw [if_pos cz] at f'
      refine ⟨p, vs, v, rfl, rfl, e.h _ _ hh, al.1 ▸ cz, ?_⟩
      obtain ⟨w', fp', hw', rw', n0', chg'⟩ := (a.mono e).chg (β := List α) (y := xs ++ [y]) hi
      rw [hw] at hw'
      cases hw'
      obtain ⟨p', vs', ep, ef', g', hh', al', l'⟩ := rw'
      cases ep
      subst ef'
      have a3 := chg' (W2.mt p (.lst (vs ++ [v])) g2) [p] (Inc.refl _) (fun b _ hb _ => hb) (fun b hb n => mut_keep g2 b hb n) ⟨p, _, rfl, rfl, g2, upd_same, (al_mono al e.g).app (Al.one r), by simp; omega⟩ (fun b hb => .inl hb)
      exact hk _ D _ _ a3 f'
    · rw [if_neg cz] at f'
      exact False.elim f'
/-- xs[i] = e -/
@[irreducible] def R.set (xs : List α) (i : Int) (y : α) : R (List α) := match ixN xs.length i with
  | some j => .ok (xs.set j y)
  | none => .no
theorem d_setL [Rp α] {pin : Option V} {te ti : TE} {u : TS} {xs : List α} {m : R α} {n : R Int} {k : List α → Out S J ρ} (i : Nat) (hi : As[i]? = some (.ow pin xs)) (lx : Lx Ls As) (h : Exr c B.W0 X te As m fun x => kFr c.K x) (hn : Exr c B.W0 X ti As n fun x => kFr c.K x)
    (hk : ∀ ys : List α, Den c X kr Ls Js B u (As.set i (.ow pin ys)) (k ys) Bs) :
    Den c X kr Ls Js B (tSeq (tAsg te (gSub (tVar i) ti rSetL)) u) As (m.to fun y => n.to fun j => (R.set xs j y).to k) Bs := fun D σ W a f => by
  have h' := h σ W a
  have hn' := hn σ W a
  cases m with
  | no => exact False.elim f
  | ex e => exact h' W (Le.refl _) _ fun cls d W2 e2 z => f cls d σ W2 (lx_at lx (a.mono e2)) z
  | ok y =>
    refine h' W (Le.refl _) _ fun v W1 e1 r => ?_
    obtain ⟨w, fp, hw, rw_, _⟩ := (a.mono e1).chg (β := List α) (y := xs) hi
    refine ⟨w, hw, ?_⟩
    cases n with
    | no => exact False.elim f
    | ex e => exact hn' W1 e1 _ fun cls d W2 e2 z => f cls d σ W2 (lx_at lx (a.mono (e1.trans e2))) z
    | ok j =>
      refine hn' W1 e1 _ fun jv W2 e2 rj => ?_
      have rj' : jv = .int j := rj
      subst rj'
      obtain ⟨w', fp', hw', rw', n0', chg'⟩ := (a.mono (e1.trans e2)).chg (β := List α) (y := (match ixN xs.length j with | some q => xs.set q y | none => xs)) hi
      rw [hw] at hw'
      cases hw'
      obtain ⟨p, vs, ep, ef, g, hh, al, l⟩ := rw'
      subst ep ef
      have f' : Fin c X kr Ls Js B Bs D (R.to (match ixN xs.length j with | some q => .ok (xs.set q y) | none => .no) k) := by
        have f2 : Fin c X kr Ls Js B Bs D ((R.set xs j y).to k) := f
        unfold R.set at f2
        exact f2
      cases q : ixN xs.length j with
      | none => rw [q] at f'; exact False.elim f'
      | some z =>
        rw [q] at f' chg'
        refine ⟨p, vs, j, z, rfl, rfl, hh, al.1 ▸ q, ?_⟩
        have a3 := chg' (W2.mt p (.lst (vs.set z v)) g) [p] (Inc.refl _) (fun b _ hb _ => hb) (fun b hb n => mut_keep g b hb n) ⟨p, _, rfl, rfl, g, upd_same, al.set (Rp.mono e2.g r) z, by simp; omega⟩ (fun b hb => .inl hb)
        exact hk _ D _ _ a3 f'
/-- xs.extend(a list that stands in the heap) -/
def kLs (K : Frag) [Rp α] (xs : List α) : Kd := ⟨fun _ v W => ∃ p vs, v = .ref p ∧ W.H p = some (.lst vs) ∧ Al (fun x v => Rp.rep K x v W.G) xs vs ∧ xs.length ≤ sizeLine,
  fun ⟨p, vs, e, h, a, l⟩ q => ⟨p, vs, e, q.h _ _ h, al_mono a q.g, l⟩, fun _ h => h⟩
theorem fr_ls [Rp α] {K : Frag} {x : List α} {v : V} {W A : Wd} (h : (kFr K x).p A v W) : (kLs K x).p A v W := by
  obtain ⟨p, vs, e, hh, a, l⟩ := h
  exact ⟨p, vs, e, W.sub _ _ hh, a, l⟩
theorem own_ls [Rp α] {K : Frag} {x : List α} {v : V} {f : List Addr} {W A : Wd} (h : Ob.own K x v f W) : (kLs K x).p A v W := by
  obtain ⟨p, vs, e, ef, g, hh, a, l⟩ := h
  exact ⟨p, vs, e, hh, a, l⟩
theorem nw_ls [Rp α] {K : Frag} {x : List α} {v : V} {W A : Wd} (h : (kNw K x).p A v W) : (kLs K x).p A v W := by
  obtain ⟨f, o, _⟩ := h
  exact own_ls o
theorem ls_sh [Rp α] {K : Frag} {x : List α} {v : V} {W A : Wd} (h : (kLs K x).p A v W) : (kSh K x).p A v W := by
  obtain ⟨p, vs, e, hh, a, l⟩ := h
  exact ⟨p, vs, e, .inl (.inl hh), a, l⟩
theorem e_varL {W0 : Wd} [Rp α] {x : List α} {pin : Option V} (i : Nat) (h : As[i]? = some (.ow pin x) := by rfl) : Exp c W0 (tVar i) As (kLs c.K x) := fun σ W a W1 e Q q => by
  obtain ⟨v, f, hv, r, _⟩ := a.varO h
  exact ⟨v, hv, q v W1 (Le.refl _) (own_ls (own_up r e))⟩
theorem e_lsF {W0 : Wd} [Rp α] {te : TE} {x : List α} (h : Exp c W0 te As (kFr c.K x)) : Exp c W0 te As (kLs c.K x) := exp_w h fun _ _ _ => fr_ls
theorem r_lsF {W0 : Wd} [Rp α] {te : TE} {m : R (List α)} (h : Exr c W0 X te As m fun x => kFr c.K x) : Exr c W0 X te As m fun x => kLs c.K x := exr_w h fun _ _ _ _ => fr_ls
theorem e_lsN {W0 : Wd} [Rp α] {te : TE} {x : List α} (h : Exp c W0 te As (kNw c.K x)) : Exp c W0 te As (kLs c.K x) := exp_w h fun _ _ _ => nw_ls
theorem r_lsN {W0 : Wd} [Rp α] {te : TE} {m : R (List α)} (h : Exr c W0 X te As m fun x => kNw c.K x) : Exr c W0 X te As m fun x => kLs c.K x := exr_w h fun _ _ _ _ => nw_ls
theorem d_ext [Rp α] {pin : Option V} {te : TE} {u : TS} {xs : List α} {m : R (List α)} {k : List α → Out S J ρ} (i : Nat) (hi : As[i]? = some (.ow pin xs)) (lx : Lx Ls As) (h : Exr c B.W0 X te As m fun x => kLs c.K x) (hk : ∀ ys : List α, Den c X kr Ls Js B u (As.set i (.ow pin ys)) (k ys) Bs) :
    Den c X kr Ls Js B (tSeq (tDrop (tBM c.K "list" rExtend (tVar i) (tCons te tNil))) u) As (m.to fun y => (R.ext xs y).to k) Bs := fun D σ W a f => by
  have h' := h σ W a
  obtain ⟨w, fp, hw, rw_, n0, chg⟩ := a.chg (β := List α) (y := xs) hi
  obtain ⟨p, vs, ew, ef, g, hh, al, l⟩ := rw_
  subst ew ef
  refine ⟨_, hw, .inl ⟨rfl, vs, .inl (.inl hh)⟩, ?_⟩
  cases m with
  | no => exact False.elim f
  | ex e => exact h' W (Le.refl _) _ fun cls d W2 e2 z => f cls d σ W2 (lx_at lx (a.mono e2)) z
  | ok y =>
    refine h' W (Le.refl _) _ fun v W2 e ⟨b, zs, eb, hb, alb, lb⟩ => ?_
    subst eb
    have f' : Fin c X kr Ls Js B Bs D (R.to (if xs.length + y.length ≤ sizeLine then R.ok (xs ++ y) else R.no) k) := by
      have f2 : Fin c X kr Ls Js B Bs D ((R.ext xs y).to k) := f
      unfold R.ext at f2
      exact f2
    have g2 : W2.G p = none := e.o p g (by rw [hh]; exact fun z => nomatch z)
    by_cases cz : xs.length + y.length ≤ sizeLine
    · rw [if_pos cz] at f'
      refine ⟨p, b, vs, zs, rfl, rfl, e.h _ _ hh, hb, al.1 ▸ alb.1 ▸ cz, ?_⟩
      obtain ⟨w', fp', hw', rw', n0', chg'⟩ := (a.mono e).chg (β := List α) (y := xs ++ y) hi
      rw [hw] at hw'
      cases hw'
      obtain ⟨p', vs', ep, ef', g', hh', al', l'⟩ := rw'
      cases ep
      subst ef'
      have a3 := chg' (W2.mt p (.lst (vs ++ zs)) g2) [p] (Inc.refl _) (fun b _ hb _ => hb) (fun b hb n => mut_keep g2 b hb n) ⟨p, _, rfl, rfl, g2, upd_same, (al_mono al e.g).app alb, by simp; omega⟩ (fun b hb => .inl hb)
      exact hk _ D _ _ a3 f'
    · rw [if_neg cz] at f'
      exact False.elim f'
/-! ### what is walked -/
def Gives (J : It) (G1 : Hp) (xs : List α) (k : α → Kd) : Prop := ∀ (i : Nat) (W : Wd), Inc G1 W.G → (xs.length ≤ i → J.stop i W.H) ∧ ∀ x, xs[i]? = some x → J.go i W.H ∧ ∀ v H', J.yld i W.H v H' → ∃ W', W'.H = H' ∧ Le W W' ∧ (k x).p W v W'
def Ixr (c : Cn) (W0 : Wd) (X : WX) (wi : TI) (As : List Sl) (m : R (List α)) (k : α → Kd) : Prop := ∀ σ W, At c.K W0 As σ W →
  SatR m (fun xs => ∀ W1, Le W W1 → ∀ Q : It → Hp → Prop, (∀ J W2, Le W1 W2 → Gives J W2.G xs k → Q J W2.H) → wi σ W1.H Q) (fun e => ∀ W1, Le W W1 → ∀ Q, (∀ cls d W2, Le W1 W2 → ExAt c.M e cls d W2 → X cls d σ W2.H) → wi σ W1.H Q)
def Tg (c : Cn) (W0 : Wd) (g : TG) (As : List Sl) (k : α → Kd) (Bs : α → List Sl) : Prop := ∀ x σ W A v, At c.K W0 As σ W → (k x).p A v W → ∀ Q : St → Hp → Prop, (∀ σ', At c.K W0 (Bs x) σ' W → Q σ' W.H) → g v σ W.H Q
theorem g_name {W0 : Wd} [Rp α] (i : Nat) : Tg c W0 (gName i) As (fun x : α => kFr c.K x) (fun x => As.set i (.fr x)) := fun x σ W A v a r Q q => q _ (a.setF r)
theorem g_tup2 {W0 : Wd} [Rp α] [Rp β] (i j : Nat) : Tg c W0 (gTup c.K 2 (gCons (gName i) (gCons (gName j) gNil))) As (fun x : α × β => kFr c.K x) (fun x => (As.set i (.fr x.1)).set j (.fr x.2)) := fun x σ W A v a ⟨p, va, vb, ev, hp, r1, r2⟩ Q q =>
  ⟨p, [va, vb], ev, W.sub.sqt hp, rfl, va, [vb], rfl, vb, [], rfl, rfl, q _ ((a.setF r1).setF r2)⟩
theorem g_tup3 {W0 : Wd} [Rp α] [Rp β] [Rp γ] (i j l : Nat) : Tg c W0 (gTup c.K 3 (gCons (gName i) (gCons (gName j) (gCons (gName l) gNil)))) As (fun x : T3 α β γ => kFr c.K x) (fun x => ((As.set i (.fr x.a)).set j (.fr x.b)).set l (.fr x.c)) :=
  fun x σ W A v a ⟨p, va, vb, vc, ev, hp, r1, r2, r3⟩ Q q =>
  ⟨p, [va, vb, vc], ev, W.sub.sqt hp, rfl, va, [vb, vc], rfl, vb, [vc], rfl, vc, [], rfl, rfl, q _ (((a.setF r1).setF r2).setF r3)⟩
theorem drop_cons {l : List α} {i : Nat} {x : α} (h : l[i]? = some x) : l.drop i = x :: l.drop (i + 1) := by
  obtain ⟨hi, e⟩ := List.getElem?_eq_some_iff.mp h
  rw [← e]
  exact List.drop_eq_getElem_cons hi
/-- for -/
theorem d_for {wi : TI} {g : TG} {tb u : TS} {m : R (List α)} {k : α → Kd} {s0 : S} {Ts : S → α → List Sl} {f : S → α → Out S S ρ} {kk : S → Out T J ρ} (lx : Lx Ls As) (hi : Ixr c B.W0 X wi As m k) (w : Wk As (Bs s0)) (hg : ∀ s (W1 : Wd), Tg c W1 g (Bs s) k (Ts s))
    (hb : ∀ s x B', Den c X kr Ls Bs B' tb (Ts s x) (f s x) Bs) (hk : ∀ s, Den c X kr Ls Js B u (Bs s) (kk s) Cs) : Den c X kr Ls Js B (tSeq (tFor wi g tb) u) As (m.to fun xs => (forL xs s0 f).bind kk) Cs := fun D σ W a fn => by
  have h' := hi σ W a
  cases m with
  | no => exact False.elim fn
  | ex e => exact h' W (Le.refl _) _ fun cls d W2 e2 z => fn cls d σ W2 (lx_at lx (a.mono e2)) z
  | ok xs =>
    refine h' W (Le.refl _) _ fun Jt W2 e2 gv => ?_
    have a2 : At c.K B.W0 (Bs s0) σ W2 := (a.mono e2).wk w
    let Wb := B.W0.rb W2 a2.le
    have eb : Le B.W0 Wb := Le.rb0 a2.le
    have fin0 : Fin c X kr Ls Js B Bs { D with nx := u D } (forL xs s0 f) := by
      have fn' : Fin c X kr Ls Js B Cs D ((forL xs s0 f).bind kk) := fn
      revert fn'
      generalize (forL xs s0 f : Out S J ρ) = o
      intro fn'
      cases o with
      | nx s => exact fun σ' W' a' => hk s D σ' W' a' fn'
      | _ => exact fn'
    refine ⟨fun i n σ H => ∃ (Wd' : Wd) (s : S), H = Wd'.H ∧ At c.K Wb (Bs s) σ Wd' ∧ n = xs.length - i ∧ i ≤ xs.length ∧ Fin c X kr Ls Js B Bs { D with nx := u D } (forL (xs.drop i) s f), ⟨xs.length, W2, s0, rfl, a2.rb, by simp, Nat.zero_le _, fin0⟩, ?_⟩
    rintro i n σ H ⟨Wi, s, rfl, ai, rfl, il, fi⟩
    have gi : Inc W2.G Wi.G := ai.le.g
    obtain ⟨g1, g2⟩ := gv i Wi gi
    by_cases ci : i = xs.length
    · refine .inl ⟨g1 (by omega), ?_⟩
      rw [ci, List.drop_length] at fi
      exact fi σ Wi (ai.re eb)
    · have hx : xs[i]? = some (xs[i]'(by omega)) := List.getElem?_eq_getElem (by omega)
      obtain ⟨go, yl⟩ := g2 _ hx
      rw [drop_cons hx] at fi
      refine .inr ⟨go, fun σ' H' => ∃ (Wd' : Wd) (s : S), H' = Wd'.H ∧ At c.K Wb (Bs s) σ' Wd' ∧ Fin c X kr Ls Js B Bs { D with nx := u D } (forL (xs.drop (i + 1)) s f), fun σ' H' ⟨W', s', e1, e2', e3⟩ => ⟨xs.length - (i + 1), by omega, W', s', e1, e2', rfl, by omega, e3⟩, fun v H' hy => ?_⟩
      obtain ⟨W', eh, le', kp⟩ := yl v H' hy
      subst eh
      refine hg s Wb _ σ W' Wi v (ai.mono le') kp _ fun σ2 a2' => ?_
      refine hb s _ (B.re Wb eb) _ σ2 W' a2' ?_
      have fi' : Fin c X kr Ls Js B Bs { D with nx := u D } (match f s (xs[i]'(by omega)) with
        | .nx s' => forL (xs.drop (i + 1)) s' f
        | .ct s' => forL (xs.drop (i + 1)) s' f
        | .bk s' => .nx s'
        | .rt r => .rt r
        | .ex e => .ex e
        | .no => .no) := fi
      revert fi'
      generalize f s (xs[i]'(by omega)) = o
      intro fi'
      cases o with
      | nx s' => exact fun σ3 W3 a3 => ⟨W3, s', rfl, a3, fi'⟩
      | ct s' => exact fun σ3 W3 a3 => ⟨W3, s', rfl, a3, fi'⟩
      | bk s' => exact fun σ3 W3 a3 => fi' σ3 W3 (a3.re eb)
      | rt r => exact fun v W3 l p => fi' v W3 (eb.trans l) p
      | ex e => exact fi'
      | no => exact fi'
/-- while -/
theorem d_while {tc : TT} {tb u : TS} {s0 : S} {cn : S → R Bool} {f : S → Out S S ρ} {kk : S → Out T J ρ} (n : Nat) (w : Wk As (Bs s0)) (lx : ∀ s, Lx Ls (Bs s)) (hc : ∀ s (W1 : Wd), Txr c W1 X tc (Bs s) (cn s)) (hb : ∀ s, Den c X kr Ls Bs B tb (Bs s) (f s) Bs) (hk : ∀ s, Den c X kr Ls Js B u (Bs s) (kk s) Cs) :
    Den c X kr Ls Js B (tSeq (tWhile tc tb) u) As ((whileF n s0 cn f).bind kk) Cs := fun D σ W a fn => by
  have fin0 : Fin c X kr Ls Js B Bs { D with nx := u D } (whileF n s0 cn f) := by
    have fn' : Fin c X kr Ls Js B Cs D ((whileF n s0 cn f).bind kk) := fn
    revert fn'
    generalize (whileF n s0 cn f : Out S J ρ) = o
    intro fn'
    cases o with
    | nx s => exact fun σ' W' a' => hk s D σ' W' a' fn'
    | _ => exact fn'
  refine ⟨fun n σ H => ∃ (Wd' : Wd) (s : S), H = Wd'.H ∧ At c.K B.W0 (Bs s) σ Wd' ∧ Fin c X kr Ls Js B Bs { D with nx := u D } (whileF n s cn f), ⟨n, W, s0, rfl, a.wk w, fin0⟩, ?_⟩
  rintro n σ H ⟨Wi, s, rfl, ai, fi⟩
  cases n with
  | zero => exact False.elim fi
  | succ n =>
    have h' := hc s B.W0 σ Wi ai
    have fi' : Fin c X kr Ls Js B Bs { D with nx := u D } (match cn s with
      | .ok true => match f s with
        | .nx s' => whileF n s' cn f
        | .ct s' => whileF n s' cn f
        | .bk s' => .nx s'
        | .rt r => .rt r
        | .ex e => .ex e
        | .no => .no
      | .ok false => .nx s
      | .ex e => .ex e
      | .no => .no) := fi
    revert fi' h'
    generalize cn s = cs
    intro h' fi'
    cases cs with
    | no => exact False.elim fi'
    | ex e => exact h' Wi (Le.refl _) _ fun cls d W2 e2 z => fi' cls d σ W2 (lx_at (lx s) (ai.mono e2)) z
    | ok b =>
      refine h' Wi (Le.refl _) _ fun W2 e2 => ?_
      cases b with
      | false => exact fi' σ W2 (ai.mono e2)
      | true =>
        refine ⟨fun σ' H' => ∃ (Wd' : Wd) (s : S), H' = Wd'.H ∧ At c.K B.W0 (Bs s) σ' Wd' ∧ Fin c X kr Ls Js B Bs { D with nx := u D } (whileF n s cn f), fun σ' H' ⟨W', s', e1, e2', e3⟩ => ⟨n, by omega, W', s', e1, e2', e3⟩, ?_⟩
        refine hb s _ σ W2 (ai.mono e2) ?_
        revert fi'
        generalize f s = o
        intro fi'
        cases o with
        | nx s' => exact fun σ3 W3 a3 => ⟨W3, s', rfl, a3, fi'⟩
        | ct s' => exact fun σ3 W3 a3 => ⟨W3, s', rfl, a3, fi'⟩
        | bk s' => exact fun σ3 W3 a3 => fi' σ3 W3 a3
        | rt r => exact fun v W3 l p => fi' v W3 l p
        | ex e => exact fi'
        | no => exact fi'
end
end Fw

namespace Fw
open PySem L2
/-! ### what is walked -/
section
variable {c : Cn} {W0 : Wd} {X : WX} {As Bs : List Sl} {α β γ δ τ ρ : Type}
theorem i_list [Rp α] {te : TE} {m : R (List α)} (h : Exr c W0 X te As m fun x => kFr c.K x) : Ixr c W0 X (iList c.K te) As m fun x => kFr c.K x := fun σ W a => by
  have h' := h σ W a
  cases m with
  | no => trivial
  | ex e => exact fun W1 e1 Q q => h' W1 e1 _ q
  | ok xs =>
    refine fun W1 e1 Q q => h' W1 e1 _ fun v W2 e2 ⟨p, vs, ev, hp, al, l⟩ => ⟨p, ev, ⟨vs, .inl (.inl (W2.sub _ _ hp))⟩, q _ W2 e2 fun i W g => ?_⟩
    have hs : SqL c.K W.H p vs := .inl (.inl (W.sub _ _ (g _ _ hp)))
    refine ⟨fun hi => ⟨vs, hs, al.1 ▸ hi⟩, fun x hx => ?_⟩
    obtain ⟨u, hu, r⟩ := al.get hx
    refine ⟨⟨vs, u, hs, hu⟩, fun v H' ⟨eh, k⟩ => ⟨W, eh.symm, Le.refl _, ?_⟩⟩
    have := k vs hs
    rw [hu] at this
    cases this
    exact Rp.mono g r
theorem i_sq [Rp α] {te : TE} {m : R (Sq α)} (h : Exr c W0 X te As m fun x => kFr c.K x) : Ixr c W0 X (iList c.K te) As (m.bind fun x => .ok x.l) fun x => kFr c.K x := fun σ W a => by
  have h' := h σ W a
  cases m with
  | no => trivial
  | ex e => exact fun W1 e1 Q q => h' W1 e1 _ q
  | ok xs =>
    refine fun W1 e1 Q q => h' W1 e1 _ fun v W2 e2 ⟨p, vs, ev, hp, al, l⟩ => ⟨p, ev, ⟨vs, W2.sub.sql hp⟩, q _ W2 e2 fun i W g => ?_⟩
    have hs : SqL c.K W.H p vs := W.sub.sql (g.sql hp)
    refine ⟨fun hi => ⟨vs, hs, al.1 ▸ hi⟩, fun x hx => ?_⟩
    obtain ⟨u, hu, r⟩ := al.get hx
    refine ⟨⟨vs, u, hs, hu⟩, fun v H' ⟨eh, k⟩ => ⟨W, eh.symm, Le.refl _, ?_⟩⟩
    have := k vs hs
    rw [hu] at this
    cases this
    exact Rp.mono g r
theorem i_tup [Rp α] {te : TE} {m : R (Tup α)} (h : Exr c W0 X te As m fun x => kFr c.K x) : Ixr c W0 X (iTup c.K te) As (m.bind fun x => .ok x.l) fun x => kFr c.K x := fun σ W a => by
  have h' := h σ W a
  cases m with
  | no => trivial
  | ex e => exact fun W1 e1 Q q => h' W1 e1 _ q
  | ok xs =>
    refine fun W1 e1 Q q => h' W1 e1 _ fun v W2 e2 ⟨p, vs, ev, hp, al, l⟩ => ⟨p, ev, ⟨vs, W2.sub.sqt hp⟩, q _ W2 e2 fun i W g => ?_⟩
    have hs : SqT c.K W.H p vs := W.sub.sqt (g.sqt hp)
    refine ⟨fun hi => ⟨vs, hs, al.1 ▸ hi⟩, fun x hx => ?_⟩
    obtain ⟨u, hu, r⟩ := al.get hx
    refine ⟨⟨vs, u, hs, hu⟩, fun v H' ⟨eh, k⟩ => ⟨W, eh.symm, Le.refl _, ?_⟩⟩
    have := k vs hs
    rw [hu] at this
    cases this
    exact Rp.mono g r
/-- range -/
def rng (lo hi : Int) : List Int := (List.range (hi - lo).toNat).map fun i => lo + (i : Nat)
@[irreducible] def R.rng (lo hi : Int) : R (List Int) := if -16777216 ≤ lo ∧ lo ≤ 16777216 ∧ -16777216 ≤ hi ∧ hi ≤ 16777216 then .ok (Fw.rng lo hi) else .no
theorem rng_len (lo hi : Int) : (rng lo hi).length = (hi - lo).toNat := by simp [rng]
theorem rng_get {lo hi : Int} {i : Nat} {x : Int} (h : (rng lo hi)[i]? = some x) : i < (hi - lo).toNat ∧ x = lo + (i : Nat) := by
  unfold rng at h
  rw [List.getElem?_map] at h
  by_cases c : i < (hi - lo).toNat
  · rw [List.getElem?_range c] at h
    exact ⟨c, (Option.some.inj h).symm⟩
  · rw [List.getElem?_eq_none (by simp; omega)] at h
    cases h
theorem gives_rng (lo hi : Int) (G : Hp) : Gives (Itr lo (hi - lo).toNat) G (rng lo hi) fun x => kFr c.K x := fun i W g => by
  refine ⟨fun hi' => by rw [rng_len] at hi'; exact hi', fun x hx => ?_⟩
  obtain ⟨h1, h2⟩ := rng_get hx
  refine ⟨h1, fun v H' ⟨eh, ev⟩ => ⟨W, eh.symm, Le.refl _, ?_⟩⟩
  rw [h2]
  exact ev
theorem i_rng1 {te : TE} {m : R Int} (h : Exr c W0 X te As m fun x => kFr c.K x) : Ixr c W0 X (iRng1 (tCons te tNil)) As (m.bind fun n => R.rng 0 n) fun x => kFr c.K x := fun σ W a => by
  have h' := h σ W a
  cases m with
  | no => trivial
  | ex e => exact fun W1 e1 Q q => h' W1 e1 _ q
  | ok n =>
    show SatR (R.rng 0 n) _ _
    unfold R.rng
    split
    · rename_i z
      refine fun W1 e1 Q q => h' W1 e1 _ fun v W2 e2 r => ⟨n, by rw [show v = .int n from r], by omega, by omega, ?_⟩
      have g := gives_rng (c := c) 0 n W2.G
      rw [Int.sub_zero] at g
      exact q _ W2 e2 g
    · trivial
theorem i_rng2 {te tf : TE} {m n : R Int} (h : Exr c W0 X te As m fun x => kFr c.K x) (h2 : Exr c W0 X tf As n fun x => kFr c.K x) : Ixr c W0 X (iRng2 (tCons te (tCons tf tNil))) As (m.bind fun a => n.bind fun b => R.rng a b) fun x => kFr c.K x := fun σ W a => by
  have h' := h σ W a
  have h2' := h2 σ W a
  cases m with
  | no => trivial
  | ex e => exact fun W1 e1 Q q => h' W1 e1 _ q
  | ok lo =>
    cases n with
    | no => trivial
    | ex e => exact fun W1 e1 Q q => h' W1 e1 _ fun v W2 e2 r => h2' W2 (e1.trans e2) _ fun cls d W3 e3 z => q cls d W3 (e2.trans e3) z
    | ok hi =>
      show SatR (R.rng lo hi) _ _
      unfold R.rng
      split
      · rename_i z
        refine fun W1 e1 Q q => h' W1 e1 _ fun v W2 e2 r => h2' W2 (e1.trans e2) _ fun u W3 e3 r2 => ⟨lo, hi, by rw [show v = .int lo from r, show u = .int hi from r2], by omega, q _ W3 (e2.trans e3) (gives_rng (c := c) lo hi W3.G)⟩
      · trivial
/-- enumerate of a list -/
def enum (xs : List α) : List (Int × α) := (List.range xs.length).zipWith (fun i x => ((i : Nat), x)) xs
theorem enum_len (xs : List α) : (enum xs).length = xs.length := by simp [enum]
theorem enum_get {xs : List α} {i : Nat} {x : Int × α} (h : (enum xs)[i]? = some x) : x.1 = (i : Nat) ∧ xs[i]? = some x.2 := by
  unfold enum at h
  rw [List.getElem?_zipWith] at h
  by_cases q : i < xs.length
  · rw [List.getElem?_range q, List.getElem?_eq_getElem q] at h
    cases h
    exact ⟨rfl, List.getElem?_eq_getElem q⟩
  · rw [List.getElem?_eq_none (l := List.range xs.length) (by simp; omega)] at h
    cases h
theorem i_enum [Rp α] {te : TE} {m : R (List α)} (h : Exr c W0 X te As m fun x => kFr c.K x) : Ixr c W0 X (iEnum c.K (tCons te tNil)) As (m.bind fun xs => .ok (enum xs)) fun x => kFr c.K x := fun σ W a => by
  have h' := h σ W a
  cases m with
  | no => trivial
  | ex e => exact fun W1 e1 Q q => h' W1 e1 _ q
  | ok xs =>
    refine fun W1 e1 Q q => h' W1 e1 _ fun v W2 e2 ⟨p, vs, ev, hp, al, l⟩ => ⟨p, vs, by rw [ev], .inl (.inl (W2.sub _ _ hp)), q _ W2 e2 fun i W g => ?_⟩
    have hs : SqL c.K W.H p vs := .inl (.inl (W.sub _ _ (g _ _ hp)))
    refine ⟨fun hi => ⟨vs, hs, by rw [enum_len] at hi; exact al.1 ▸ hi⟩, fun x hx => ?_⟩
    obtain ⟨x1, x2⟩ := enum_get hx
    obtain ⟨u, hu, r⟩ := al.get x2
    refine ⟨⟨vs, u, hs, hu⟩, fun v H' ⟨T, y, ev, nT, eh, k⟩ => ⟨W.nf T _, eh.symm, Le.nf nT, ?_⟩⟩
    have := k vs hs
    rw [hu] at this
    cases this
    exact ⟨T, _, _, ev, .inl (.inl upd_same), by rw [x1]; rfl, Rp.mono (Le.nf nT).g (Rp.mono g r)⟩
theorem i_enumQ [Rp α] {te : TE} {m : R (Sq α)} (h : Exr c W0 X te As m fun x => kFr c.K x) : Ixr c W0 X (iEnum c.K (tCons te tNil)) As (m.bind fun xs => .ok (enum xs.l)) fun x => kFr c.K x := fun σ W a => by
  have h' := h σ W a
  cases m with
  | no => trivial
  | ex e => exact fun W1 e1 Q q => h' W1 e1 _ q
  | ok xs =>
    refine fun W1 e1 Q q => h' W1 e1 _ fun v W2 e2 ⟨p, vs, ev, hp, al, l⟩ => ⟨p, vs, by rw [ev], W2.sub.sql hp, q _ W2 e2 fun i W g => ?_⟩
    have hs : SqL c.K W.H p vs := W.sub.sql (g.sql hp)
    refine ⟨fun hi => ⟨vs, hs, by rw [enum_len] at hi; exact al.1 ▸ hi⟩, fun x hx => ?_⟩
    obtain ⟨x1, x2⟩ := enum_get hx
    obtain ⟨u, hu, r⟩ := al.get x2
    refine ⟨⟨vs, u, hs, hu⟩, fun v H' ⟨T, y, ev, nT, eh, k⟩ => ⟨W.nf T _, eh.symm, Le.nf nT, ?_⟩⟩
    have := k vs hs
    rw [hu] at this
    cases this
    exact ⟨T, _, _, ev, .inl (.inl upd_same), by rw [x1]; rfl, Rp.mono (Le.nf nT).g (Rp.mono g r)⟩
/-- reversed of a list -/
theorem i_rev [Rp α] {te : TE} {m : R (List α)} (h : Exr c W0 X te As m fun x => kFr c.K x) : Ixr c W0 X (iRev c.K (tCons te tNil)) As (m.bind fun xs => .ok xs.reverse) fun x => kFr c.K x := fun σ W a => by
  have h' := h σ W a
  cases m with
  | no => trivial
  | ex e => exact fun W1 e1 Q q => h' W1 e1 _ q
  | ok xs =>
    refine fun W1 e1 Q q => h' W1 e1 _ fun v W2 e2 ⟨p, vs, ev, hp, al, l⟩ => ⟨p, vs, by rw [ev], .inl (.inl (W2.sub _ _ hp)), q _ W2 e2 fun i W g => ?_⟩
    have hs : SqL c.K W.H p vs := .inl (.inl (W.sub _ _ (g _ _ hp)))
    refine ⟨fun hi => by simp at hi; exact al.1 ▸ hi, fun x hx => ?_⟩
    have hi : i < xs.length := by have := (List.getElem?_eq_some_iff.mp hx).1; simpa using this
    rw [List.getElem?_reverse hi] at hx
    obtain ⟨u, hu, r⟩ := al.get hx
    rw [al.1] at hu
    refine ⟨⟨al.1 ▸ hi, vs, u, hs, hu⟩, fun v H' ⟨eh, k⟩ => ⟨W, eh.symm, Le.refl _, ?_⟩⟩
    have := k vs hs
    rw [hu] at this
    cases this
    exact Rp.mono g r
/-- the signs of a text -/
def signs (s : Str) : List Str := s.cps.toList.map fun x => ⟨#[x]⟩
theorem i_str {te : TE} {m : R Str} (h : Exr c W0 X te As m fun x => kFr c.K x) : Ixr c W0 X (iStr te) As (m.bind fun s => .ok (signs s)) fun x => kFr c.K x := fun σ W a => by
  have h' := h σ W a
  cases m with
  | no => trivial
  | ex e => exact fun W1 e1 Q q => h' W1 e1 _ q
  | ok s =>
    refine fun W1 e1 Q q => h' W1 e1 _ fun v W2 e2 ⟨ev, so⟩ => ⟨s, ev, q _ W2 e2 fun i W g => ?_⟩
    refine ⟨fun hi => by
      have hi' : s.cps.size ≤ i := by simpa [signs] using hi
      exact hi', fun x hx => ?_⟩
    have hi : i < s.cps.size := by have := (List.getElem?_eq_some_iff.mp hx).1; simpa [signs] using this
    refine ⟨hi, fun v H' ⟨eh, cd, hc, ev⟩ => ⟨W, eh.symm, Le.refl _, ?_⟩⟩
    unfold signs at hx
    rw [List.getElem?_map, Array.getElem?_toList, hc] at hx
    cases hx
    refine ⟨ev, (by decide : (1 : Nat) ≤ sizeLine), ?_⟩
    have h2 := so.2
    rw [Array.all_eq_true] at h2
    have := h2 i hi
    obtain ⟨_, e3⟩ := Array.getElem?_eq_some_iff.mp hc
    rw [e3] at this
    simpa using this
/-- zip of two lists -/
theorem zip_get {xs : List α} {ys : List β} {i : Nat} {x : α × β} (h : (xs.zip ys)[i]? = some x) : xs[i]? = some x.1 ∧ ys[i]? = some x.2 := by
  rw [List.getElem?_zip_eq_some] at h
  exact h
theorem i_zip [Rp α] [Rp β] {te tf : TE} {m : R (List α)} {n : R (List β)} (h : Exr c W0 X te As m fun x => kFr c.K x) (h2 : Exr c W0 X tf As n fun x => kFr c.K x) :
    Ixr c W0 X (iZip c.K (tCons te (tCons tf tNil))) As (m.bind fun xs => n.bind fun ys => .ok (xs.zip ys)) fun x => kFr c.K x := fun σ W a => by
  have h' := h σ W a
  have h2' := h2 σ W a
  cases m with
  | no => trivial
  | ex e => exact fun W1 e1 Q q => h' W1 e1 _ q
  | ok xs =>
    cases n with
    | no => trivial
    | ex e => exact fun W1 e1 Q q => h' W1 e1 _ fun v W2 e2 r => h2' W2 (e1.trans e2) _ fun cls d W3 e3 z => q cls d W3 (e2.trans e3) z
    | ok ys =>
      refine fun W1 e1 Q q => h' W1 e1 _ fun v W2 e2 ⟨p, vs, ev, hp, al, l⟩ => h2' W2 (e1.trans e2) _ fun u W3 e3 ⟨p2, vs2, ev2, hp2, al2, l2⟩ =>
        ⟨p, p2, vs, vs2, by rw [ev, ev2], .inl (.inl (W3.sub _ _ (e3.g _ _ hp))), .inl (.inl (W3.sub _ _ hp2)), q _ W3 (e2.trans e3) fun i W g => ?_⟩
      have hs : SqL c.K W.H p vs := .inl (.inl (W.sub _ _ (g _ _ (e3.g _ _ hp))))
      have hs2 : SqL c.K W.H p2 vs2 := .inl (.inl (W.sub _ _ (g _ _ hp2)))
      refine ⟨fun hi => ⟨vs, vs2, hs, hs2, ?_⟩, fun x hx => ?_⟩
      · rw [List.length_zip] at hi
        have := al.1
        have := al2.1
        omega
      · obtain ⟨x1, x2⟩ := zip_get hx
        obtain ⟨u1, hu1, r1⟩ := al.get x1
        obtain ⟨u2, hu2, r2⟩ := al2.get x2
        refine ⟨⟨vs, vs2, u1, u2, hs, hs2, hu1, hu2⟩, fun v H' ⟨T, y, y2, ev, nT, eh, k, k2⟩ => ⟨W.nf T _, eh.symm, Le.nf nT, ?_⟩⟩
        have := k vs hs
        rw [hu1] at this
        cases this
        have := k2 vs2 hs2
        rw [hu2] at this
        cases this
        exact ⟨T, _, _, ev, .inl (.inl upd_same), Rp.mono (Le.nf nT).g (Rp.mono (e3.g.trans g) r1), Rp.mono (Le.nf nT).g (Rp.mono g r2)⟩
/-! ### comprehensions -/
def lcGo : List α → (α → R Bool) → (α → R β) → R (List β)
  | [], _, _ => .ok []
  | x :: xs, p, f => match p x with
    | .ok true => match f x with
      | .ok y => match lcGo xs p f with
        | .ok ys => .ok (y :: ys)
        | _ => .no
      | _ => .no
    | .ok false => lcGo xs p f
    | _ => .no
@[irreducible] def R.lc (xs : List α) (p : α → R Bool) (f : α → R β) : R (List β) := if xs.length ≤ sizeLine then lcGo xs p f else .no
theorem lcGo_ok (p : α → Bool) (f : α → β) : ∀ xs : List α, lcGo xs (fun x => .ok (p x)) (fun x => .ok (f x)) = .ok ((xs.filter p).map f)
  | [] => rfl
  | x :: xs => by
    unfold lcGo
    rw [lcGo_ok p f xs]
    cases h : p x with
    | true => simp [List.filter_cons, h]
    | false => simp [List.filter_cons, h]
def wipeS (As : List Sl) : List Nat → List Sl
  | [] => As
  | v :: vs => (wipeS As vs).set v .un
theorem At.wipe {K : Frag} {W : Wd} {σ : St} (h : At K W0 As σ W) : ∀ vs, At K W0 (wipeS As vs) (wipe σ vs) W
  | [] => h
  | v :: vs => (At.wipe h vs).set trivial
/-- what stands outside some slots is as it was -/
def Same (is : List Nat) (σ σ' : St) : Prop := σ'.length = σ.length ∧ ∀ j, j ∉ is → σ'[j]? = σ[j]?
theorem wipe_get {σ : St} {j : Nat} : ∀ {vs : List Nat}, (L2.wipe σ vs)[j]? = if j ∈ vs then (if j < σ.length then some none else none) else σ[j]?
  | [] => by simp [L2.wipe]
  | v :: vs => by
    show ((L2.wipe σ vs).set v none)[j]? = _
    rw [List.getElem?_set]
    by_cases q : v = j
    · subst q
      simp [wipe_length]
    · rw [if_neg q, wipe_get (vs := vs)]
      by_cases z : j ∈ vs
      · rw [if_pos z, if_pos (List.mem_cons_of_mem _ z)]
      · rw [if_neg z, if_neg (fun m => (List.mem_cons.mp m).elim (fun w => q w.symm) z)]
theorem wipe_same {σ σ2 : St} {vs : List Nat} (h : Same vs (L2.wipe σ vs) σ2) : L2.wipe σ2 vs = L2.wipe σ vs := by
  apply List.ext_getElem?
  intro j
  rw [wipe_get]
  by_cases z : j ∈ vs
  · rw [if_pos z, wipe_get, if_pos z, h.1, wipe_length]
  · rw [if_neg z]
    exact h.2 j z
/-- a target that touches some slots alone -/
def TgS (c : Cn) (g : TG) (is : List Nat) (As : List Sl) (k : α → Kd) (Bs : α → List Sl) : Prop := ∀ W0 x σ W A v, At c.K W0 As σ W → (k x).p A v W → ∀ Q : St → Hp → Prop, (∀ σ', Same is σ σ' → At c.K W0 (Bs x) σ' W → Q σ' W.H) → g v σ W.H Q
theorem TgS.tg {g : TG} {is : List Nat} {k : α → Kd} {Ts : α → List Sl} (h : TgS c g is As k Ts) : Tg c W0 g As k Ts := fun x σ W A v a r Q q => h W0 x σ W A v a r Q fun σ' _ a' => q σ' a'
theorem same_set {σ : St} {i : Nat} {o : Option V} {is : List Nat} (h : i ∈ is) : Same is σ (σ.set i o) := ⟨by simp, fun j hj => by
  rw [List.getElem?_set, if_neg]
  intro q
  subst q
  exact hj h⟩
theorem Same.trans {is : List Nat} {a b d : St} (h : Same is a b) (k : Same is b d) : Same is a d := ⟨k.1.trans h.1, fun j hj => (k.2 j hj).trans (h.2 j hj)⟩
theorem gs_name [Rp α] (i : Nat) : TgS c (gName i) [i] As (fun x : α => kFr c.K x) (fun x => As.set i (.fr x)) := fun W0 x σ W A v a r Q q => q _ (same_set (by simp)) (a.setF r)
theorem gs_tup2 [Rp α] [Rp β] (i j : Nat) : TgS c (gTup c.K 2 (gCons (gName i) (gCons (gName j) gNil))) [i, j] As (fun x : α × β => kFr c.K x) (fun x => (As.set i (.fr x.1)).set j (.fr x.2)) := fun W0 x σ W A v a ⟨p, va, vb, ev, hp, r1, r2⟩ Q q =>
  ⟨p, [va, vb], ev, W.sub.sqt hp, rfl, va, [vb], rfl, vb, [], rfl, rfl, q _ ((same_set (by simp)).trans (same_set (by simp))) ((a.setF r1).setF r2)⟩
def xF : WX := fun _ _ _ _ => False
theorem t_yes : Txp c W0 tYes As true := fun σ W a W1 e Q q => q W1 (Le.refl _)
/-- what a comprehension walks: owned things too stay as they are meanwhile -/
def GivesH (J : It) (W1 : Wd) (xs : List α) (k : α → Kd) : Prop := ∀ (i : Nat) (W : Wd), Le W1 W → (xs.length ≤ i → J.stop i W.H) ∧ ∀ x, xs[i]? = some x → J.go i W.H ∧ ∀ v H', J.yld i W.H v H' → ∃ W', W'.H = H' ∧ Le W W' ∧ (k x).p W v W'
def IxH (c : Cn) (W0 : Wd) (X : WX) (wi : TI) (As : List Sl) (m : R (List α)) (k : α → Kd) : Prop := ∀ σ W, At c.K W0 As σ W →
  SatR m (fun xs => ∀ W1, Le W W1 → ∀ Q : It → Hp → Prop, (∀ J W2, Le W1 W2 → GivesH J W2 xs k → Q J W2.H) → wi σ W1.H Q) (fun e => ∀ W1, Le W W1 → ∀ Q, (∀ cls d W2, Le W1 W2 → ExAt c.M e cls d W2 → X cls d σ W2.H) → wi σ W1.H Q)
theorem ixh {wi : TI} {m : R (List α)} {k : α → Kd} (h : Ixr c W0 X wi As m k) : IxH c W0 X wi As m k := fun σ W a => by
  have h' := h σ W a
  cases m with
  | no => trivial
  | ex e => exact h'
  | ok xs => exact fun W1 e1 Q q => h' W1 e1 Q fun J W2 e2 g => q J W2 e2 fun i W e => g i W e.g
theorem i_listS [Rp α] {te : TE} {m : R (List α)} (h : Exr c W0 X te As m fun x => kSh c.K x) : IxH c W0 X (iList c.K te) As m fun x => kFr c.K x := fun σ W a => by
  have h' := h σ W a
  cases m with
  | no => trivial
  | ex e => exact fun W1 e1 Q q => h' W1 e1 _ q
  | ok xs =>
    refine fun W1 e1 Q q => h' W1 e1 _ fun v W2 e2 ⟨p, vs, ev, hp, al, l⟩ => ⟨p, ev, ⟨vs, hp⟩, q _ W2 e2 fun i W g => ?_⟩
    have hs : SqL c.K W.H p vs := g.h.sql hp
    refine ⟨fun hi => ⟨vs, hs, al.1 ▸ hi⟩, fun x hx => ?_⟩
    obtain ⟨u, hu, r⟩ := al.get hx
    refine ⟨⟨vs, u, hs, hu⟩, fun v H' ⟨eh, k⟩ => ⟨W, eh.symm, Le.refl _, ?_⟩⟩
    have := k vs hs
    rw [hu] at this
    cases this
    exact Rp.mono g.g r
/-- [e for x in xs if t] -/
theorem r_lcG [Rp β] {wi : TI} {g : TG} {tt : TT} {te : TE} {vs : List Nat} {m : R (List α)} {k : α → Kd} {Ts : α → List Sl} {p : α → R Bool} {f : α → R β} (hi : IxH c W0 X wi As m k) (hg : TgS c g vs (wipeS As vs) k Ts)
    (ht : ∀ x, Txr c W0 xF tt (Ts x) (p x)) (he : ∀ x, Exr c W0 xF te (Ts x) (f x) fun y => kFr c.K y) : Exr c W0 X (tLc wi g tt te vs) As (m.bind fun xs => R.lc xs p f) fun ys => kNw c.K ys := fun σ W a => by
  have h' := hi σ W a
  cases m with
  | no => trivial
  | ex e => exact fun W1 e1 Q q => h' W1 e1 _ q
  | ok xs =>
    show SatR (R.lc xs p f) _ _
    unfold R.lc
    by_cases hl : xs.length ≤ sizeLine
    · rw [if_pos hl]
      cases hz : lcGo xs p f with
      | no => trivial
      | ex e =>
        exfalso
        revert hz
        clear hi h' ht he hl a
        induction xs with
        | nil => intro z; cases z
        | cons x xs ih =>
          unfold lcGo
          intro z
          split at z
          · split at z
            · split at z <;> cases z
            · cases z
          · exact ih z
          · cases z
      | ok zs =>
        refine fun W1 e1 Q q => h' W1 e1 _ fun Jt W2 e2 gv Dl hD => ?_
        refine ⟨fun i n H => ∃ (Wd' : Wd) (ys ws : List _) (ls : List V), H = Wd'.H ∧ Le W2 Wd' ∧ Wd'.G Dl = none ∧ Wd'.H Dl = some (.lst ls) ∧ Al (fun x v => Rp.rep c.K x v Wd'.G) ys ls ∧ ys.length ≤ i ∧ lcGo (xs.drop i) p f = .ok ws ∧ zs = ys ++ ws ∧ n = xs.length - i ∧ i ≤ xs.length,
          ⟨xs.length, W2.no Dl _ hD, [], zs, [], rfl, Le.no hD, W2.sub.nope hD, upd_same, Al.nil, Nat.zero_le _, hz, rfl, rfl, Nat.zero_le _⟩, ?_⟩
        rintro i n H ⟨Wi, ys, ws, ls, rfl, ei, gD, hDl, al, yl, hw, ez, rfl, il⟩
        obtain ⟨g1, g2⟩ := gv i Wi ei
        by_cases ci : i = xs.length
        · refine .inl ⟨g1 (by omega), ?_⟩
          rw [ci, List.drop_length] at hw
          cases hw
          rw [List.append_nil] at ez
          subst ez
          exact q _ Wi (e2.trans ei) ⟨[Dl], ⟨Dl, ls, rfl, rfl, gD, hDl, al, by omega⟩, fun b hb => by rw [List.mem_singleton.mp hb]; exact e2.fr hD⟩
        · have hx : xs[i]? = some (xs[i]'(by omega)) := List.getElem?_eq_getElem (by omega)
          obtain ⟨go, yld⟩ := g2 _ hx
          rw [drop_cons hx] at hw
          refine .inr ⟨go, fun H' => ∃ (Wd' : Wd) (ys ws : List _) (ls : List V), H' = Wd'.H ∧ Le W2 Wd' ∧ Wd'.G Dl = none ∧ Wd'.H Dl = some (.lst ls) ∧ Al (fun x v => Rp.rep c.K x v Wd'.G) ys ls ∧ ys.length ≤ i + 1 ∧ lcGo (xs.drop (i + 1)) p f = .ok ws ∧ zs = ys ++ ws,
            fun H' ⟨W', ys', ws', ls', a1, a2, a3, a4, a5, a6, a7, a8⟩ => ⟨xs.length - (i + 1), by omega, W', ys', ws', ls', a1, a2, a3, a4, a5, a6, a7, a8, rfl, by omega⟩, fun v H' hy => ?_⟩
          obtain ⟨W', eh, le', kp⟩ := yld v H' hy
          subst eh
          have aW : At c.K W0 As σ W' := a.mono ((e1.trans e2).trans (ei.trans le'))
          refine hg W0 _ _ W' Wi v (aW.wipe vs) kp _ fun σ2 sm a2 => ⟨wipe_same sm, ?_⟩
          have d3 : W'.H Dl = some (.lst ls) := le'.h _ _ hDl
          have ht' := ht (xs[i]'(by omega)) σ2 W' a2
          have he' := he (xs[i]'(by omega)) σ2
          unfold lcGo at hw
          revert hw ht' he'
          generalize p (xs[i]'(by omega)) = pb
          generalize f (xs[i]'(by omega)) = fb
          intro ht' he' hw
          cases pb with
          | no => cases hw
          | ex e => cases hw
          | ok b =>
            refine ht' W' (Le.refl _) _ fun W3 e3 => ?_
            cases b with
            | false =>
              rw [if_neg (by decide)]
              exact ⟨W3, ys, ws, ls, rfl, (ei.trans le').trans e3, e3.o _ (le'.o _ gD (by rw [hDl]; exact fun z => nomatch z)) (by rw [d3]; exact fun z => nomatch z), e3.h _ _ d3, al_mono al (le'.g.trans e3.g), by omega, hw, ez⟩
            | true =>
              rw [if_pos rfl]
              cases fb with
              | no => cases hw
              | ex e => cases hw
              | ok y =>
                refine he' W3 (a2.mono e3) W3 (Le.refl _) _ fun u W4 e4 r => ?_
                have gD4 : W4.G Dl = none := (le'.trans (e3.trans e4)).o _ gD (by rw [hDl]; exact fun z => nomatch z)
                have d4 : W4.H Dl = some (.lst ls) := e4.h _ _ (e3.h _ _ d3)
                dsimp only at hw
                cases hr : lcGo (xs.drop (i + 1)) p f with
                | no => rw [hr] at hw; cases hw
                | ex e => rw [hr] at hw; cases hw
                | ok ws' =>
                  rw [hr] at hw
                  cases hw
                  refine ⟨ls, d4, by have := al.1; omega, W4.mt Dl _ gD4, ys ++ [y], ws', ls ++ [u], rfl, (ei.trans (le'.trans (e3.trans e4))).mt gD4 hD, gD4, upd_same, (al_mono al (le'.trans (e3.trans e4)).g).app (Al.one r), by simp; omega, rfl, by rw [ez]; simp⟩
    · rw [if_neg hl]
      trivial
@[irreducible] def R.lcT (xs : List α) (p : α → Bool) (f : α → β) : R (List β) := if xs.length ≤ sizeLine then .ok ((xs.filter p).map f) else .no
@[irreducible] def R.lcM (xs : List α) (f : α → β) : R (List β) := if xs.length ≤ sizeLine then .ok (xs.map f) else .no
theorem lcT_eq (xs : List α) (p : α → Bool) (f : α → β) : R.lc xs (fun x => .ok (p x)) (fun x => .ok (f x)) = R.lcT xs p f := by
  unfold R.lc R.lcT
  rw [lcGo_ok]
theorem lcM_eq (xs : List α) (f : α → β) : R.lc xs (fun _ => .ok true) (fun x => .ok (f x)) = R.lcM xs f := by
  have h := lcT_eq xs (fun _ => true) f
  rw [h]
  unfold R.lcT R.lcM
  rw [List.filter_eq_self.mpr (by simp)]
theorem r_lcT [Rp β] {wi : TI} {g : TG} {tt : TT} {te : TE} {vs : List Nat} {m : R (List α)} {k : α → Kd} {Ts : α → List Sl} {p : α → Bool} {f : α → β} (hi : IxH c W0 X wi As m k) (hg : TgS c g vs (wipeS As vs) k Ts)
    (ht : ∀ x, Txp c W0 tt (Ts x) (p x)) (he : ∀ x, Exp c W0 te (Ts x) (kFr c.K (f x))) : Exr c W0 X (tLc wi g tt te vs) As (m.bind fun xs => R.lcT xs p f) fun ys => kNw c.K ys := by
  have h := r_lcG hi hg (fun x => txr_p (ht x)) (fun x => exr_p (k := fun y => kFr c.K y) (he x))
  rw [show (fun xs => R.lc xs (fun x => R.ok (p x)) fun x => R.ok (f x)) = fun xs => R.lcT xs p f from funext fun xs => lcT_eq xs p f] at h
  exact h
theorem r_lcM [Rp β] {wi : TI} {g : TG} {te : TE} {vs : List Nat} {m : R (List α)} {k : α → Kd} {Ts : α → List Sl} {f : α → β} (hi : IxH c W0 X wi As m k) (hg : TgS c g vs (wipeS As vs) k Ts)
    (he : ∀ x, Exp c W0 te (Ts x) (kFr c.K (f x))) : Exr c W0 X (tLc wi g tYes te vs) As (m.bind fun xs => R.lcM xs f) fun ys => kNw c.K ys := by
  have h := r_lcG hi hg (fun x => txr_p t_yes) (fun x => exr_p (k := fun y => kFr c.K y) (he x))
  rw [show (fun xs => R.lc xs (fun x => R.ok true) fun x => R.ok (f x)) = fun xs => R.lcM xs f from funext fun xs => lcM_eq xs f] at h
  exact h
/-! ### defs -/
def noOw : List Sl → Prop
  | [] => True
  | .un :: r => noOw r
  | @Sl.fr _ _ _ :: r => noOw r
  | @Sl.ow _ _ _ _ :: _ => False
theorem noOw_get {K : Frag} {o : Option V} {W : Wd} {f f' : List Addr} {A : Sl} : ∀ {As : List Sl} {i : Nat}, noOw As → As[i]? = some A → Hd K A o W f → Hd K A o W f' := by
  intro As
  induction As with
  | nil => intro i _ h; simp at h
  | cons B r ih =>
    intro i n h hd
    cases B with
    | un =>
      cases i with
      | zero => cases h; trivial
      | succ i => exact ih (i := i) n h hd
    | fr x =>
      cases i with
      | zero => cases h; exact hd
      | succ i => exact ih (i := i) n h hd
    | ow pin x => exact False.elim n
theorem noOw_uns : ∀ n, noOw (List.replicate n .un) := by
  intro n
  induction n with
  | zero => exact True.intro
  | succ n ih => exact ih
class Args (τ : Type) where
  reps : Frag → τ → List V → Hp → Prop
  mono : ∀ {K : Frag} {x : τ} {vs : List V} {G H : Hp}, Inc G H → reps K x vs G → reps K x vs H
  sl : τ → List Sl
  num : Nat
  len : ∀ {K : Frag} {x : τ} {vs : List V} {G : Hp}, reps K x vs G → vs.length = num
  no : ∀ (x : τ) (r : List Sl), noOw r → noOw (sl x ++ r)
  at_ : ∀ {K : Frag} {W0 W : Wd} {x : τ} {vs : List V} {rest : List Sl} {σ : St}, reps K x vs W.G → At K W0 rest σ W → At K W0 (sl x ++ rest) (vs.map some ++ σ) W
instance : Args Unit := ⟨fun _ _ vs _ => vs = [], fun _ h => h, fun _ => [], 0, fun h => by rw [h]; rfl, fun _ _ h => h, fun h a => by rw [h]; exact a⟩
theorem At.cons {K : Frag} {W0 W : Wd} {A : Sl} {o : Option V} {σ : St} (h : At K W0 As σ W) (hA : Hd K A o W []) : At K W0 (A :: As) (o :: σ) W := by
  obtain ⟨l, le, F, h1, h2, h3⟩ := h
  refine ⟨by simp [l], le, fun j => match j with | 0 => [] | j + 1 => F j, fun j B p a b => ?_, fun j k a n ha hb => ?_, fun j a ha => ?_⟩
  · cases j with
    | zero => cases a; cases b; exact hA
    | succ j => exact h1 j B p a b
  · cases j with
    | zero => cases ha
    | succ j =>
      cases k with
      | zero => cases hb
      | succ k => exact h2 j k a (fun q => n (congrArg _ q)) ha hb
  · cases j with
    | zero => cases ha
    | succ j => exact h3 j a ha
instance [Rp α] [Args τ] : Args (α × τ) where
  reps K x vs G := ∃ v r, vs = v :: r ∧ Rp.rep K x.1 v G ∧ Args.reps K x.2 r G
  mono s := fun ⟨v, r, e, a, b⟩ => ⟨v, r, e, Rp.mono s a, Args.mono s b⟩
  sl x := .fr x.1 :: Args.sl x.2
  num := Args.num τ + 1
  len := fun ⟨v, r, e, a, b⟩ => by rw [e, List.length_cons, Args.len b]
  no x r h := Args.no x.2 r h
  at_ := fun ⟨v, r, e, a, b⟩ h => by
    subst e
    exact (Args.at_ b h).cons ⟨v, rfl, a⟩
/-- the promise of a def: it hands back, or raises, what the mirror says -/
def spF (c : Cn) [Args τ] (f : τ → R ρ) (kr : ρ → Kd) : Sp := fun vs H Q E => ∃ (W : Wd) (x : τ), W.H = H ∧ Args.reps c.K x vs W.G ∧ match f x with
  | .ok r => ∀ v W', Le W W' → (kr r).p W v W' → Q v W'.H
  | .ex e => ∀ cls d W', Le W W' → ExAt c.M e cls d W' → E cls d W'.H
  | .no => False
theorem spF_len [Args τ] {f : τ → R ρ} {kr : ρ → Kd} (vs : List V) (H : Hp) (Q : VK) (E : XK) (h : spF c f kr vs H Q E) : vs.length = Args.num τ := by
  obtain ⟨W, x, _, r, _⟩ := h
  exact Args.len r
def uns (n : Nat) : List Sl := List.replicate n .un
theorem at_uns {K : Frag} {W : Wd} : ∀ n, At K W (uns n) (List.replicate n none) W
  | 0 => ⟨rfl, Le.refl _, fun _ => [], fun i A o a => by simp [uns] at a, fun i j a _ h => (List.not_mem_nil h).elim, fun i a h => (List.not_mem_nil h).elim⟩
  | n + 1 => (at_uns n).cons (A := .un) (o := none) trivial
theorem wk_uns : ∀ {As : List Sl} {n : Nat}, As.length = n → Wk As (uns n)
  | [], _, h => by subst h; exact Wk.nil
  | A :: As, _, h => by subst h; exact Wk.drop (wk_uns rfl)
/-- a def's ground at its start -/
def bd0 (W : Wd) : Bd := ⟨W, W, W, Le.refl _, Le.refl _⟩
abbrev x0 (E : XK) : WX := fun cls d _ H => E cls d H
/-- a body whose ways all return keeps the promise -/
theorem fn_run [Args τ] {f : τ → R ρ} {m : τ → Out Unit Unit ρ} {kr : ρ → Kd} {N : List Str} {n : Nat} {t : TS} {vs : List V} {H : Hp} {Q : VK} {E : XK} {Bs : Unit → List Sl} (h : spF c f kr vs H Q E) (hN : N.length = Args.num τ + n) (hm : ∀ x, f x = (m x).run)
    (hd : ∀ (W : Wd) x, Den c (x0 E) kr (uns N.length) (fun _ : Unit => []) (bd0 W) t (Args.sl x ++ uns n) (m x) Bs) : t { nx := fun _ H' => Q .non H', rt := Q } (start N vs) H := by
  obtain ⟨W, x, eh, r, k⟩ := h
  subst eh
  have hl := Args.len r
  have a0 : At c.K W (Args.sl x ++ uns n) (start N vs) W := by
    unfold L2.start
    rw [hl, hN, Nat.add_sub_cancel_left]
    exact Args.at_ r (at_uns n)
  refine hd W x _ _ W a0 ?_
  rw [hm x] at k
  revert k
  generalize m x = o
  intro k
  cases o with
  | nx s => exact k.elim
  | rt r => exact fun v W' l p => k v W' l p
  | bk j => exact k.elim
  | ct j => exact k.elim
  | ex e => exact k.elim
  | no => exact k.elim
/-- a body that may end without a return -/
theorem fn_fin [Args τ] {f : τ → R Unit} {m : τ → Out Unit Unit Unit} {N : List Str} {n : Nat} {t : TS} {vs : List V} {H : Hp} {Q : VK} {E : XK} {Bs : Unit → List Sl} (h : spF c f (fun x => kFr c.K x) vs H Q E) (hN : N.length = Args.num τ + n) (hm : ∀ x, f x = (m x).fin fun _ => .ok ())
    (hd : ∀ (W : Wd) x, Den c (x0 E) (fun x : Unit => kFr c.K x) (uns N.length) (fun _ : Unit => []) (bd0 W) t (Args.sl x ++ uns n) (m x) Bs) : t { nx := fun _ H' => Q .non H', rt := Q } (start N vs) H := by
  obtain ⟨W, x, eh, r, k⟩ := h
  subst eh
  have hl := Args.len r
  have a0 : At c.K W (Args.sl x ++ uns n) (start N vs) W := by
    unfold L2.start
    rw [hl, hN, Nat.add_sub_cancel_left]
    exact Args.at_ r (at_uns n)
  refine hd W x _ _ W a0 ?_
  rw [hm x] at k
  revert k
  generalize m x = o
  intro k
  cases o with
  | nx s => exact fun σ' W' a => k .non W' a.le rfl
  | rt r => exact fun v W' l p => k v W' l p
  | bk j => exact k.elim
  | ct j => exact k.elim
  | ex e => exact k.elim
  | no => exact k.elim
/-- arguments of a def, all frozen -/
def kAs (K : Frag) [Args τ] (x : τ) : KdA := ⟨fun _ vs W => Args.reps K x vs W.G, fun h e => Args.mono e.g h, fun _ h => h⟩
theorem aa_nil : Axp c W0 tNil As (kAs c.K ()) := fun σ W a W1 e Q q => q [] W1 (Le.refl _) rfl
theorem aa_cons [Rp α] [Args τ] {te : TE} {ta : TA} {x : α} {y : τ} (h : Exp c W0 te As (kFr c.K x)) (hr : Axp c W0 ta As (kAs c.K y)) : Axp c W0 (tCons te ta) As (kAs c.K (x, y)) := fun σ W a W1 e Q q =>
  h σ W a W1 e _ fun v W2 e2 p => hr σ W a W2 (e.trans e2) _ fun vs W3 e3 ps => q _ W3 (e2.trans e3) ⟨v, vs, rfl, Rp.mono e3.g p, ps⟩
theorem aar_nil : Axr c W0 X tNil As (.ok ()) (fun x => kAs c.K x) := axr_p (k := fun x => kAs c.K x) aa_nil
theorem aar_cons [Rp α] [Args τ] {te : TE} {ta : TA} {m : R α} {n : R τ} (h : Exr c W0 X te As m fun x => kFr c.K x) (hr : Axr c W0 X ta As n fun x => kAs c.K x) :
    Axr c W0 X (tCons te ta) As (m.bind fun x => n.bind fun y => .ok (x, y)) (fun z => kAs c.K z) := fun σ W a => by
  have h' := h σ W a
  have hr' := hr σ W a
  cases m with
  | no => trivial
  | ex e => exact fun W1 e1 Q q => h' W1 e1 _ q
  | ok x =>
    cases n with
    | no => trivial
    | ex e => exact fun W1 e1 Q q => h' W1 e1 _ fun v W2 e2 p => hr' W2 (e1.trans e2) _ fun cls d W3 e3 z => q cls d W3 (e2.trans e3) z
    | ok y => exact fun W1 e Q q => h' W1 e _ fun v W2 e2 p => hr' W2 (e.trans e2) _ fun vs W3 e3 ps => q _ W3 (e2.trans e3) ⟨v, vs, rfl, Rp.mono e3.g p, ps⟩
/-- a call of a def -/
theorem r_call [Args τ] {f : τ → R ρ} {kr : ρ → Kd} {ta : TA} {m : R τ} (h : Axr c W0 X ta As m fun x => kAs c.K x) : Exr c W0 X (tCallS (spF c f kr) (WE X) ta) As (m.bind f) kr := fun σ W a => by
  have h' := h σ W a
  cases m with
  | no => trivial
  | ex e => exact fun W1 e1 Q q => h' W1 e1 _ q
  | ok x =>
    show SatR (f x) _ _
    cases hf : f x with
    | no => trivial
    | ex e => exact fun W1 e1 Q q => h' W1 e1 _ fun vs W2 e2 r => ⟨W2, x, rfl, r, by rw [hf]; exact fun cls d W3 e3 z => q cls d W3 (e2.trans e3) z⟩
    | ok y => exact fun W1 e1 Q q => h' W1 e1 _ fun vs W2 e2 r => ⟨W2, x, rfl, r, by rw [hf]; exact fun v W3 e3 p => q v W3 (e2.trans e3) ((kr y).dn e2 p)⟩
theorem r_call1 [Args τ] {f : τ → R ρ} {kr : ρ → Kd} {ta : TA} {x : τ} (h : Axp c W0 ta As (kAs c.K x)) {m : R ρ} (hk : f x = m) : Exr c W0 X (tCallS (spF c f kr) (WE X) ta) As m kr := hk ▸ r_call (m := .ok x) h
end
end Fw

namespace Fw
open PySem L2
section
variable {c : Cn} {W0 : Wd} {X : WX} {As Bs : List Sl} {α β γ δ τ ρ : Type} {K : Frag}
/-! ### ints -/
theorem o_int (g : Int → Int → Int) : Op2 (rI0 fun i j => .int (g i j)) (fun x : Int => kFr K x) (fun x : Int => kFr K x) (fun x y => .ok (g x y)) (fun z : Int => kFr K z) := fun x y W0 W v w hv hw Q q => ⟨x, y, hv, hw, q _ W (Le.refl _) rfl⟩
theorem o_cmp (g : Int → Int → Bool) : Op2 (rI0 fun i j => .bl (g i j)) (fun x : Int => kFr K x) (fun x : Int => kFr K x) (fun x y => .ok (g x y)) (fun z : Bool => kFr K z) := fun x y W0 W v w hv hw Q q => ⟨x, y, hv, hw, q _ W (Le.refl _) rfl⟩
def R.cI (C : Int → Int → Prop) [DecidableRel C] (g : Int → Int → Int) (x y : Int) : R Int := if C x y then .ok (g x y) else .no
theorem o_chk {C : Int → Int → Prop} [DecidableRel C] (g : Int → Int → Int) : Op2 (rI C fun i j => .int (g i j)) (fun x : Int => kFr K x) (fun x : Int => kFr K x) (R.cI C g) (fun z : Int => kFr K z) := fun x y => by
  unfold R.cI
  split
  · rename_i z e
    by_cases h : C x y
    · rw [if_pos h] at e
      cases e
      exact fun W0 W v w hv hw Q q => ⟨x, y, hv, hw, h, q _ W (Le.refl _) rfl⟩
    · rw [if_neg h] at e; cases e
  · rename_i e z
    split at z <;> cases z
  · trivial
@[irreducible] def R.mod (x y : Int) : R Int := if 0 < y then .ok (x % y) else .no
@[irreducible] def R.fdiv (x y : Int) : R Int := if 0 < y ∧ y < 1073741824 then .ok (x / y) else .no
@[irreducible] def R.mul (x y : Int) : R Int := if (-(2 ^ 64) < x ∧ x < 2 ^ 64) ∨ (-(2 ^ 64) < y ∧ y < 2 ^ 64) then .ok (x * y) else .no
@[irreducible] def R.pow (x y : Int) : R Int := if 0 ≤ y ∧ y ≤ 1000000 ∧ x.natAbs < 2 ^ 64 then .ok (x ^ y.toNat) else .no
@[irreducible] def R.shl (x y : Int) : R Int := if 0 ≤ y ∧ y ≤ 1000000 ∧ x.natAbs < 2 ^ 64 then .ok (x * 2 ^ y.toNat) else .no
@[irreducible] def R.shr (x y : Int) : R Int := if 0 ≤ y then .ok (x / 2 ^ y.toNat) else .no
theorem o_of {C : Int → Int → Prop} [DecidableRel C] {g : Int → Int → Int} {f : Int → Int → R Int} (h : ∀ x y, f x y = if C x y then .ok (g x y) else .no) : Op2 (rI C fun i j => .int (g i j)) (fun x : Int => kFr K x) (fun x : Int => kFr K x) f (fun z : Int => kFr K z) := by
  have e : f = R.cI C g := funext fun x => funext fun y => h x y
  rw [e]
  exact o_chk g
instance : DecidableRel CDiv := fun i j => inferInstanceAs (Decidable (_ ∧ _))
instance : DecidableRel CPow := fun i j => inferInstanceAs (Decidable (_ ∧ _ ∧ _))
instance : DecidableRel CMul := fun i j => inferInstanceAs (Decidable (_ ∨ _))
theorem o_mod : Op2 (rI (fun _ j => 0 < j) fun i j => .int (i % j)) (fun x : Int => kFr K x) (fun x : Int => kFr K x) R.mod (fun z : Int => kFr K z) := o_of fun x y => by unfold R.mod; rfl
theorem o_fdiv : Op2 (rI CDiv fun i j => .int (i / j)) (fun x : Int => kFr K x) (fun x : Int => kFr K x) R.fdiv (fun z : Int => kFr K z) := o_of fun x y => by unfold R.fdiv; rfl
theorem o_mul : Op2 (rI CMul fun i j => .int (i * j)) (fun x : Int => kFr K x) (fun x : Int => kFr K x) R.mul (fun z : Int => kFr K z) := o_of fun x y => by unfold R.mul; rfl
theorem o_pow : Op2 (rI CPow fun i j => .int (i ^ j.toNat)) (fun x : Int => kFr K x) (fun x : Int => kFr K x) R.pow (fun z : Int => kFr K z) := o_of fun x y => by unfold R.pow; rfl
theorem o_shl : Op2 (rI CPow fun i j => .int (i * 2 ^ j.toNat)) (fun x : Int => kFr K x) (fun x : Int => kFr K x) R.shl (fun z : Int => kFr K z) := o_of fun x y => by unfold R.shl; rfl
theorem o_shr : Op2 (rI (fun _ j => 0 ≤ j) fun i j => .int (i / 2 ^ j.toNat)) (fun x : Int => kFr K x) (fun x : Int => kFr K x) R.shr (fun z : Int => kFr K z) := o_of fun x y => by unfold R.shr; rfl
/-- the right one, or the left one, is written: nothing is left to be asked -/
theorem e_cr {C : Int → Int → Prop} {g : Int → Int → Int} {ta tb : TE} {x y : Int} (h : ∀ x, C x y) (ha : Exp c W0 ta As (kFr c.K x)) (hb : Exp c W0 tb As (kFr c.K y)) {k : Kd} (hk : kFr c.K (g x y) = k) : Exp c W0 (tOp (rI C fun i j => .int (g i j)) ta tb) As k := hk ▸ fun σ W a W1 e Q q =>
  ha σ W a W1 e _ fun v W2 e2 p => hb σ W a W2 (e.trans e2) _ fun w W3 e3 p3 => ⟨x, y, p, p3, h x, q _ W3 (e2.trans e3) rfl⟩
theorem r_cr {C : Int → Int → Prop} {g : Int → Int → Int} {ta tb : TE} {m : R Int} {y : Int} (h : ∀ x, C x y) (ha : Exr c W0 X ta As m fun x => kFr c.K x) (hb : Exp c W0 tb As (kFr c.K y)) : Exr c W0 X (tOp (rI C fun i j => .int (g i j)) ta tb) As (m.bind fun x => .ok (g x y)) fun z => kFr c.K z := fun σ W a => by
  have ha' := ha σ W a
  cases m with
  | no => trivial
  | ex e => exact fun W1 e1 Q q => ha' W1 e1 _ q
  | ok x => exact fun W1 e Q q => ha' W1 e _ fun v W2 e2 p => hb σ W a W2 (e.trans e2) _ fun w W3 e3 p3 => ⟨x, y, p, p3, h x, q _ W3 (e2.trans e3) rfl⟩
theorem e_cl {C : Int → Int → Prop} {g : Int → Int → Int} {ta tb : TE} {x y : Int} (h : ∀ y, C x y) (ha : Exp c W0 ta As (kFr c.K x)) (hb : Exp c W0 tb As (kFr c.K y)) {k : Kd} (hk : kFr c.K (g x y) = k) : Exp c W0 (tOp (rI C fun i j => .int (g i j)) ta tb) As k := hk ▸ fun σ W a W1 e Q q =>
  ha σ W a W1 e _ fun v W2 e2 p => hb σ W a W2 (e.trans e2) _ fun w W3 e3 p3 => ⟨x, y, p, p3, h y, q _ W3 (e2.trans e3) rfl⟩
theorem r_cl {C : Int → Int → Prop} {g : Int → Int → Int} {ta tb : TE} {n : R Int} {x : Int} (h : ∀ y, C x y) (ha : Exp c W0 ta As (kFr c.K x)) (hb : Exr c W0 X tb As n fun x => kFr c.K x) : Exr c W0 X (tOp (rI C fun i j => .int (g i j)) ta tb) As (n.bind fun y => .ok (g x y)) fun z => kFr c.K z := fun σ W a => by
  have hb' := hb σ W a
  cases n with
  | no => trivial
  | ex e => exact fun W1 e1 Q q => ha σ W a W1 e1 _ fun v W2 e2 p => hb' W2 (e1.trans e2) _ fun cls d W3 e3 z => q cls d W3 (e2.trans e3) z
  | ok y => exact fun W1 e Q q => ha σ W a W1 e _ fun v W2 e2 p => hb' W2 (e.trans e2) _ fun w W3 e3 p3 => ⟨x, y, p, p3, h y, q _ W3 (e2.trans e3) rfl⟩
theorem o_neg : Op1 (rU fun i => .int (-i)) (fun x : Int => kFr K x) (fun x => .ok (-x)) (fun z : Int => kFr K z) := fun x W0 W v hv Q q => ⟨x, hv, q _ W (Le.refl _) rfl⟩
/-! ### == of things without a heap -/
class Eqs (α : Type) [Rp α] where
  v : α → V
  rv : ∀ {K : Frag} {x : α} {u : V} {G : Hp}, Rp.rep K x u G → u = v x
  inj : ∀ {x y : α}, v x = v y → x = y
  sc : ∀ x y : α, scal (v x) (v y) = true
instance : Eqs Int := ⟨.int, fun h => h, fun h => by cases h; rfl, fun _ _ => rfl⟩
instance : Eqs Bool := ⟨.bl, fun h => h, fun h => by cases h; rfl, fun _ _ => rfl⟩
instance : Eqs Str := ⟨.str, fun h => h.1, fun h => by cases h; rfl, fun _ _ => rfl⟩
theorem eqs_dec [Rp α] [DecidableEq α] [Eqs α] (x y : α) : decide (Eqs.v x = Eqs.v y) = decide (x = y) := by
  by_cases h : x = y
  · subst h; simp
  · rw [decide_eq_false h, decide_eq_false (fun q => h (Eqs.inj q))]
theorem o_eq [Rp α] [DecidableEq α] [Eqs α] : Op2 rEq (fun x : α => kFr K x) (fun x : α => kFr K x) (fun x y => .ok (decide (x = y))) (fun z : Bool => kFr K z) := fun x y W0 W v w hv hw Q q => by
  have h1 : v = Eqs.v x := Eqs.rv hv
  have h2 : w = Eqs.v y := Eqs.rv hw
  subst h1 h2
  exact ⟨Eqs.sc x y, q _ W (Le.refl _) (by rw [eqs_dec]; rfl)⟩
theorem o_ne [Rp α] [DecidableEq α] [Eqs α] : Op2 rNe (fun x : α => kFr K x) (fun x : α => kFr K x) (fun x y => .ok (!decide (x = y))) (fun z : Bool => kFr K z) := fun x y W0 W v w hv hw Q q => by
  have h1 : v = Eqs.v x := Eqs.rv hv
  have h2 : w = Eqs.v y := Eqs.rv hw
  subst h1 h2
  exact ⟨Eqs.sc x y, q _ W (Le.refl _) (by rw [eqs_dec]; rfl)⟩
/-- is None, is not None -/
theorem o_isN [Rp α] : Op2 (fun x y H Q => y = .non ∧ Q (.bl (decide (x = .non))) H) (fun x : Option α => kFr K x) (fun x : Unit => kFr K x) (fun x _ => .ok x.isNone) (fun z : Bool => kFr K z) := fun x y W0 W v w hv hw Q q => ⟨hw, q _ W (Le.refl _) (by
  cases x with
  | none => have : v = .non := hv; subst this; rfl
  | some y => have h := hv.1; show V.bl (decide (v = .non)) = .bl false; rw [decide_eq_false h])⟩
theorem o_notN [Rp α] : Op2 (fun x y H Q => y = .non ∧ Q (.bl (!decide (x = .non))) H) (fun x : Option α => kFr K x) (fun x : Unit => kFr K x) (fun x _ => .ok x.isSome) (fun z : Bool => kFr K z) := fun x y W0 W v w hv hw Q q => ⟨hw, q _ W (Le.refl _) (by
  cases x with
  | none => have : v = .non := hv; subst this; rfl
  | some y => have h := hv.1; show V.bl (!decide (v = .non)) = .bl true; rw [decide_eq_false h]; rfl)⟩
/-- is of truths -/
theorem o_isB : Op2 (fun x y H Q => ∃ a b, x = .bl a ∧ y = .bl b ∧ Q (.bl (decide (a = b))) H) (fun x : Bool => kFr K x) (fun x : Bool => kFr K x) (fun x y => .ok (decide (x = y))) (fun z : Bool => kFr K z) := fun x y W0 W v w hv hw Q q => ⟨x, y, hv, hw, q _ W (Le.refl _) rfl⟩
/-! ### the places of lists, tuples, texts -/
theorem ixN_at {xs : List α} {i : Int} : atI xs i = (ixN xs.length i).bind fun j => xs[j]? := rfl
theorem al_at [Rp α] {G : Hp} {xs : List α} {vs : List V} {i : Int} {x : α} (h : Al (fun x v => Rp.rep K x v G) xs vs) (hx : atI xs i = some x) : ∃ v, atI vs i = some v ∧ Rp.rep K x v G := by
  rw [ixN_at] at hx
  cases q : ixN xs.length i with
  | none => rw [q] at hx; cases hx
  | some j =>
    rw [q] at hx
    obtain ⟨v, hv, r⟩ := h.get hx
    exact ⟨v, by rw [ixN_at, ← h.1, q]; exact hv, r⟩
@[irreducible] def R.ix (xs : List α) (i : Int) : R α := .opt (atI xs i)
theorem opt_ok {o : Option α} {x : α} (h : R.opt o = .ok x) : o = some x := by
  cases o with
  | none => cases h
  | some y => cases h; rfl
theorem opt_ex {o : Option α} {e : Exc} (h : R.opt o = .ex e) : False := by
  cases o with
  | none => cases h
  | some y => cases h
theorem o_ixL [Rp α] : Op2 (rIxL K) (fun xs : List α => kSh K xs) (fun i : Int => kFr K i) R.ix (fun x : α => kFr K x) := fun xs i => by
  unfold R.ix
  split
  · rename_i z e
    intro W0 W v w ⟨p, vs, ev, hs, al, l⟩ hw Q q
    obtain ⟨u, hu, r⟩ := al_at al (opt_ok e)
    exact ⟨p, vs, i, u, ev, hw, hs, hu, q u W (Le.refl _) r⟩
  · rename_i e h; exact opt_ex h
  · trivial
theorem o_ixT [Rp α] : Op2 (rIxT K) (fun xs : Tup α => kFr K xs) (fun i : Int => kFr K i) (fun xs i => R.ix xs.l i) (fun x : α => kFr K x) := fun xs i => by
  dsimp only
  unfold R.ix
  split
  · rename_i z e
    intro W0 W v w ⟨p, vs, ev, hs, al, l⟩ hw Q q
    obtain ⟨u, hu, r⟩ := al_at al (opt_ok e)
    exact ⟨p, vs, i, u, ev, hw, W.sub.sqt hs, hu, q u W (Le.refl _) r⟩
  · rename_i e h; exact opt_ex h
  · trivial
theorem sign_ok {s : Str} {j : Nat} {d : Nat} (h : SOk s) (e : s.cps.toList[j]? = some d) : SOk ⟨#[d]⟩ := by
  refine ⟨(by decide : (1 : Nat) ≤ sizeLine), ?_⟩
  have h2 := h.2
  rw [Array.all_eq_true] at h2
  rw [Array.getElem?_toList] at e
  obtain ⟨hi, e3⟩ := Array.getElem?_eq_some_iff.mp e
  have := h2 j hi
  rw [e3] at this
  simpa using this
@[irreducible] def R.ixS (s : Str) (i : Int) : R Str := .opt ((atI s.cps.toList i).map fun d => ⟨#[d]⟩)
theorem o_ixS : Op2 rIxS (fun s : Str => kFr K s) (fun i : Int => kFr K i) R.ixS (fun x : Str => kFr K x) := fun s i => by
  unfold R.ixS
  split
  · rename_i z e
    intro W0 W v w ⟨ev, so⟩ hw Q q
    have e' := opt_ok e
    cases hd : atI s.cps.toList i with
    | none => rw [hd] at e'; cases e'
    | some d =>
      rw [hd] at e'
      cases e'
      refine ⟨s, i, d, ev, hw, so.1, hd, q _ W (Le.refl _) ⟨rfl, ?_⟩⟩
      rw [ixN_at] at hd
      cases hj : ixN s.cps.toList.length i with
      | none => rw [hj] at hd; cases hd
      | some j => rw [hj] at hd; exact sign_ok so hd
  · rename_i e h; exact opt_ex h
  · trivial
/-- t[0], t[1] of a pair and t[0] .. of three, four: the place is written -/
def AtC (r : R2) (k1 : α → Kd) (i : Int) (f : α → γ) (k3 : γ → Kd) : Prop := ∀ x (W0 W : Wd) v, (k1 x).p W0 v W → ∀ Q : VK, (∀ u W', Le W W' → (k3 (f x)).p W u W' → Q u W'.H) → r v (.int i) W.H Q
theorem e_ixc {r : R2} {ta tb : TE} {k1 : α → Kd} {k3 : γ → Kd} {i : Int} {f : α → γ} {x : α} (h : AtC r k1 i f k3) (ha : Exp c W0 ta As (k1 x)) (hb : Exp c W0 tb As (kFr c.K i)) {k : Kd} (hk : k3 (f x) = k) : Exp c W0 (tOp r ta tb) As k := hk ▸ fun σ W a W1 e Q q =>
  ha σ W a W1 e _ fun v W2 e2 p => hb σ W a W2 (e.trans e2) _ fun w W3 e3 p3 => by
    have hw : w = .int i := p3
    subst hw
    exact h x W1 W3 v ((k1 x).up p e3) Q fun u W4 e4 p4 => q u W4 (e2.trans (e3.trans e4)) ((k3 (f x)).dn (e2.trans e3) p4)
theorem r_ixc {r : R2} {ta tb : TE} {k1 : α → Kd} {k3 : γ → Kd} {i : Int} {f : α → γ} {m : R α} (h : AtC r k1 i f k3) (ha : Exr c W0 X ta As m k1) (hb : Exp c W0 tb As (kFr c.K i)) : Exr c W0 X (tOp r ta tb) As (m.bind fun x => .ok (f x)) k3 := fun σ W a => by
  have ha' := ha σ W a
  cases m with
  | no => trivial
  | ex e => exact fun W1 e1 Q q => ha' W1 e1 _ q
  | ok x =>
    refine fun W1 e Q q => ha' W1 e _ fun v W2 e2 p => hb σ W a W2 (e.trans e2) _ fun w W3 e3 p3 => ?_
    · have hw : w = .int i := p3
      subst hw
      exact h x W1 W3 v ((k1 x).up p e3) Q fun u W4 e4 p4 => q u W4 (e2.trans (e3.trans e4)) ((k3 (f x)).dn (e2.trans e3) p4)
section
variable [Rp α] [Rp β] [Rp γ] [Rp δ]
theorem p_0 : AtC (rIxT K) (fun x : α × β => kFr K x) 0 (fun x => x.1) (fun x : α => kFr K x) := fun x W0 W v ⟨p, a, b, ev, hs, r1, r2⟩ Q q => ⟨p, [a, b], 0, a, ev, rfl, W.sub.sqt hs, rfl, q a W (Le.refl _) r1⟩
theorem p_1 : AtC (rIxT K) (fun x : α × β => kFr K x) 1 (fun x => x.2) (fun x : β => kFr K x) := fun x W0 W v ⟨p, a, b, ev, hs, r1, r2⟩ Q q => ⟨p, [a, b], 1, b, ev, rfl, W.sub.sqt hs, rfl, q b W (Le.refl _) r2⟩
theorem p3_0 : AtC (rIxT K) (fun x : T3 α β γ => kFr K x) 0 (fun x => x.a) (fun x : α => kFr K x) := fun x W0 W v ⟨p, a, b, d, ev, hs, r1, r2, r3⟩ Q q => ⟨p, [a, b, d], 0, a, ev, rfl, W.sub.sqt hs, rfl, q a W (Le.refl _) r1⟩
theorem p3_1 : AtC (rIxT K) (fun x : T3 α β γ => kFr K x) 1 (fun x => x.b) (fun x : β => kFr K x) := fun x W0 W v ⟨p, a, b, d, ev, hs, r1, r2, r3⟩ Q q => ⟨p, [a, b, d], 1, b, ev, rfl, W.sub.sqt hs, rfl, q b W (Le.refl _) r2⟩
theorem p3_2 : AtC (rIxT K) (fun x : T3 α β γ => kFr K x) 2 (fun x => x.c) (fun x : γ => kFr K x) := fun x W0 W v ⟨p, a, b, d, ev, hs, r1, r2, r3⟩ Q q => ⟨p, [a, b, d], 2, d, ev, rfl, W.sub.sqt hs, rfl, q d W (Le.refl _) r3⟩
theorem p4_0 : AtC (rIxT K) (fun x : T4 α β γ δ => kFr K x) 0 (fun x => x.a) (fun x : α => kFr K x) := fun x W0 W v ⟨p, a, b, d, f, ev, hs, r1, r2, r3, r4⟩ Q q => ⟨p, [a, b, d, f], 0, a, ev, rfl, W.sub.sqt hs, rfl, q a W (Le.refl _) r1⟩
theorem p4_1 : AtC (rIxT K) (fun x : T4 α β γ δ => kFr K x) 1 (fun x => x.b) (fun x : β => kFr K x) := fun x W0 W v ⟨p, a, b, d, f, ev, hs, r1, r2, r3, r4⟩ Q q => ⟨p, [a, b, d, f], 1, b, ev, rfl, W.sub.sqt hs, rfl, q b W (Le.refl _) r2⟩
theorem p4_2 : AtC (rIxT K) (fun x : T4 α β γ δ => kFr K x) 2 (fun x => x.c) (fun x : γ => kFr K x) := fun x W0 W v ⟨p, a, b, d, f, ev, hs, r1, r2, r3, r4⟩ Q q => ⟨p, [a, b, d, f], 2, d, ev, rfl, W.sub.sqt hs, rfl, q d W (Le.refl _) r3⟩
theorem p4_3 : AtC (rIxT K) (fun x : T4 α β γ δ => kFr K x) 3 (fun x => x.d) (fun x : δ => kFr K x) := fun x W0 W v ⟨p, a, b, d, f, ev, hs, r1, r2, r3, r4⟩ Q q => ⟨p, [a, b, d, f], 3, f, ev, rfl, W.sub.sqt hs, rfl, q f W (Le.refl _) r4⟩
end
/-! ### built-ins of one, two arguments -/
def rLen (K : Frag) : List V → Hp → VK → Prop := fun xs H Q => ∃ p ys, xs = [.ref p] ∧ (SqL K H p ys ∨ SqT K H p ys) ∧ Q (.int ys.length) H
theorem o_lenL [Rp α] : OpA (rLen K) (fun z : List α × Unit => aCons (kSh K z.1) aNil) (fun z => .ok (z.1.length : Int)) (fun n : Int => kFr K n) := fun z W0 W vs ⟨v, r, e, ⟨p, ls, ev, hs, al, l⟩, en⟩ Q q => by
  subst e en ev
  exact ⟨p, ls, rfl, .inl hs, q _ W (Le.refl _) (by rw [← al.1]; rfl)⟩
theorem o_lenT [Rp α] : OpA (rLen K) (fun z : Tup α × Unit => aCons (kFr K z.1) aNil) (fun z => .ok (z.1.l.length : Int)) (fun n : Int => kFr K n) := fun z W0 W vs ⟨v, r, e, ⟨p, ls, ev, hs, al, l⟩, en⟩ Q q => by
  subst e en ev
  exact ⟨p, ls, rfl, .inr (W.sub.sqt hs), q _ W (Le.refl _) (by rw [← al.1]; rfl)⟩
theorem o_lenS : OpA (fun xs H Q => ∃ z : Str, xs = [.str z] ∧ z.length ≤ sizeLine ∧ Q (.int z.length) H) (fun z : Str × Unit => aCons (kFr K z.1) aNil) (fun z => .ok (z.1.length : Int)) (fun n : Int => kFr K n) := fun z W0 W vs ⟨v, r, e, ⟨ev, so⟩, en⟩ Q q => by
  subst e en ev
  exact ⟨_, rfl, so.1, q _ W (Le.refl _) rfl⟩
theorem o_abs : OpA (fun xs H Q => ∃ i, xs = [.int i] ∧ Q (.int (if i < 0 then -i else i)) H) (fun z : Int × Unit => aCons (kFr K z.1) aNil) (fun z => .ok (if z.1 < 0 then -z.1 else z.1)) (fun n : Int => kFr K n) := fun z W0 W vs ⟨v, r, e, ev, en⟩ Q q => by
  have ev' : v = .int z.1 := ev
  subst e en ev'
  exact ⟨_, rfl, q _ W (Le.refl _) rfl⟩
theorem o_max : OpA (fun xs H Q => ∃ i j, xs = [.int i, .int j] ∧ Q (.int (if j > i then j else i)) H) (fun z : Int × Int × Unit => aCons (kFr K z.1) (aCons (kFr K z.2.1) aNil)) (fun z => .ok (if z.2.1 > z.1 then z.2.1 else z.1)) (fun n : Int => kFr K n) := fun z W0 W vs ⟨v, r, e, ev, w, r2, e2, ew, en⟩ Q q => by
  have ev' : v = .int z.1 := ev
  have ew' : w = .int z.2.1 := ew
  subst e e2 en ev' ew'
  exact ⟨_, _, rfl, q _ W (Le.refl _) rfl⟩
theorem o_min : OpA (fun xs H Q => ∃ i j, xs = [.int i, .int j] ∧ Q (.int (if j < i then j else i)) H) (fun z : Int × Int × Unit => aCons (kFr K z.1) (aCons (kFr K z.2.1) aNil)) (fun z => .ok (if z.2.1 < z.1 then z.2.1 else z.1)) (fun n : Int => kFr K n) := fun z W0 W vs ⟨v, r, e, ev, w, r2, e2, ew, en⟩ Q q => by
  have ev' : v = .int z.1 := ev
  have ew' : w = .int z.2.1 := ew
  subst e e2 en ev' ew'
  exact ⟨_, _, rfl, q _ W (Le.refl _) rfl⟩
/-- list(xs) -/
theorem o_list [Rp α] : OpA (fun xs H Q => ∃ p ys, xs = [.ref p] ∧ (SqL K H p ys ∨ SqT K H p ys) ∧ ∀ l, H l = none → Q (.ref l) (upd H l (.lst ys))) (fun z : List α × Unit => aCons (kSh K z.1) aNil) (fun z => .ok z.1) (fun n : List α => kNw K n) :=
  fun z W0 W vs ⟨v, r, e, ⟨p, ls, ev, hs, al, l⟩, en⟩ Q q => by
  subst e en ev
  exact ⟨p, ls, rfl, .inl hs, fun b hb => q _ (W.no b _ hb) (Le.no hb) ⟨[b], ⟨b, ls, rfl, rfl, W.sub.nope hb, upd_same, al, l⟩, fun a ha => by rw [List.mem_singleton.mp ha]; exact hb⟩⟩
/-- tuple(xs) -/
theorem o_tuple [Rp α] : OpA (fun xs H Q => ∃ p ys, xs = [.ref p] ∧ ((SqL K H p ys ∧ ∀ l, H l = none → Q (.ref l) (upd H l (.tup ys))) ∨ (SqT K H p ys ∧ Q (.ref p) H))) (fun z : List α × Unit => aCons (kSh K z.1) aNil) (fun z => .ok (Tup.mk z.1)) (fun n : Tup α => kFr K n) :=
  fun z W0 W vs ⟨v, r, e, ⟨p, ls, ev, hs, al, l⟩, en⟩ Q q => by
  subst e en ev
  exact ⟨p, ls, rfl, .inl ⟨hs, fun b hb => q _ (W.nf b _) (Le.nf hb) ⟨b, ls, rfl, .inl (.inl upd_same), al_mono al (Le.nf hb).g, l⟩⟩⟩
/-- a tuple known to be of two -/
def R.pair (xs : Tup α) : R (α × α) := match xs.l with
  | [a, b] => .ok (a, b)
  | _ => .no
theorem r_toPair [Rp α] {te : TE} {m : R (Tup α)} (h : Exr c W0 X te As m fun x => kFr c.K x) : Exr c W0 X te As (m.bind R.pair) fun x => kFr c.K x := fun σ W a => by
  have h' := h σ W a
  cases m with
  | no => trivial
  | ex e => exact h'
  | ok x =>
    show SatR (R.pair x) _ _
    unfold R.pair
    split
    · rename_i a b e
      refine fun W1 e1 Q q => h' W1 e1 Q fun v W2 e2 ⟨p, vs, ev, hp, al, l⟩ => q v W2 e2 ?_
      rw [e] at al
      obtain ⟨va, h1, r1⟩ := al.get (i := 0) (x := a) rfl
      obtain ⟨vb, h2, r2⟩ := al.get (i := 1) (x := b) rfl
      have hl : vs.length = 2 := al.1.symm
      match vs, hl, h1, h2 with
      | [u1, u2], _, h1, h2 =>
        cases h1
        cases h2
        exact ⟨p, _, _, ev, hp, r1, r2⟩
    · trivial
theorem o_int1 : OpA (fun xs H Q => (∃ i, xs = [.int i] ∧ Q (.int i) H) ∨ ∃ k, xs = [.bl k] ∧ Q (.int (if k then 1 else 0)) H) (fun z : Bool × Unit => aCons (kFr K z.1) aNil) (fun z => .ok (if z.1 then (1 : Int) else 0)) (fun n : Int => kFr K n) := fun z W0 W vs ⟨v, r, e, ev, en⟩ Q q => by
  have ev' : v = .bl z.1 := ev
  subst e en ev'
  exact .inr ⟨_, rfl, q _ W (Le.refl _) rfl⟩
/-! ### slices -/
def sl (xs : List α) (lo hi : Option Int) : List α := (xs.drop (HT.sIx xs.length 0 lo)).take (HT.sIx xs.length xs.length hi - HT.sIx xs.length 0 lo)
theorem sl_len (xs : List α) (lo hi : Option Int) : (sl xs lo hi).length ≤ xs.length := by
  unfold sl
  rw [List.length_take, List.length_drop]
  omega
def Opo (c : Cn) (W0 : Wd) (X : WX) (to : TO) (As : List Sl) (m : R (Option Int)) : Prop := ∀ σ W, At c.K W0 As σ W → SatR m (fun o => ∀ W1, Le W W1 → ∀ Q : Option Int → Hp → Prop, (∀ W2, Le W1 W2 → Q o W2.H) → to σ W1.H Q)
  (fun e => ∀ W1, Le W W1 → ∀ Q, (∀ cls d W2, Le W1 W2 → ExAt c.M e cls d W2 → X cls d σ W2.H) → to σ W1.H Q)
theorem po_none' : Opo c W0 X tNoPart As (.ok none) := fun σ W a W1 e Q q => q W1 (Le.refl _)
theorem po_some' {te : TE} {m : R Int} (h : Exr c W0 X te As m fun x => kFr c.K x) : Opo c W0 X (tPart te) As (m.bind fun x => .ok (some x)) := fun σ W a => by
  have h' := h σ W a
  cases m with
  | no => trivial
  | ex e => exact fun W1 e1 Q q => h' W1 e1 _ q
  | ok x => exact fun W1 e1 Q q => h' W1 e1 _ fun v W2 e2 p => ⟨x, p, q W2 e2⟩
theorem r_slL [Rp α] {te : TE} {tl th : TO} {m : R (List α)} {a b : R (Option Int)} (h : Exr c W0 X te As m fun x => kSh c.K x) (ha : Opo c W0 X tl As a) (hb : Opo c W0 X th As b) :
    Exr c W0 X (tSl (rSlL c.K) te tl th) As (m.bind fun xs => a.bind fun lo => b.bind fun hi => .ok (sl xs lo hi)) fun ys => kNw c.K ys := fun σ W at_ => by
  have h' := h σ W at_
  have ha' := ha σ W at_
  have hb' := hb σ W at_
  cases m with
  | no => trivial
  | ex e => exact fun W1 e1 Q q => h' W1 e1 _ q
  | ok xs =>
    cases a with
    | no => trivial
    | ex e => exact fun W1 e1 Q q => h' W1 e1 _ fun v W2 e2 p => ha' W2 (e1.trans e2) _ fun cls d W3 e3 z => q cls d W3 (e2.trans e3) z
    | ok lo =>
      cases b with
      | no => trivial
      | ex e => exact fun W1 e1 Q q => h' W1 e1 _ fun v W2 e2 p => ha' W2 (e1.trans e2) _ fun W3 e3 => hb' W3 (e1.trans (e2.trans e3)) _ fun cls d W4 e4 z => q cls d W4 (e2.trans (e3.trans e4)) z
      | ok hi =>
        refine fun W1 e1 Q q => h' W1 e1 _ fun v W2 e2 ⟨p, vs, ev, hs, al, l⟩ => ha' W2 (e1.trans e2) _ fun W3 e3 => hb' W3 (e1.trans (e2.trans e3)) _ fun W4 e4 => ⟨p, vs, ev, (e3.trans e4).h.sql hs, fun b hb => ?_⟩
        refine q _ (W4.no b _ hb) ((e2.trans (e3.trans e4)).trans (Le.no hb)) ⟨[b], ⟨b, _, rfl, rfl, W4.sub.nope hb, upd_same, ?_, Nat.le_trans (sl_len xs lo hi) l⟩, fun a ha => by rw [List.mem_singleton.mp ha]; exact (e2.trans (e3.trans e4)).fr hb⟩
        unfold sl cutV
        rw [← al.1]
        exact ((al_mono al (e3.trans e4).g).drop _).take _
/-! ### texts -/
@[irreducible] def R.addS (x y : Str) : R Str := if x.length + y.length ≤ sizeLine then .ok (x ++ y) else .no
theorem o_addS : Op2 (fun x y H Q => ∃ i j, x = .str i ∧ y = .str j ∧ i.length + j.length ≤ sizeLine ∧ Q (.str (i ++ j)) H) (fun x : Str => kFr K x) (fun x : Str => kFr K x) R.addS (fun z : Str => kFr K z) := fun x y => by
  unfold R.addS
  split
  · rename_i z e
    split at e
    · rename_i h
      cases e
      exact fun W0 W v w hv hw Q q => ⟨x, y, hv.1, hw.1, h, q _ W (Le.refl _) ⟨rfl, by show (x.cps ++ y.cps).size ≤ sizeLine; rw [Array.size_append]; exact h, by
        show (x.cps ++ y.cps).all _ = true
        rw [Array.all_append, hv.2.2, hw.2.2]; rfl⟩⟩
    · cases e
  · rename_i e h
    split at h <;> cases h
  · trivial
theorem o_leS : Op2 (fun x y H Q => ∃ i j, x = .str i ∧ y = .str j ∧ Q (.bl (!decide (j.cps.toList < i.cps.toList))) H) (fun x : Str => kFr K x) (fun x : Str => kFr K x) (fun x y => .ok (!decide (y.cps.toList < x.cps.toList))) (fun z : Bool => kFr K z) := fun x y W0 W v w hv hw Q q => ⟨x, y, hv.1, hw.1, q _ W (Le.refl _) rfl⟩
theorem o_ltS : Op2 (fun x y H Q => ∃ i j, x = .str i ∧ y = .str j ∧ Q (.bl (decide (i.cps.toList < j.cps.toList))) H) (fun x : Str => kFr K x) (fun x : Str => kFr K x) (fun x y => .ok (decide (x.cps.toList < y.cps.toList))) (fun z : Bool => kFr K z) := fun x y W0 W v w hv hw Q q => ⟨x, y, hv.1, hw.1, q _ W (Le.refl _) rfl⟩
/-- whether a text lies in one -/
def inS (x y : Str) : Bool := !(Builtin.Str.occurrences y x 0 y.length 1).isEmpty
theorem o_inS : Op2 (fun x y H Q => ∃ i j, x = .str i ∧ y = .str j ∧ Q (.bl (!(Builtin.Str.occurrences j i 0 j.length 1).isEmpty)) H) (fun x : Str => kFr K x) (fun x : Str => kFr K x) (fun x y => .ok (inS x y)) (fun z : Bool => kFr K z) := fun x y W0 W v w hv hw Q q => ⟨x, y, hv.1, hw.1, q _ W (Le.refl _) rfl⟩
theorem o_ninS : Op2 (fun x y H Q => ∃ i j, x = .str i ∧ y = .str j ∧ Q (.bl (!(!(Builtin.Str.occurrences j i 0 j.length 1).isEmpty))) H) (fun x : Str => kFr K x) (fun x : Str => kFr K x) (fun x y => .ok (!inS x y)) (fun z : Bool => kFr K z) := fun x y W0 W v w hv hw Q q => ⟨x, y, hv.1, hw.1, q _ W (Le.refl _) rfl⟩
theorem r_slS {te : TE} {tl th : TO} {m : R Str} {a b : R (Option Int)} (h : Exr c W0 X te As m fun x => kFr c.K x) (ha : Opo c W0 X tl As a) (hb : Opo c W0 X th As b) (hk : ∀ z : Str, ∀ lo hi, SOk z → SOk (cutS z lo hi)) :
    Exr c W0 X (tSl rSlS te tl th) As (m.bind fun xs => a.bind fun lo => b.bind fun hi => .ok (cutS xs lo hi)) fun ys => kFr c.K ys := fun σ W at_ => by
  have h' := h σ W at_
  have ha' := ha σ W at_
  have hb' := hb σ W at_
  cases m with
  | no => trivial
  | ex e => exact fun W1 e1 Q q => h' W1 e1 _ q
  | ok xs =>
    cases a with
    | no => trivial
    | ex e => exact fun W1 e1 Q q => h' W1 e1 _ fun v W2 e2 p => ha' W2 (e1.trans e2) _ fun cls d W3 e3 z => q cls d W3 (e2.trans e3) z
    | ok lo =>
      cases b with
      | no => trivial
      | ex e => exact fun W1 e1 Q q => h' W1 e1 _ fun v W2 e2 p => ha' W2 (e1.trans e2) _ fun W3 e3 => hb' W3 (e1.trans (e2.trans e3)) _ fun cls d W4 e4 z => q cls d W4 (e2.trans (e3.trans e4)) z
      | ok hi => exact fun W1 e1 Q q => h' W1 e1 _ fun v W2 e2 ⟨ev, so⟩ => ha' W2 (e1.trans e2) _ fun W3 e3 => hb' W3 (e1.trans (e2.trans e3)) _ fun W4 e4 => ⟨xs, ev, so.1, q _ W4 (e2.trans (e3.trans e4)) ⟨rfl, hk xs lo hi so⟩⟩
end
end Fw

namespace Fw
open PySem L2
section
variable {c : Cn} {W0 : Wd} {X : WX} {As Bs : List Sl} {α β γ δ τ ρ : Type} {K : Frag}
/-! ### texts made of texts -/
def allOk (l : List Nat) : Bool := l.all (· < 0x110000)
theorem sok_iff {s : Str} : SOk s ↔ s.length ≤ sizeLine ∧ allOk s.cps.toList = true := by
  unfold SOk allOk
  rw [Array.all_toList]
theorem allOk_app {a b : List Nat} : allOk (a ++ b) = (allOk a && allOk b) := by simp [allOk]
theorem allOk_sub {a b : List Nat} (h : allOk b = true) (s : ∀ x ∈ a, x ∈ b) : allOk a = true := by
  unfold allOk at h ⊢
  rw [List.all_eq_true] at h ⊢
  exact fun x hx => h x (s x hx)
theorem sok_cut (z : Str) (lo hi : Option Int) (h : SOk z) : SOk (cutS z lo hi) := by
  rw [sok_iff] at h ⊢
  constructor
  · show (List.toArray _).size ≤ sizeLine
    rw [List.size_toArray, List.length_take, List.length_drop]
    have : z.cps.toList.length = z.length := rfl
    omega
  · refine allOk_sub h.2 fun x hx => ?_
    have hx' : x ∈ ((z.cps.toList.drop (HT.sIx z.length 0 lo)).take (HT.sIx z.length z.length hi - HT.sIx z.length 0 lo)) := by simpa [cutS] using hx
    exact List.mem_of_mem_drop (List.mem_of_mem_take hx')
theorem r_slT {te : TE} {tl th : TO} {m : R Str} {a b : R (Option Int)} (h : Exr c W0 X te As m fun x => kFr c.K x) (ha : Opo c W0 X tl As a) (hb : Opo c W0 X th As b) :
    Exr c W0 X (tSl rSlS te tl th) As (m.bind fun xs => a.bind fun lo => b.bind fun hi => .ok (cutS xs lo hi)) fun ys => kFr c.K ys := r_slS h ha hb fun z lo hi => sok_cut z lo hi
def jn (s : Str) : List Str → List Nat
  | [] => []
  | [x] => x.cps.toList
  | x :: y :: r => x.cps.toList ++ (s.cps.toList ++ jn s (y :: r))
theorem join_jn (s : Str) : ∀ xs : List Str, (Txt.join s xs).cps.toList = jn s xs := by
  intro xs
  rw [show Txt.join s xs = Str.join s xs from StrLaws.glued_eq_join s xs]
  induction xs with
  | nil => rfl
  | cons x t ih =>
    cases t with
    | nil => rfl
    | cons y r =>
      show (x ++ s ++ Str.join s (y :: r)).cps.toList = _
      show ((x.cps ++ s.cps) ++ (Str.join s (y :: r)).cps).toList = _
      rw [Array.toList_append, Array.toList_append, ih, List.append_assoc]
      rfl
theorem jn_ok {s : Str} (hs : allOk s.cps.toList = true) : ∀ {xs : List Str}, (∀ x ∈ xs, SOk x) → allOk (jn s xs) = true
  | [], _ => rfl
  | [x], h => (sok_iff.mp (h x (by simp))).2
  | x :: y :: r, h => by
    show allOk (x.cps.toList ++ (s.cps.toList ++ jn s (y :: r))) = true
    rw [allOk_app, allOk_app, (sok_iff.mp (h x (by simp))).2, hs, jn_ok hs fun z hz => h z (List.mem_cons_of_mem _ hz)]
    rfl
@[irreducible] def R.join (s : Str) (xs : List Str) : R Str := if (xs.map (·.length)).sum + xs.length * s.length ≤ 16777216 then .ok (Txt.join s xs) else .no
theorem al_strs {G : Hp} {xs : List Str} {vs : List V} (h : Al (fun x v => Rp.rep K x v G) xs vs) : vs = xs.map V.str ∧ ∀ x ∈ xs, SOk x := by
  constructor
  · apply List.ext_getElem?
    intro i
    rw [List.getElem?_map]
    cases e : xs[i]? with
    | none =>
      have : vs.length ≤ i := h.1 ▸ List.getElem?_eq_none_iff.mp e
      rw [List.getElem?_eq_none this]
      rfl
    | some x =>
      obtain ⟨v, hv, r, _⟩ := h.get e
      rw [hv, r]
      rfl
  · intro x hx
    obtain ⟨i, hi, e⟩ := List.getElem_of_mem hx
    obtain ⟨v, hv, _, r⟩ := h.get (i := i) (x := x) (by rw [← e]; exact List.getElem?_eq_getElem hi)
    exact r
def rJoin (K : Frag) : V → List V → Hp → VK → Prop := fun x xs H Q => ∃ a p, ∃ ys : List Str, x = .str a ∧ xs = [.ref p] ∧ (SqL K H p (ys.map V.str) ∨ SqT K H p (ys.map V.str)) ∧
      (ys.map (·.length)).sum + ys.length * a.length ≤ 16777216 ∧ Q (.str (Txt.join a ys)) H
theorem r_join {to te : TE} {m : R Str} {n : R (List Str)} (h : Exr c W0 X to As m fun x => kFr c.K x) (hn : Exr c W0 X te As n fun x => kSh c.K x) : Exr c W0 X (tM1 (rJoin c.K) to te) As (m.bind fun s => n.bind fun xs => R.join s xs) fun x => kFr c.K x := fun σ W a => by
  have h' := h σ W a
  have hn' := hn σ W a
  cases m with
  | no => trivial
  | ex e => exact fun W1 e1 Q q => h' W1 e1 _ q
  | ok s =>
    cases n with
    | no => trivial
    | ex e => exact fun W1 e1 Q q => h' W1 e1 _ fun v W2 e2 p => ⟨⟨s, p.1⟩, hn' W2 (e1.trans e2) _ fun cls d W3 e3 z => q cls d W3 (e2.trans e3) z⟩
    | ok xs =>
      show SatR (R.join s xs) _ _
      unfold R.join
      split
      · rename_i hz
        refine fun W1 e1 Q q => h' W1 e1 _ fun v W2 e2 p => ⟨⟨s, p.1⟩, hn' W2 (e1.trans e2) _ fun u W3 e3 ⟨l, vs, eu, hs, al, ll⟩ => ?_⟩
        obtain ⟨ev, ok⟩ := al_strs al
        subst ev
        refine ⟨s, l, xs, p.1, by rw [eu], .inl hs, hz, q _ W3 (e2.trans e3) ⟨rfl, sok_iff.mpr ⟨?_, ?_⟩⟩⟩
        · rw [show Txt.join s xs = Str.join s xs from StrLaws.glued_eq_join s xs, sizeLine_eq]
          exact Nat.le_trans (StrLaws.join_length_le s xs) hz
        · rw [join_jn]
          exact jn_ok (sok_iff.mp p.2).2 ok
      · trivial
/-! ### isinstance of what is known -/
class Pt (α : Type) [Rp α] where
  ty : String
  is : ∀ {K : Frag} {x : α} {v : V} {G : Hp}, Rp.rep K x v G → TyX K G v (.type ty)
instance : Pt Int := ⟨"int", fun h => by cases h; exact .base (.int _)⟩
instance : Pt Bool := ⟨"bool", fun h => by cases h; exact .base (.bl _)⟩
instance : Pt Str := ⟨"str", fun h => by cases h.1; exact .base (.str _)⟩
instance : Pt Unit := ⟨"NoneType", fun h => by cases h; exact .base .non⟩
instance [Rp α] : Pt (List α) := ⟨"list", fun ⟨p, vs, e, h, _⟩ => by subst e; exact .base (.lst h)⟩
theorem sqt_ty {G : Hp} {p : Addr} {vs : List V} (h : SqT K G p vs) : TyX K G (.ref p) (.type "tuple") := by
  rcases h with (h | ⟨o, h⟩) | ⟨o, its, n, l, e, _⟩
  · exact .base (.tup h)
  · exact .fTuple h
  · exact .kTuple l e
instance [Rp α] [Rp β] : Pt (α × β) := ⟨"tuple", fun ⟨p, a, b, e, h, _⟩ => by subst e; exact sqt_ty h⟩
instance [Rp α] : Pt (Tup α) := ⟨"tuple", fun ⟨p, vs, e, h, _⟩ => by subst e; exact sqt_ty h⟩
instance [Rp α] [Rp β] [Rp γ] : Pt (T3 α β γ) := ⟨"tuple", fun ⟨p, a, b, d, e, h, _⟩ => by subst e; exact sqt_ty h⟩
instance [Rp α] [Rp β] [Rp γ] [Rp δ] : Pt (T4 α β γ δ) := ⟨"tuple", fun ⟨p, a, b, d, f, e, h, _⟩ => by subst e; exact sqt_ty h⟩
theorem tyOf_mono {G H : Hp} (s : Inc G H) {v : V} {t : Value} (h : TyOf K G v t) : TyOf K H v t := by
  cases h with
  | non => exact .non
  | bl x => exact .bl x
  | int i => exact .int i
  | str x => exact .str x
  | flt x => exact .flt x
  | lst e => exact .lst (s _ _ e)
  | frz e => exact .frz (s _ _ e)
  | tup e => exact .tup (s _ _ e)
  | dK e => exact .dK (s _ _ e)
  | dT e => exact .dT (s _ _ e)
  | ins e a b d f g => exact .ins (s _ _ e) a b d f g
theorem tyX_mono {G H : Hp} (s : Inc G H) {v : V} {t : Value} (h : TyX K G v t) : TyX K H v t := by
  cases h with
  | base h => exact .base (tyOf_mono s h)
  | byt b => exact .byt b
  | set e => exact .set (s _ _ e)
  | kList e c => exact .kList e c
  | kTuple e c => exact .kTuple e c
  | kDict e c => exact .kDict e c
  | fTuple e => exact .fTuple (s _ _ e)
  | fDict e => exact .fDict (s _ _ e)
theorem e_ty (n : String) : Exp c W0 (tC (.ty n)) As (kV (.ty n)) := fun σ W a W1 e Q q => q _ W1 (Le.refl _) rfl
theorem o_isi [Rp α] [Pt α] {T : String} {b : Bool} (h : kitB (Pt.ty α) T = some b) : OpA (rIsi K) (fun z : α × Unit => aCons (kFr K z.1) (aCons (kV (.ty T)) aNil)) (fun _ => .ok b) (fun b : Bool => kFr K b) := fun z W0 W vs ⟨v, r, e, hv, w, r2, e2, ew, en⟩ Q q => by
  have ew' : w = .ty T := ew
  subst e e2 en ew'
  exact ⟨v, .ty T, .type (Pt.ty α), .type T, b, rfl, .ty T, tyX_mono W.sub (Pt.is hv), kit_ty h, q _ W (Le.refl _) rfl⟩
/-! ### defs that change one thing handed in -/
structure LeX (W : Wd) (fp : List Addr) (W' : Wd) : Prop where
  g : Inc W.G W'.G
  o : ∀ a, a ∉ fp → W.G a = none → W.H a ≠ none → W'.G a = none
  h : ∀ a, a ∉ fp → W.H a ≠ none → W'.H a = W.H a
/-- the ground without what is handed in to be changed -/
def Wd.wo (W : Wd) (fp : List Addr) (h : ∀ a ∈ fp, W.G a = none) : Wd := ⟨W.G, fun a => if a ∈ fp then none else W.H a, fun a o e => by
  by_cases q : a ∈ fp
  · rw [h a q] at e; cases e
  · dsimp only; rw [if_neg q]; exact W.sub a o e, fun a u h i => by
  have h' : (if a ∈ fp then none else W.H a) = some u := h
  by_cases q : a ∈ fp
  · rw [if_pos q] at h'; cases h'
  · rw [if_neg q] at h'; exact W.im a u h' i⟩
theorem wo_ni {W : Wd} {fp : List Addr} {h : ∀ a ∈ fp, W.G a = none} {a : Addr} (n : a ∉ fp) : (W.wo fp h).H a = W.H a := if_neg n
theorem wo_in {W : Wd} {fp : List Addr} {h : ∀ a ∈ fp, W.G a = none} {a : Addr} (n : a ∈ fp) : (W.wo fp h).H a = none := if_pos n
theorem Le.wo {W : Wd} {fp : List Addr} {h : ∀ a ∈ fp, W.G a = none} : Le (W.wo fp h) W := ⟨Inc.refl _, fun a o e => by
  by_cases q : a ∈ fp
  · rw [wo_in q] at e; cases e
  · rw [wo_ni q] at e; exact e, fun a g _ => g⟩
theorem LeX.of {W W' : Wd} {fp : List Addr} {h : ∀ a ∈ fp, W.G a = none} (e : Le (W.wo fp h) W') : LeX W fp W' := ⟨e.g, fun a q g m => e.o a g (by rw [wo_ni q]; exact m), fun a q m => by
  cases z : W.H a with
  | none => exact absurd z m
  | some o => exact e.h a o (by rw [wo_ni q]; exact z)⟩
/-- what it hands back, and what the changed thing is then -/
def krIO (K : Frag) [Ob α] (kr : ρ → Kd) (v : V) (z : ρ × α) : Kd := ⟨fun A u W => (kr z.1).p A u W ∧ ∃ f, Ob.own K z.2 v f W ∧ ∀ a ∈ f, A.H a = none, fun ⟨p, f, o, n⟩ e => ⟨(kr z.1).up p e, f, own_up o e, n⟩, fun e ⟨p, f, o, n⟩ => ⟨(kr z.1).dn e p, f, o, fun a ha => e.h.nope (n a ha)⟩⟩
def spIO (c : Cn) {τ' : Type} [Args τ] [Ob α] [Args τ'] (f : τ → α → τ' → R (ρ × α)) (kr : ρ → Kd) : Sp := fun vs H Q E => ∃ (W : Wd) (x : τ) (y : α) (z : τ') (vs1 : List V) (v : V) (vs2 : List V) (fp : List Addr),
  W.H = H ∧ vs = vs1 ++ v :: vs2 ∧ Args.reps c.K x vs1 W.G ∧ Ob.own c.K y v fp W ∧ Args.reps c.K z vs2 W.G ∧ match f x y z with
    | .ok r => ∀ u (W' : Wd) fp', LeX W fp W' → (kr r.1).p W u W' → Ob.own c.K r.2 v fp' W' → (∀ a ∈ fp', a ∈ fp ∨ W.H a = none) → Q u W'.H
    | _ => False
theorem spIO_len {τ' : Type} [Args τ] [Ob α] [Args τ'] {f : τ → α → τ' → R (ρ × α)} {kr : ρ → Kd} (vs : List V) (H : Hp) (Q : VK) (E : XK) (h : spIO c f kr vs H Q E) : vs.length = Args.num τ + (Args.num τ' + 1) := by
  obtain ⟨W, x, y, z, vs1, v, vs2, fp, e, ev, r1, o, r2, _⟩ := h
  rw [ev, List.length_append, List.length_cons, Args.len r1, Args.len r2]
/-- the kinds of results that do not ask how the ground was -/
def Plain (kr : ρ → Kd) : Prop := ∀ r (A B : Wd) v W, (kr r).p A v W → (kr r).p B v W
theorem plain_fr [Rp ρ] : Plain (fun x : ρ => kFr K x) := fun r A B v W h => h
theorem At.consO {K : Frag} {W0 W : Wd} {σ : St} [Ob α] {y : α} {v : V} {fp : List Addr} (h : At K W0 As σ W) (no : noOw As) (o : Ob.own K y v fp W) (n : ∀ a ∈ fp, W0.H a = none) : At K W0 (.ow (some v) y :: As) (some v :: σ) W := by
  obtain ⟨l, le, F, h1, h2, h3⟩ := h
  refine ⟨by simp [l], le, fun j => match j with | 0 => fp | j + 1 => [], fun j B p a b => ?_, fun j k a n ha hb => ?_, fun j a ha => ?_⟩
  · cases j with
    | zero => cases a; cases b; exact ⟨v, rfl, o, fun u e => Option.some.inj e⟩
    | succ j => exact noOw_get no a (h1 j B p a b)
  · cases j with
    | zero => cases k with
      | zero => exact n rfl
      | succ k => cases hb
    | succ j => cases ha
  · cases j with
    | zero => exact ⟨(Ob.foot o a ha).1, (Ob.foot o a ha).2, n a ha⟩
    | succ j => cases ha
def ioF (o : Out α Unit (Unit × α)) : R (Unit × α) := match o with
  | .nx y => .ok ((), y)
  | .rt r => .ok r
  | _ => .no
def ioR (o : Out Empty Unit (ρ × α)) : R (ρ × α) := match o with
  | .rt r => .ok r
  | _ => .no
section
variable {τ' : Type} [Args τ] [Ob α] [Args τ'] {N : List Str} {n : Nat} {t : TS} {vs : List V} {H : Hp} {Q : VK} {E : XK}
theorem io_start {W : Wd} {x : τ} {y : α} {z : τ'} {vs1 vs2 : List V} {v : V} {fp : List Addr} (hN : N.length = Args.num τ + (Args.num τ' + 1 + n)) (r1 : Args.reps c.K x vs1 W.G) (o : Ob.own c.K y v fp W) (r2 : Args.reps c.K z vs2 W.G) :
    At c.K (W.wo fp fun a h => (Ob.foot o a h).1) (Args.sl x ++ (.ow (some v) y :: (Args.sl z ++ uns n))) (L2.start N (vs1 ++ v :: vs2)) W := by
  have e : L2.start N (vs1 ++ v :: vs2) = vs1.map some ++ (some v :: (vs2.map some ++ List.replicate n none)) := by
    unfold L2.start
    have h : N.length - (vs1 ++ v :: vs2).length = n := by
      rw [hN, List.length_append, List.length_cons, Args.len r1, Args.len r2]
      omega
    rw [h]
    simp
  rw [e]
  have a0 : At c.K (W.wo fp fun a h => (Ob.foot o a h).1) (uns n) (List.replicate n none) W := (at_uns n).re Le.wo
  exact Args.at_ r1 ((Args.at_ r2 a0).consO (Args.no z _ (noOw_uns n)) o fun a ha => wo_in ha)
theorem io_done {W W' : Wd} {y y' : α} {v : V} {fp f : List Addr} (o : Ob.own c.K y v fp W) (e : Le (W.wo fp fun a h => (Ob.foot o a h).1) W') (o' : Ob.own c.K y' v f W') (hf : ∀ a ∈ f, (W.wo fp fun a h => (Ob.foot o a h).1).H a = none) : LeX W fp W' ∧ ∀ a ∈ f, a ∈ fp ∨ W.H a = none := by
  refine ⟨LeX.of e, fun a ha => ?_⟩
  by_cases q : a ∈ fp
  · exact .inl q
  · exact .inr (by have := hf a ha; rw [wo_ni q] at this; exact this)
theorem fn_ioF {f : τ → α → τ' → R (Unit × α)} {m : τ → α → τ' → Out α Unit (Unit × α)} {Bs : V → α → List Sl} (j : Nat) (h : spIO c f (fun x => kFr c.K x) vs H Q E) (hN : N.length = Args.num τ + (Args.num τ' + 1 + n)) (hm : ∀ x y z, f x y z = ioF (m x y z))
    (hj : ∀ v y, (Bs v y)[j]? = some (.ow (some v) y)) (hd : ∀ (W : Wd) x y z v, Den c (x0 E) (krIO c.K (fun x : Unit => kFr c.K x) v) (uns N.length) (fun _ : Unit => []) (bd0 W) t (Args.sl x ++ (.ow (some v) y :: (Args.sl z ++ uns n))) (m x y z) (Bs v)) :
    t { nx := fun _ H' => Q .non H', rt := Q } (L2.start N vs) H := by
  obtain ⟨W, x, y, z, vs1, v, vs2, fp, eh, ev, r1, o, r2, k⟩ := h
  subst eh ev
  refine hd (W.wo fp fun a h => (Ob.foot o a h).1) x y z v _ _ W (io_start hN r1 o r2) ?_
  rw [hm] at k
  revert k
  generalize m x y z = q
  intro k
  cases q with
  | nx y' =>
    refine fun σ W' a => ?_
    obtain ⟨u, f', hu, o', pn, n0⟩ := a.varO (hj v y')
    have eu := pn v rfl
    subst eu
    obtain ⟨lx, hf⟩ := io_done o a.le o' n0
    exact k _ W' f' lx rfl o' hf
  | rt r =>
    refine fun u W' l ⟨p, f', o', n0⟩ => ?_
    obtain ⟨lx, hf⟩ := io_done o l o' n0
    exact k u W' f' lx p o' hf
  | bk j => exact k.elim
  | ct j => exact k.elim
  | ex e => exact k.elim
  | no => exact k.elim
theorem fn_ioR {f : τ → α → τ' → R (ρ × α)} {m : τ → α → τ' → Out Empty Unit (ρ × α)} {kr : ρ → Kd} (pl : Plain kr) (h : spIO c f kr vs H Q E) (hN : N.length = Args.num τ + (Args.num τ' + 1 + n)) (hm : ∀ x y z, f x y z = ioR (m x y z))
    (hd : ∀ (W : Wd) x y z v, Den c (x0 E) (krIO c.K kr v) (uns N.length) (fun _ : Unit => []) (bd0 W) t (Args.sl x ++ (.ow (some v) y :: (Args.sl z ++ uns n))) (m x y z) noSl) :
    t { nx := fun _ H' => Q .non H', rt := Q } (L2.start N vs) H := by
  obtain ⟨W, x, y, z, vs1, v, vs2, fp, eh, ev, r1, o, r2, k⟩ := h
  subst eh ev
  refine hd (W.wo fp fun a h => (Ob.foot o a h).1) x y z v _ _ W (io_start hN r1 o r2) ?_
  rw [hm] at k
  revert k
  generalize m x y z = q
  intro k
  cases q with
  | nx y' => exact y'.elim
  | rt r =>
    refine fun u W' l ⟨p, f', o', n0⟩ => ?_
    obtain ⟨lx, hf⟩ := io_done o l o' n0
    exact k u W' f' lx (pl _ _ _ _ _ p) o' hf
  | bk j => exact k.elim
  | ct j => exact k.elim
  | ex e => exact k.elim
  | no => exact k.elim
end
/-- return e, where a thing handed in was changed -/
theorem d_retIO {J : Type} {Ls : List Sl} {Js : J → List Sl} {B : Bd} [Ob α] {kr : ρ → Kd} {v : V} {te : TE} {u : TS} {m : R ρ} {y : α} {S : Type} {Bs : S → List Sl} (j : Nat) (hj : As[j]? = some (.ow (some v) y)) (lx : Lx Ls As) (h : Exr c B.W0 X te As m kr) :
    Den c X (krIO c.K kr v) Ls Js B (tSeq (tRet te) u) As (m.to fun r => .rt (r, y)) Bs := fun D σ W a f => by
  have h' := h σ W a
  cases m with
  | no => exact False.elim f
  | ex e => exact h' W (Le.refl _) _ fun cls d W2 e2 z => f cls d σ W2 (lx_at lx (a.mono e2)) z
  | ok x =>
    refine h' W (Le.refl _) _ fun w W2 e p => f w W2 (a.le.trans e) ?_
    obtain ⟨u, f', hu, o', pn, n0⟩ := (a.mono e).varO hj
    have eu := pn v rfl
    subst eu
    exact ⟨(kr x).dn (B.le.trans a.le) p, f', o', fun b hb => B.le.h.nope (n0 b hb)⟩
/-- arguments, one of them a thing to be changed -/
def kIO (K : Frag) {τ' : Type} [Args τ] [Args τ'] (a : τ) (w : V) (b : τ') : KdA := ⟨fun _ vs W => ∃ vs1 vs2, vs = vs1 ++ w :: vs2 ∧ Args.reps K a vs1 W.G ∧ Args.reps K b vs2 W.G,
  fun ⟨v1, v2, e, r1, r2⟩ q => ⟨v1, v2, e, Args.mono q.g r1, Args.mono q.g r2⟩, fun _ h => h⟩
def Axo (c : Cn) (W0 : Wd) (X : WX) {τ' : Type} [Args τ] [Args τ'] (ta : TA) (As : List Sl) (i : Nat) (m : R (τ × τ')) : Prop := ∀ σ W w, At c.K W0 As σ W → σ[i]? = some (some w) → SatR m (fun z => EvA ta σ W (kIO c.K z.1 w z.2)) (RzA c X ta σ W)
theorem axo_here {τ' : Type} [Args τ'] {ta : TA} {i : Nat} {n : R τ'} (h : Axr c W0 X ta As n fun x => kAs c.K x) : Axo (τ := Unit) c W0 X (tCons (tVar i) ta) As i (n.bind fun b => .ok ((), b)) := fun σ W w a hw => by
  have h' := h σ W a
  cases n with
  | no => trivial
  | ex e => exact fun W1 e1 Q q => ⟨w, hw, h' W1 e1 _ q⟩
  | ok b => exact fun W1 e1 Q q => ⟨w, hw, h' W1 e1 _ fun vs W2 e2 r => q _ W2 e2 ⟨[], vs, rfl, rfl, r⟩⟩
theorem axo_cons [Rp β] {τ' : Type} [Args τ] [Args τ'] {te : TE} {ta : TA} {i : Nat} {m : R β} {n : R (τ × τ')} (h : Exr c W0 X te As m fun x => kFr c.K x) (hr : Axo c W0 X ta As i n) : Axo (τ := β × τ) c W0 X (tCons te ta) As i (m.bind fun x => n.bind fun z => .ok ((x, z.1), z.2)) := fun σ W w a hw => by
  have h' := h σ W a
  have hr' := hr σ W w a hw
  cases m with
  | no => trivial
  | ex e => exact fun W1 e1 Q q => h' W1 e1 _ q
  | ok x =>
    cases n with
    | no => trivial
    | ex e => exact fun W1 e1 Q q => h' W1 e1 _ fun v W2 e2 p => hr' W2 (e1.trans e2) _ fun cls d W3 e3 z => q cls d W3 (e2.trans e3) z
    | ok z => exact fun W1 e1 Q q => h' W1 e1 _ fun v W2 e2 p => hr' W2 (e1.trans e2) _ fun vs W3 e3 ⟨v1, v2, ev, r1, r2⟩ => q _ W3 (e2.trans e3) ⟨v :: v1, v2, by rw [ev]; rfl, ⟨v, v1, rfl, Rp.mono e3.g p, r1⟩, r2⟩
/-- f(.., x, ..), x changed: the call alone, or x = f(..) -/
theorem d_callIO {J S : Type} {ρ' : Type} {kr' : ρ' → Kd} {Ls : List Sl} {Js : J → List Sl} {B : Bd} {Bs : S → List Sl} {τ' : Type} [Args τ] [Ob α] [Args τ'] {f : τ → α → τ' → R (ρ × α)} {kr : ρ → Kd} {ta : TA} {m : R (τ × τ')} {x : α} {pin : Option V} {u : TS} {k : α → Out S J ρ'} (i : Nat) (hi : As[i]? = some (.ow pin x)) (lx : Lx Ls As)
    (h : Axo c B.W0 X ta As i m) (hk : ∀ y, Den c X kr' Ls Js B u (As.set i (.ow pin y)) (k y) Bs) :
    Den c X kr' Ls Js B (tSeq (tDrop (tCallS (spIO c f kr) (WE X) ta)) u) As (m.to fun z => (f z.1 x z.2).np.toS k) Bs := fun D σ W a fn => by
  obtain ⟨w, fp, hw, _⟩ := a.varO hi
  have h' := h σ W w a hw
  cases m with
  | no => exact False.elim fn
  | ex e => exact h' W (Le.refl _) _ fun cls d W2 e2 z => fn cls d σ W2 (lx_at lx (a.mono e2)) z
  | ok z =>
    refine h' W (Le.refl _) _ fun vs W2 e2 ⟨v1, v2, ev, r1, r2⟩ => ?_
    have fn' : Fin c X kr' Ls Js B Bs D ((f z.1 x z.2).np.toS k) := fn
    cases hf : f z.1 x z.2 with
    | no => rw [hf] at fn'; exact False.elim fn'
    | ex e => rw [hf] at fn'; exact False.elim fn'
    | ok r =>
      rw [hf] at fn'
      obtain ⟨w', fp', hw', o, n0, chg⟩ := (a.mono e2).chg (β := α) (y := r.2) hi
      rw [hw] at hw'
      cases hw'
      refine ⟨W2, z.1, x, z.2, v1, w, v2, fp', rfl, ev, r1, o, r2, ?_⟩
      rw [hf]
      exact fun u W3 f3 lx3 _ o3 h3 => hk _ D σ W3 (chg W3 f3 lx3.g lx3.o lx3.h o3 h3) fn'
theorem e_cc {C : Int → Int → Prop} {g : Int → Int → Int} {ta tb : TE} {x y : Int} (h : C x y) (ha : Exp c W0 ta As (kFr c.K x)) (hb : Exp c W0 tb As (kFr c.K y)) {k : Kd} (hk : kFr c.K (g x y) = k) : Exp c W0 (tOp (rI C fun i j => .int (g i j)) ta tb) As k := hk ▸ fun σ W a W1 e Q q =>
  ha σ W a W1 e _ fun v W2 e2 p => hb σ W a W2 (e.trans e2) _ fun w W3 e3 p3 => ⟨x, y, p, p3, h, q _ W3 (e2.trans e3) rfl⟩
end
end Fw

namespace Fw
open PySem L2
section
variable {c : Cn} {W0 : Wd} {X : WX} {As Bs : List Sl} {α β γ δ τ ρ : Type} {K : Frag}
theorem e_chain {r r' : R2} {ta tb tc : TE} {k1 : α → Kd} {k2 : β → Kd} {k3 : γ → Kd} {g1 : α → β → Bool} {g2 : β → γ → Bool} {x : α} {y : β} {z : γ} (h1 : Op2 r k1 k2 (fun x y => .ok (g1 x y)) (fun b : Bool => kFr c.K b)) (h2 : Op2 r' k2 k3 (fun y z => .ok (g2 y z)) (fun b : Bool => kFr c.K b))
    (ha : Exp c W0 ta As (k1 x)) (hb : Exp c W0 tb As (k2 y)) (hc : Exp c W0 tc As (k3 z)) {k : Kd} (hk : kFr c.K (g1 x y && g2 y z) = k) : Exp c W0 (tChain r r' ta tb tc) As k := hk ▸ fun σ W a W1 e Q q =>
  ha σ W a W1 e _ fun v W2 e2 p => hb σ W a W2 (e.trans e2) _ fun w W3 e3 p3 => h1 x y W1 W3 v w ((k1 x).up p e3) ((k2 y).dn e2 p3) _ fun u W4 e4 p4 => ⟨g1 x y, p4, by
    cases hg : g1 x y with
    | false =>
      rw [if_neg (by decide)]
      refine q _ W4 (e2.trans (e3.trans e4)) ?_
      rw [hg]
      rfl
    | true =>
      rw [if_pos rfl]
      rw [hg] at q
      exact hc σ W a W4 (e.trans (e2.trans (e3.trans e4))) _ fun t W5 e5 p5 => h2 y z W2 W5 w t ((k2 y).up p3 (e4.trans e5)) ((k3 z).dn (e3.trans e4) p5) Q fun t' W6 e6 p6 => q _ W6 (e2.trans (e3.trans (e4.trans (e5.trans e6)))) p6⟩
theorem r_chain {r r' : R2} {ta tb tc : TE} {k1 : α → Kd} {k2 : β → Kd} {k3 : γ → Kd} {g1 : α → β → Bool} {g2 : β → γ → Bool} {m : R α} {n : R β} {o : R γ} (h1 : Op2 r k1 k2 (fun x y => .ok (g1 x y)) (fun b : Bool => kFr c.K b)) (h2 : Op2 r' k2 k3 (fun y z => .ok (g2 y z)) (fun b : Bool => kFr c.K b))
    (ha : Exr c W0 X ta As m k1) (hb : Exr c W0 X tb As n k2) (hc : Exr c W0 X tc As o k3) : Exr c W0 X (tChain r r' ta tb tc) As (m.bind fun x => n.bind fun y => if g1 x y then o.bind fun z => .ok (g2 y z) else .ok false) (fun b : Bool => kFr c.K b) := fun σ W a => by
  have ha' := ha σ W a
  have hb' := hb σ W a
  have hc' := hc σ W a
  cases m with
  | no => trivial
  | ex e => exact fun W1 e1 Q q => ha' W1 e1 _ q
  | ok x =>
    cases n with
    | no => trivial
    | ex e => exact fun W1 e1 Q q => ha' W1 e1 _ fun v W2 e2 p => hb' W2 (e1.trans e2) _ fun cls d W3 e3 z => q cls d W3 (e2.trans e3) z
    | ok y =>
      show SatR (if g1 x y then o.bind fun z => .ok (g2 y z) else .ok false) _ _
      cases hg : g1 x y with
      | false =>
        rw [if_neg (by decide)]
        refine fun W1 e Q q => ha' W1 e _ fun v W2 e2 p => hb' W2 (e.trans e2) _ fun w W3 e3 p3 => h1 x y W1 W3 v w ((k1 x).up p e3) ((k2 y).dn e2 p3) _ fun u W4 e4 p4 => ⟨g1 x y, p4, ?_⟩
        rw [hg, if_neg (by decide)]
        exact q _ W4 (e2.trans (e3.trans e4)) rfl
      | true =>
        rw [if_pos rfl]
        cases o with
        | no => trivial
        | ex e =>
          refine fun W1 e1 Q q => ha' W1 e1 _ fun v W2 e2 p => hb' W2 (e1.trans e2) _ fun w W3 e3 p3 => h1 x y W1 W3 v w ((k1 x).up p e3) ((k2 y).dn e2 p3) _ fun u W4 e4 p4 => ⟨g1 x y, p4, ?_⟩
          rw [hg, if_pos rfl]
          exact hc' W4 (e1.trans (e2.trans (e3.trans e4))) _ fun cls d W5 e5 z => q cls d W5 (e2.trans (e3.trans (e4.trans e5))) z
        | ok z =>
          refine fun W1 e Q q => ha' W1 e _ fun v W2 e2 p => hb' W2 (e.trans e2) _ fun w W3 e3 p3 => h1 x y W1 W3 v w ((k1 x).up p e3) ((k2 y).dn e2 p3) _ fun u W4 e4 p4 => ⟨g1 x y, p4, ?_⟩
          rw [hg, if_pos rfl]
          exact hc' W4 (e.trans (e2.trans (e3.trans e4))) _ fun t W5 e5 p5 => h2 y z W2 W5 w t ((k2 y).up p3 (e4.trans e5)) ((k3 z).dn (e3.trans e4) p5) Q fun t' W6 e6 p6 => q _ W6 (e2.trans (e3.trans (e4.trans (e5.trans e6)))) p6
/-- [x] * n -/
@[irreducible] def R.rep (xs : List α) (n : Int) : R (List α) := if n < 2 ^ 63 ∧ -(2 ^ 63) ≤ n ∧ xs.length * n.toNat ≤ sizeLine then .ok (List.replicate n.toNat xs).flatten else .no
theorem al_rep {P : α → V → Prop} {xs : List α} {vs : List V} (h : Al P xs vs) : ∀ n, Al P (List.replicate n xs).flatten (List.replicate n vs).flatten
  | 0 => Al.nil
  | n + 1 => by
    rw [List.replicate_succ, List.replicate_succ, List.flatten_cons, List.flatten_cons]
    exact h.app (al_rep h n)
theorem len_rep (xs : List α) (n : Nat) : (List.replicate n xs).flatten.length = xs.length * n := by
  simp [List.length_flatten, Nat.mul_comm]
theorem o_rep [Rp α] : Op2 rRep (fun xs : List α => kLs K xs) (fun i : Int => kFr K i) R.rep (fun x : List α => kNw K x) := fun xs n => by
  unfold R.rep
  split
  · rename_i z e
    by_cases h : n < 2 ^ 63 ∧ -(2 ^ 63) ≤ n ∧ xs.length * n.toNat ≤ sizeLine
    · rw [if_pos h] at e
      cases e
      intro W0 W v w ⟨p, vs, ev, hp, al, l⟩ hw Q q
      have hl : (List.replicate n.toNat xs).flatten.length ≤ sizeLine := by rw [len_rep]; exact h.2.2
      exact ⟨p, n, vs, ev, hw, hp, h.2.1, h.1, al.1 ▸ h.2.2, fun b hb => q _ (W.no b _ hb) (Le.no hb) ⟨[b], ⟨b, _, rfl, rfl, W.sub.nope hb, upd_same, al_rep al _, hl⟩, fun a ha => by rw [List.mem_singleton.mp ha]; exact hb⟩⟩
    · rw [if_neg h] at e; cases e
  · rename_i e h
    split at h <;> cases h
  · trivial
/-! ### == at any depth -/
class Pd (α : Type) [Rp α] where
  pd : α → PyData
  dp : ∀ {K : Frag} {x : α} {v : V} {G : Hp}, Rp.rep K x v G → Dp K G v (pd x)
  n : Nat
  dep : ∀ {K : Frag} {x : α} {v : V} {G : Hp}, Rp.rep K x v G → (pd x).depth ≤ n
  lay : ∀ {K : Frag} {x : α} {v : V} {G : Hp}, Rp.rep K x v G → (pd x).canLay0 = true
  eq : ∀ x y : α, PyData.eqv (pd x) (pd y) = true ↔ x = y
instance : Pd Int := ⟨.int, fun h => by cases h; exact .int _, 0, fun _ => by simp [PyData.depth], fun _ => by simp [PyData.canLay0], fun x y => by simp [PyData.eqv]⟩
instance : Pd Bool := ⟨.bool, fun h => by cases h; exact .bl _, 0, fun _ => by simp [PyData.depth], fun _ => by simp [PyData.canLay0], fun x y => by simp [PyData.eqv]⟩
instance : Pd Str := ⟨.str, fun h => by cases h.1; exact .str _, 0, fun _ => by simp [PyData.depth], fun h => by
  show PyData.canLay0 (.str _) = true
  unfold PyData.canLay0
  exact h.2.2, fun x y => by simp [PyData.eqv]⟩
instance : Pd Unit := ⟨fun _ => .none, fun h => by cases h; exact .non, 0, fun _ => by simp [PyData.depth], fun _ => by simp [PyData.canLay0], fun x y => by simp [PyData.eqv]⟩
section
variable [Rp α] [Pd α] [Rp β] [Pd β] [Rp γ] [Pd γ] [Rp δ] [Pd δ]
theorem dpAll {G : Hp} : ∀ {xs : List α} {vs : List V}, Al (fun x v => Rp.rep K x v G) xs vs → DpAll K G vs (xs.map Pd.pd)
  | [], [], _ => .nil
  | [], v :: vs, h => by have := h.1; simp at this
  | x :: xs, [], h => by have := h.1; simp at this
  | x :: xs, v :: vs, h => .cons (Pd.dp (h.2 0 x v rfl rfl)) (dpAll ⟨by have := h.1; simpa using this, fun i y w a b => h.2 (i + 1) y w a b⟩)
theorem depAll {G : Hp} : ∀ {xs : List α} {vs : List V}, Al (fun x v => Rp.rep K x v G) xs vs → PyData.depthAll (xs.map Pd.pd) ≤ Pd.n α
  | [], [], _ => by simp [PyData.depthAll]
  | [], v :: vs, h => by have := h.1; simp at this
  | x :: xs, [], h => by have := h.1; simp at this
  | x :: xs, v :: vs, h => by
    have h1 := Pd.dep (h.2 0 x v rfl rfl)
    have h2 := depAll (xs := xs) (vs := vs) ⟨by have := h.1; simpa using this, fun i y w a b => h.2 (i + 1) y w a b⟩
    simp only [List.map_cons, PyData.depthAll]
    omega
theorem layAll {G : Hp} : ∀ {xs : List α} {vs : List V}, Al (fun x v => Rp.rep K x v G) xs vs → PyData.canLayAll0 (xs.map Pd.pd) = true
  | [], [], _ => by simp [PyData.canLayAll0]
  | [], v :: vs, h => by have := h.1; simp at this
  | x :: xs, [], h => by have := h.1; simp at this
  | x :: xs, v :: vs, h => by
    have h1 := Pd.lay (h.2 0 x v rfl rfl)
    have h2 := layAll (xs := xs) (vs := vs) ⟨by have := h.1; simpa using this, fun i y w a b => h.2 (i + 1) y w a b⟩
    simp only [List.map_cons, PyData.canLayAll0, h1, h2, Bool.and_self]
theorem eqAll : ∀ xs ys : List α, PyData.eqvAll (xs.map Pd.pd) (ys.map Pd.pd) = true ↔ xs = ys
  | [], [] => by simp [PyData.eqvAll]
  | [], y :: ys => by simp [PyData.eqvAll]
  | x :: xs, [] => by simp [PyData.eqvAll]
  | x :: xs, y :: ys => by simp only [List.map_cons, PyData.eqvAll, Bool.and_eq_true, Pd.eq, eqAll xs ys, List.cons.injEq]
instance : Pd (List α) := ⟨fun xs => .list (xs.map Pd.pd), fun ⟨p, vs, e, h, al, l⟩ => by subst e; exact .lst (.inl (.inl h)) (dpAll al), Pd.n α + 1, fun ⟨p, vs, e, h, al, l⟩ => by
  simp only [PyData.depth]; have := depAll al; omega, fun ⟨p, vs, e, h, al, l⟩ => by simp only [PyData.canLay0]; exact layAll al, fun x y => by simp only [PyData.eqv]; exact eqAll x y⟩
instance : Pd (Tup α) := ⟨fun xs => .tuple (xs.l.map Pd.pd), fun ⟨p, vs, e, h, al, l⟩ => by subst e; exact .tup h (dpAll al), Pd.n α + 1, fun ⟨p, vs, e, h, al, l⟩ => by
  simp only [PyData.depth]; have := depAll al; omega, fun ⟨p, vs, e, h, al, l⟩ => by simp only [PyData.canLay0]; exact layAll al, fun x y => by
  simp only [PyData.eqv]; rw [eqAll]; cases x; cases y; simp⟩
instance : Pd (α × β) := ⟨fun x => .tuple [Pd.pd x.1, Pd.pd x.2], fun ⟨p, a, b, e, h, r1, r2⟩ => by subst e; exact .tup h (.cons (Pd.dp r1) (.cons (Pd.dp r2) .nil)), max (Pd.n α) (Pd.n β) + 1, fun ⟨p, a, b, e, h, r1, r2⟩ => by
  simp only [PyData.depth, PyData.depthAll]; have := Pd.dep r1; have := Pd.dep r2; omega, fun ⟨p, a, b, e, h, r1, r2⟩ => by simp only [PyData.canLay0, PyData.canLayAll0, Pd.lay r1, Pd.lay r2, Bool.and_self], fun x y => by
  simp only [PyData.eqv, PyData.eqvAll, Bool.and_eq_true, Pd.eq, and_true]; cases x; cases y; simp⟩
instance : Pd (T3 α β γ) := ⟨fun x => .tuple [Pd.pd x.a, Pd.pd x.b, Pd.pd x.c], fun ⟨p, a, b, d, e, h, r1, r2, r3⟩ => by subst e; exact .tup h (.cons (Pd.dp r1) (.cons (Pd.dp r2) (.cons (Pd.dp r3) .nil))), max (Pd.n α) (max (Pd.n β) (Pd.n γ)) + 1, fun ⟨p, a, b, d, e, h, r1, r2, r3⟩ => by
  simp only [PyData.depth, PyData.depthAll]; have := Pd.dep r1; have := Pd.dep r2; have := Pd.dep r3; omega, fun ⟨p, a, b, d, e, h, r1, r2, r3⟩ => by simp only [PyData.canLay0, PyData.canLayAll0, Pd.lay r1, Pd.lay r2, Pd.lay r3, Bool.and_self], fun x y => by
  simp only [PyData.eqv, PyData.eqvAll, Bool.and_eq_true, Pd.eq, and_true]; cases x; cases y; simp⟩
instance : Pd (T4 α β γ δ) := ⟨fun x => .tuple [Pd.pd x.a, Pd.pd x.b, Pd.pd x.c, Pd.pd x.d], fun ⟨p, a, b, d, f, e, h, r1, r2, r3, r4⟩ => by subst e; exact .tup h (.cons (Pd.dp r1) (.cons (Pd.dp r2) (.cons (Pd.dp r3) (.cons (Pd.dp r4) .nil)))), max (Pd.n α) (max (Pd.n β) (max (Pd.n γ) (Pd.n δ))) + 1, fun ⟨p, a, b, d, f, e, h, r1, r2, r3, r4⟩ => by
  simp only [PyData.depth, PyData.depthAll]; have := Pd.dep r1; have := Pd.dep r2; have := Pd.dep r3; have := Pd.dep r4; omega, fun ⟨p, a, b, d, f, e, h, r1, r2, r3, r4⟩ => by simp only [PyData.canLay0, PyData.canLayAll0, Pd.lay r1, Pd.lay r2, Pd.lay r3, Pd.lay r4, Bool.and_self], fun x y => by
  simp only [PyData.eqv, PyData.eqvAll, Bool.and_eq_true, Pd.eq, and_true]; cases x; cases y; simp⟩
end
mutual
theorem dp_mono {G H : Hp} (s : Inc G H) : ∀ {v : V} {d : PyData}, Dp K G v d → Dp K H v d
  | _, _, .non => .non
  | _, _, .bl b => .bl b
  | _, _, .int i => .int i
  | _, _, .str x => .str x
  | _, _, .lst h a => .lst (s.sql h) (dpAll_mono s a)
  | _, _, .tup h a => .tup (s.sqt h) (dpAll_mono s a)
theorem dpAll_mono {G H : Hp} (s : Inc G H) : ∀ {vs : List V} {ds : List PyData}, DpAll K G vs ds → DpAll K H vs ds
  | _, _, .nil => .nil
  | _, _, .cons h t => .cons (dp_mono s h) (dpAll_mono s t)
end
theorem shaped_of [Rp α] [Pd α] {x : α} {v : V} {G : Hp} (h : Rp.rep K x v G) (hn : Pd.n α ≤ 64) : SeqAt.shaped (Pd.pd x) = true := by
  unfold SeqAt.shaped
  rw [Bool.and_eq_true]
  exact ⟨Pd.lay h, decide_eq_true (Nat.le_trans (Pd.dep h) hn)⟩
theorem pd_dec [Rp α] [DecidableEq α] [Pd α] (x y : α) : PyData.eqv (Pd.pd x) (Pd.pd y) = decide (x = y) := by
  by_cases h : x = y
  · rw [decide_eq_true h]; exact (Pd.eq x y).mpr h
  · rw [decide_eq_false h]
    cases e : PyData.eqv (Pd.pd x) (Pd.pd y) with
    | false => rfl
    | true => exact absurd ((Pd.eq x y).mp e) h
theorem o_eqD [Rp α] [DecidableEq α] [Pd α] (hn : Pd.n α ≤ 64 := by decide) : Op2 (rEqD K) (fun x : α => kFr K x) (fun x : α => kFr K x) (fun x y => .ok (decide (x = y))) (fun z : Bool => kFr K z) := fun x y W0 W v w hv hw Q q =>
  ⟨Pd.pd x, Pd.pd y, dp_mono W.sub (Pd.dp hv), dp_mono W.sub (Pd.dp hw), shaped_of hv hn, shaped_of hw hn, q _ W (Le.refl _) (by rw [pd_dec]; rfl)⟩
theorem o_neD [Rp α] [DecidableEq α] [Pd α] (hn : Pd.n α ≤ 64 := by decide) : Op2 (rNeD K) (fun x : α => kFr K x) (fun x : α => kFr K x) (fun x y => .ok (!decide (x = y))) (fun z : Bool => kFr K z) := fun x y W0 W v w hv hw Q q =>
  ⟨Pd.pd x, Pd.pd y, dp_mono W.sub (Pd.dp hv), dp_mono W.sub (Pd.dp hw), shaped_of hv hn, shaped_of hw hn, q _ W (Le.refl _) (by rw [pd_dec]; rfl)⟩
end
theorem hu64 {A : Around} {k : Nat} (hr : Room k A) : A.units + 64 < cLine := by have := hr.un; omega
/-- the end of a law: it says True of every script -/
theorem law_end {K : Frag} {M : Str → Value} {f : Sq Int → R Bool} (H : ∀ ns : List Int, ns.length ≤ 63 → f ⟨ns⟩ = .ok true) (Hh : Hp) (a : Addr) (ns : List Int) (hl : ns.length ≤ 63) (hS : SqL K Hh a (ns.map V.int)) :
    spF ⟨K, M⟩ (fun x : Sq Int × Unit => f x.1) (fun x : Bool => kFr K x) [.ref a] Hh (fun v _ => v = .bl true) fun _ _ _ => False := by
  refine ⟨.all Hh, (⟨ns⟩, ()), rfl, ⟨.ref a, [], rfl, ⟨a, _, rfl, hS, ⟨by simp, fun i x v h1 h2 => ?_⟩, Nat.le_trans hl (by decide)⟩, rfl⟩, ?_⟩
  · rw [List.getElem?_map] at h2
    have h1' : ns[i]? = some x := h1
    rw [h1'] at h2
    exact (Option.some.inj h2).symm
  · dsimp only
    rw [H ns hl]
    exact fun v W' _ p => p
theorem cx_never {P : Program} {w : World} {outer : List Env} {H : Hp} {s : Shared} {e : Value} {s' : Shared} (h : L2.CX P w outer H s (fun _ _ _ => False) e s') : False := by
  obtain ⟨_, _, _, _, _, _, _, _, _, _, _, _, z⟩ := h
  exact z
theorem walk_law {l : PySem.W.OpenLaw} {q : Program} {loose : List Str} {XP : (Str → Option Value) → Heap → Prop} {YP : World → Heap → Prop} {d : DefRec} {K : Params → PySem.W.Frag} {k : Nat} {x : Str} {M : Str → Value} {f : Sq Int → R Bool}
    (H : ∀ ns : List Int, ns.length ≤ 63 → f ⟨ns⟩ = .ok true) (hn : l.most = some 63) (hdf : d.params.defaults = []) (hr : Room k callerA) (hY : ∀ (w : World) (h : Heap), YP w h → (K w.params).In h)
    (F : ∀ (w : World) (mg : Str → Option Value) (fa : Addr) (h : Heap), (K w.params).In h → h.Ns mainGlobals mg → mg d.name = some (.ref fa) →
      ∃ fd : FuncData, (∀ (s : Shared) (u : Value), BindsTo s fd ⟨[u], []⟩ [(x, u)]) ∧ ∀ base : Heap, (K w.params).In base → base.Ns mainGlobals mg → FnOk l.prog w (K w.params) mg base (L2.CX l.prog w) k fa fd [x] (spF ⟨K w.params, M⟩ (fun x : Sq Int × Unit => f x.1) (fun x : Bool => kFr (K w.params) x))) :
    PySem.W.WalkO q loose XP YP l.row.toRowW d [] (fun f vs => PySem.call f vs) :=
  L2.walk_of (n := 63) (k := k) (x := x) (CX := fun w => L2.CX l.prog w) (sp := fun w => spF ⟨K w.params, M⟩ (fun x : Sq Int × Unit => f x.1) (fun x : Bool => kFr (K w.params) x)) hn (by decide) hdf hr hY F (fun _ Hh a ns hl _ hS => law_end H Hh a ns hl hS) fun _ _ _ _ _ z => cx_never z
end Fw

namespace Fw
open PySem L2
/-! ### xs[a:b:c], c written, above 0 -/
section
open PySem.Spec PyProof.Rows
variable {X : Cx}
def pickL {α : Type} (xs : List α) (lo hi : Option Int) (c : Int) : List α := (sliceRange (sliceBounds lo hi (some c) xs.length).1 (sliceBounds lo hi (some c) xs.length).2.1 (sliceBounds lo hi (some c) xs.length).2.2).filterMap (xs[·]?)
def tSl3 (K : Frag) (te : TE) (tl th : TO) (c : Int) : TE := fun σ H Q => te σ H fun x H1 => tl σ H1 fun l H2 => th σ H2 fun u H3 => ∃ a xs, x = .ref a ∧ SqL K H3 a xs ∧ ∀ p, H3 p = none → Q (.ref p) (upd H3 p (.lst (pickL xs l u c)))
theorem vals_pick {xs : List V} {us : List Value} (r : Vals xs us) : ∀ is : List Nat, Vals (is.filterMap (xs[·]?)) (is.filterMap (us[·]?))
  | [] => .nil
  | i :: is => by
    rw [List.filterMap_cons, List.filterMap_cons]
    cases e : xs[i]? with
    | none => rw [r.none_of e]; exact vals_pick r is
    | some x =>
      obtain ⟨u, hu, ru⟩ := r.get e
      rw [hu]
      exact .cons ru (vals_pick r is)
theorem pe_slice3 {e : Expr} {te : TE} {lo hi : Option Expr} {tl th : TO} {c : Int} {k : Nat} {p1 p2 pos : Pos} (he : PE X e te) (hl : PO X lo tl) (hu : PO X hi th) (hc : some c ≠ some (0 : Int)) :
    PE X (.Subscript e (.Slice lo hi (some (.Constant (.int c) k p1)) p2) pos) (tSl3 X.K te tl th c) := by
  refine ⟨fun pins s σ H Q I h => ?_⟩
  refine Subscript_ (thn (he.run pins s σ H _ I h) fun v s1 ⟨x, H1, I1, r1, q1⟩ => ?_)
  have hst : PO X (some (.Constant (.int c) k p1)) (tPart (tC (.int c))) := po_some pe_int
  refine wpAny_Slice (thn (hl.run pins s1 σ H1 _ I1 q1) fun vl s2 ⟨l, H2, I2, pl, q2⟩ => ?_)
  refine thn (hu.run pins s2 σ H2 _ I2 q2) fun vu s3 ⟨u, H3, I3, pu, q3⟩ => ?_
  refine thn (hst.run pins s3 σ H3 (fun o H4 => o = some c ∧ H4 = H3) I3 ⟨c, rfl, rfl, rfl⟩) fun vs s4 ⟨o, H4, I4, ps, eo, e4⟩ => ?_
  subst eo e4
  obtain ⟨a, xs, ex, hx, q⟩ := q3
  subst ex
  cases r1
  have I5 : Inv X pins σ H4 { s4 with heap := s4.heap.push { cls := .type "slice", data := .fields #[vl, vu, vs] } } := I4.kept (t' := s4.toks) fun b ob q => Heap.get?_push_of_some _ q
  obtain ⟨its, r, ht, hz⟩ := I5.list hx
  have hlen := r.length
  show wpAny (model X.prog X.w) X.A (subscriptTail e (.Slice lo hi (some (.Constant (.int c) k p1)) p2) (.ref a) (.ref s4.heap.objs.size)) (EP X pins σ Q) X.xe { s4 with heap := s4.heap.push { cls := .type "slice", data := .fields #[vl, vu, vs] } }
  refine tail_any (ops := [.ref a, .ref s4.heap.objs.size]) ht.isList.typeIs (PySem.slot_list_getitem.lookup) ?_ (by with_unfolding_all rfl)
  refine wpAny_getItem_list_slice ht.isList (Heap.IsSliceOf.new _ vl vu vs) pl pu ps hc ?_ (by rw [List.size_toArray]; omega)
  have e5 : slicePick its.toArray l u (some c) = ((sliceRange (sliceBounds l u (some c) xs.length).1 (sliceBounds l u (some c) xs.length).2.1 (sliceBounds l u (some c) xs.length).2.2).filterMap (its[·]?)).toArray := by
    unfold slicePick
    rw [List.size_toArray, ← hlen]
    simp only [List.getElem?_toArray]
  rw [e5]
  have v5 := vals_pick r (sliceRange (sliceBounds l u (some c) xs.length).1 (sliceBounds l u (some c) xs.length).2.1 (sliceBounds l u (some c) xs.length).2.2)
  refine ⟨.ref _, _, I5.laid (t' := s4.toks) (o := .lst (pickL xs l u c)) (fun b ob q => Heap.get?_push_of_some _ q) (Nat.le_refl _) ?_, rfl, q _ (I5.hok.fresh (Nat.le_refl _))⟩
  refine ⟨?_, _, 0, v5, Heap.get?_push_size _ rfl⟩
  have z := slicePick_size_le its.toArray l u (some c)
  rw [e5, List.size_toArray, List.size_toArray, ← v5.length] at z
  exact Nat.le_trans z (by rw [← hlen]; exact hz)
end
section
variable {c : Cn} {W0 : Wd} {X : WX} {As Bs : List Sl} {α β γ δ τ ρ : Type} {K : Frag}
theorem al_pick {P : α → V → Prop} {xs : List α} {vs : List V} (h : Al P xs vs) : ∀ is : List Nat, Al P (is.filterMap (xs[·]?)) (is.filterMap (vs[·]?))
  | [] => Al.nil
  | i :: is => by
    rw [List.filterMap_cons, List.filterMap_cons]
    cases e : xs[i]? with
    | none =>
      have : vs[i]? = none := List.getElem?_eq_none_iff.mpr (h.1 ▸ List.getElem?_eq_none_iff.mp e)
      rw [this]; exact al_pick h is
    | some x =>
      obtain ⟨v, hv, r⟩ := h.get e
      rw [hv]
      exact (al_pick h is).cons r
theorem range_filterMap_len (f : Nat → Nat) (hf : ∀ i j, i < j → f i < f j) (xs : List α) : ∀ n k, ((List.range n).filterMap fun i => xs[f (k + i)]?).length ≤ xs.length - f k := by
  intro n
  induction n with
  | zero => intro k; simp
  | succ n ih =>
    intro k
    rw [List.range_succ_eq_map, List.filterMap_cons]
    have e2 : ((List.range n).map Nat.succ).filterMap (fun i => xs[f (k + i)]?) = (List.range n).filterMap fun i => xs[f (k + 1 + i)]? := by
      rw [List.filterMap_map]
      congr 1
      funext i
      show xs[f (k + (i + 1))]? = _
      rw [show k + (i + 1) = k + 1 + i by omega]
    have h1 := ih (k + 1)
    have h2 := hf k (k + 1) (by omega)
    rw [e2]
    cases e : xs[f (k + 0)]? with
    | none => dsimp only; omega
    | some x =>
      have h3 := (List.getElem?_eq_some_iff.mp e).1
      rw [Nat.add_zero] at h3
      dsimp only [List.length_cons]
      omega
@[irreducible] def R.pick (xs : List α) (lo hi : Option Int) (c : Int) : R (List α) := if (pickL xs lo hi c).length ≤ sizeLine then .ok (pickL xs lo hi c) else .no
theorem r_sl3 [Rp α] {te : TE} {tl th : TO} {st : Int} {m : R (List α)} {a b : R (Option Int)} (h : Exr c W0 X te As m fun x => kSh c.K x) (ha : Opo c W0 X tl As a) (hb : Opo c W0 X th As b) :
    Exr c W0 X (tSl3 c.K te tl th st) As (m.bind fun xs => a.bind fun lo => b.bind fun hi => R.pick xs lo hi st) fun ys => kNw c.K ys := fun σ W at_ => by
  have h' := h σ W at_
  have ha' := ha σ W at_
  have hb' := hb σ W at_
  cases m with
  | no => trivial
  | ex e => exact fun W1 e1 Q q => h' W1 e1 _ q
  | ok xs =>
    cases a with
    | no => trivial
    | ex e => exact fun W1 e1 Q q => h' W1 e1 _ fun v W2 e2 p => ha' W2 (e1.trans e2) _ fun cls d W3 e3 z => q cls d W3 (e2.trans e3) z
    | ok lo =>
      cases b with
      | no => trivial
      | ex e => exact fun W1 e1 Q q => h' W1 e1 _ fun v W2 e2 p => ha' W2 (e1.trans e2) _ fun W3 e3 => hb' W3 (e1.trans (e2.trans e3)) _ fun cls d W4 e4 z => q cls d W4 (e2.trans (e3.trans e4)) z
      | ok hi =>
        show SatR (R.pick xs lo hi st) _ _
        unfold R.pick
        split
        · rename_i hz
          refine fun W1 e1 Q q => h' W1 e1 _ fun v W2 e2 ⟨p, vs, ev, hs, al, l⟩ => ha' W2 (e1.trans e2) _ fun W3 e3 => hb' W3 (e1.trans (e2.trans e3)) _ fun W4 e4 => ⟨p, vs, ev, (e3.trans e4).h.sql hs, fun b hb => ?_⟩
          refine q _ (W4.no b _ hb) ((e2.trans (e3.trans e4)).trans (Le.no hb)) ⟨[b], ⟨b, _, rfl, rfl, W4.sub.nope hb, upd_same, ?_, hz⟩, fun a ha => by rw [List.mem_singleton.mp ha]; exact (e2.trans (e3.trans e4)).fr hb⟩
          unfold pickL
          rw [← al.1]
          exact al_pick (al_mono al (e3.trans e4).g) _
        · trivial
/-! ### all looked at as frozen, and back again -/
def Wd.bk (W W3 : Wd) (e : Le (.all W.H) W3) : Wd := ⟨fun a => match W.H a with
  | some _ => W.G a
  | none => W3.G a, W3.H, fun a o h => by
    dsimp only at h
    cases q : W.H a with
    | none => rw [q] at h; exact W3.sub a o h
    | some u => rw [q] at h; exact e.h a o (W.sub a o h), fun a u h i => by
    show (match W.H a with | some _ => W.G a | none => W3.G a) = some u
    cases q : W.H a with
    | none => exact W3.im a u h i
    | some o =>
      have h1 : W3.H a = some o := e.h a o q
      rw [h] at h1
      cases h1
      exact W.im a _ q i⟩
theorem bk_old {W W3 : Wd} {e : Le (.all W.H) W3} {a : Addr} {o : HO} (h : W.H a = some o) : (W.bk W3 e).G a = W.G a := by
  show (match W.H a with | some _ => W.G a | none => W3.G a) = W.G a
  rw [h]
theorem bk_new {W W3 : Wd} {e : Le (.all W.H) W3} {a : Addr} (h : W.H a = none) : (W.bk W3 e).G a = W3.G a := by
  show (match W.H a with | some _ => W.G a | none => W3.G a) = W3.G a
  rw [h]
theorem bk_le {W W3 : Wd} {e : Le (.all W.H) W3} : Le W (W.bk W3 e) := ⟨fun a o h => by rw [bk_old (W.sub a o h)]; exact h, e.h, fun a g n => by
  cases h : W.H a with
  | none => exact absurd h n
  | some u => rw [bk_old h]; exact g⟩
/-- what can't change is kept from the one to the other -/
def Tk (G G' : Hp) : Prop := ∀ p u, imm u = true → G p = some u → G' p = some u
theorem bk_tk {W W3 : Wd} {e : Le (.all W.H) W3} : Tk W3.G (W.bk W3 e).G := fun p u i h => (W.bk W3 e).im p u (W3.sub p u h) i
/-! ### borrowed -/
def kBw (K : Frag) [Rp α] (x : α) : Kd := ⟨fun _ v W => Rp.rep K x v W.H, fun h e => Rp.mono e.h h, fun _ h => h⟩
theorem fr_bw [Rp α] {x : α} {v : V} {A W : Wd} (h : (kFr K x).p A v W) : (kBw K x).p A v W := Rp.mono W.sub h
theorem own_bw [Fz α] {x : α} {v : V} {f : List Addr} {A W : Wd} (h : Ob.own K x v f W) : (kBw K x).p A v W := by
  have r : Rp.rep K x v (W.fz f).G := Fz.fz h
  exact Rp.mono (W.fz f).sub r
theorem nw_bw [Fz α] {x : α} {v : V} {A W : Wd} (h : (kNw K x).p A v W) : (kBw K x).p A v W := by
  obtain ⟨f, o, _⟩ := h
  exact own_bw (A := A) o
theorem e_varB [Fz α] {x : α} {pin : Option V} (i : Nat) (h : As[i]? = some (.ow pin x) := by rfl) : Exp c W0 (tVar i) As (kBw c.K x) := fun σ W a W1 e Q q => by
  obtain ⟨v, f, hv, r, _⟩ := a.varO h
  exact ⟨v, hv, q v W1 (Le.refl _) (own_bw (A := W1) (own_up r e))⟩
theorem e_bw [Rp α] {te : TE} {x : α} (h : Exp c W0 te As (kFr c.K x)) : Exp c W0 te As (kBw c.K x) := exp_w h fun _ _ _ => fr_bw
theorem r_bw [Rp α] {te : TE} {m : R α} (h : Exr c W0 X te As m fun x => kFr c.K x) : Exr c W0 X te As m fun x => kBw c.K x := exr_w h fun _ _ _ _ => fr_bw
theorem e_bwN [Fz α] {te : TE} {x : α} (h : Exp c W0 te As (kNw c.K x)) : Exp c W0 te As (kBw c.K x) := exp_w h fun _ _ _ => nw_bw
theorem r_bwN [Fz α] {te : TE} {m : R α} (h : Exr c W0 X te As m fun x => kNw c.K x) : Exr c W0 X te As m fun x => kBw c.K x := exr_w h fun _ _ _ _ => nw_bw
def kAsB (K : Frag) [Args τ] (x : τ) : KdA := ⟨fun _ vs W => Args.reps K x vs W.H, fun h e => Args.mono e.h h, fun _ h => h⟩
theorem ab_nil : Axr c W0 X tNil As (.ok ()) (fun x => kAsB c.K x) := fun σ W a W1 e Q q => q [] W1 (Le.refl _) rfl
theorem ab_cons [Rp α] [Args τ] {te : TE} {ta : TA} {m : R α} {n : R τ} (h : Exr c W0 X te As m fun x => kBw c.K x) (hr : Axr c W0 X ta As n fun x => kAsB c.K x) :
    Axr c W0 X (tCons te ta) As (m.bind fun x => n.bind fun y => .ok (x, y)) (fun z => kAsB c.K z) := fun σ W a => by
  have h' := h σ W a
  have hr' := hr σ W a
  cases m with
  | no => trivial
  | ex e => exact fun W1 e1 Q q => h' W1 e1 _ q
  | ok x =>
    cases n with
    | no => trivial
    | ex e => exact fun W1 e1 Q q => h' W1 e1 _ fun v W2 e2 p => hr' W2 (e1.trans e2) _ fun cls d W3 e3 z => q cls d W3 (e2.trans e3) z
    | ok y => exact fun W1 e Q q => h' W1 e _ fun v W2 e2 p => hr' W2 (e.trans e2) _ fun vs W3 e3 ps => q _ W3 (e2.trans e3) ⟨v, vs, rfl, Rp.mono e3.h p, ps⟩
/-- a call by things that are only read, of which nothing is left in what comes back -/
theorem r_callB [Args τ] [Sc ρ] {f : τ → R ρ} {ta : TA} {m : R τ} (hne : ∀ x e, f x ≠ .ex e) (h : Axr c W0 X ta As m fun x => kAsB c.K x) : Exr c W0 X (tCallS (spF c f fun x : ρ => kFr c.K x) (WE X) ta) As (m.bind f) (fun x : ρ => kFr c.K x) := fun σ W a => by
  have h' := h σ W a
  cases m with
  | no => trivial
  | ex e => exact fun W1 e1 Q q => h' W1 e1 _ q
  | ok x =>
    show SatR (f x) _ _
    cases hf : f x with
    | no => trivial
    | ex e => exact absurd hf (hne x e)
    | ok y => exact fun W1 e1 Q q => h' W1 e1 _ fun vs W2 e2 r => ⟨.all W2.H, x, rfl, r, by
        rw [hf]
        intro v W3 e3 p
        exact q v (W2.bk W3 e3) (e2.trans bk_le) (Sc.any p)⟩
/-! ### ==, in, isinstance of what is only read -/
def memB [DecidableEq α] (x : α) (xs : List α) : Bool := decide (x ∈ xs)
theorem o_eqB [Rp α] [DecidableEq α] [Pd α] (hn : Pd.n α ≤ 64 := by decide) : Op2 (rEqD K) (fun x : α => kBw K x) (fun x : α => kBw K x) (fun x y => .ok (decide (x = y))) (fun z : Bool => kFr K z) := fun x y W0 W v w hv hw Q q =>
  ⟨Pd.pd x, Pd.pd y, Pd.dp hv, Pd.dp hw, shaped_of hv hn, shaped_of hw hn, q _ W (Le.refl _) (by rw [pd_dec]; rfl)⟩
theorem o_neB [Rp α] [DecidableEq α] [Pd α] (hn : Pd.n α ≤ 64 := by decide) : Op2 (rNeD K) (fun x : α => kBw K x) (fun x : α => kBw K x) (fun x y => .ok (!decide (x = y))) (fun z : Bool => kFr K z) := fun x y W0 W v w hv hw Q q =>
  ⟨Pd.pd x, Pd.pd y, Pd.dp hv, Pd.dp hw, shaped_of hv hn, shaped_of hw hn, q _ W (Le.refl _) (by rw [pd_dec]; rfl)⟩
theorem any_pd [Rp α] [DecidableEq α] [Pd α] (x : α) : ∀ ys : List α, ((ys.map Pd.pd).any fun z => PyData.eqv z (Pd.pd x)) = decide (x ∈ ys)
  | [] => by simp
  | y :: ys => by
    rw [List.map_cons, List.any_cons, any_pd x ys, pd_dec]
    by_cases h : x = y
    · subst h; simp
    · rw [decide_eq_false (fun e => h e.symm)]
      simp [h]
theorem o_inD [Rp α] [DecidableEq α] [Pd α] (hn : Pd.n α < 64 := by decide) : Op2 (rInD K) (fun x : α => kBw K x) (fun x : List α => kBw K x) (fun x y => .ok (memB x y)) (fun z : Bool => kFr K z) := fun x y W0 W v w hv hw Q q =>
  ⟨Pd.pd x, y.map Pd.pd, Pd.dp hv, Pd.dp (α := List α) hw, shaped_of hv (Nat.le_of_lt hn), shaped_of (α := List α) hw (show Pd.n α + 1 ≤ 64 from hn), q _ W (Le.refl _) (by rw [any_pd]; rfl)⟩
theorem o_ninD [Rp α] [DecidableEq α] [Pd α] (hn : Pd.n α < 64 := by decide) : Op2 (rNotInD K) (fun x : α => kBw K x) (fun x : List α => kBw K x) (fun x y => .ok (!memB x y)) (fun z : Bool => kFr K z) := fun x y W0 W v w hv hw Q q =>
  ⟨Pd.pd x, y.map Pd.pd, Pd.dp hv, Pd.dp (α := List α) hw, shaped_of hv (Nat.le_of_lt hn), shaped_of (α := List α) hw (show Pd.n α + 1 ≤ 64 from hn), q _ W (Le.refl _) (by rw [any_pd]; rfl)⟩
theorem hu65 {A : Around} {k : Nat} (hr : Room k A) : A.units + 65 < cLine := by have := hr.un; omega
theorem o_isiB [Rp α] [Pt α] {T : String} {b : Bool} (h : kitB (Pt.ty α) T = some b) : OpA (rIsi K) (fun z : α × Unit => aCons (kBw K z.1) (aCons (kV (.ty T)) aNil)) (fun _ => .ok b) (fun b : Bool => kFr K b) := fun z W0 W vs ⟨v, r, e, hv, w, r2, e2, ew, en⟩ Q q => by
  have ew' : w = .ty T := ew
  subst e e2 en ew'
  exact ⟨v, .ty T, .type (Pt.ty α), .type T, b, rfl, .ty T, Pt.is hv, kit_ty h, q _ W (Le.refl _) rfl⟩
/-! ### xs + ys -/
@[irreducible] def R.cat (xs ys : List α) : R (List α) := if xs.length + ys.length ≤ sizeLine then .ok (xs ++ ys) else .no
theorem o_cat [Rp α] : Op2 rCat (fun xs : List α => kLs K xs) (fun ys : List α => kLs K ys) R.cat (fun x : List α => kNw K x) := fun xs ys => by
  unfold R.cat
  split
  · rename_i z e
    by_cases h : xs.length + ys.length ≤ sizeLine
    · rw [if_pos h] at e
      cases e
      intro W0 W v w ⟨p, vs, ev, hp, al, l⟩ ⟨p2, vs2, ev2, hp2, al2, l2⟩ Q q
      exact ⟨p, p2, vs, vs2, ev, ev2, hp, hp2, al.1 ▸ al2.1 ▸ h, fun b hb => q _ (W.no b _ hb) (Le.no hb) ⟨[b], ⟨b, _, rfl, rfl, W.sub.nope hb, upd_same, al.app al2, by rw [List.length_append]; exact h⟩, fun a ha => by rw [List.mem_singleton.mp ha]; exact hb⟩⟩
    · rw [if_neg h] at e; cases e
  · rename_i e h
    split at h <;> cases h
  · trivial
/-! ### one of two -/
instance [Rp α] [Rp β] : Rp (α ⊕ β) := ⟨fun K x v G => match x with
  | .inl a => Rp.rep K a v G
  | .inr b => Rp.rep K b v G, fun {K x v G H} s h => by
    cases x with
    | inl a => exact Rp.mono (α := α) s h
    | inr b => exact Rp.mono (α := β) s h⟩
theorem e_inl [Rp α] [Rp β] {te : TE} {x : α} (h : Exp c W0 te As (kFr c.K x)) : Exp c W0 te As (kFr c.K (Sum.inl x : α ⊕ β)) := exp_w h fun _ _ _ p => p
theorem e_inr [Rp α] [Rp β] {te : TE} {x : β} (h : Exp c W0 te As (kFr c.K x)) : Exp c W0 te As (kFr c.K (Sum.inr x : α ⊕ β)) := exp_w h fun _ _ _ p => p
theorem r_inl [Rp α] [Rp β] {te : TE} {m : R α} (h : Exr c W0 X te As m fun x => kFr c.K x) : Exr c W0 X te As (m.bind fun x => .ok (Sum.inl x : α ⊕ β)) fun x => kFr c.K x := fun σ W a => by
  have h' := h σ W a
  cases m with
  | ok x => exact h'
  | ex e => exact h'
  | no => trivial
theorem r_inr [Rp α] [Rp β] {te : TE} {m : R β} (h : Exr c W0 X te As m fun x => kFr c.K x) : Exr c W0 X te As (m.bind fun x => .ok (Sum.inr x : α ⊕ β)) fun x => kFr c.K x := fun σ W a => by
  have h' := h σ W a
  cases m with
  | ok x => exact h'
  | ex e => exact h'
  | no => trivial
def R.getL (x : α ⊕ β) : R α := match x with
  | .inl a => .ok a
  | .inr _ => .no
def R.getR (x : α ⊕ β) : R β := match x with
  | .inl _ => .no
  | .inr b => .ok b
theorem r_getL [Rp α] [Rp β] {te : TE} {m : R (α ⊕ β)} (h : Exr c W0 X te As m fun x => kFr c.K x) : Exr c W0 X te As (m.bind R.getL) fun x => kFr c.K x := fun σ W a => by
  have h' := h σ W a
  cases m with
  | ok x =>
    cases x with
    | inl a => exact h'
    | inr b => trivial
  | ex e => exact h'
  | no => trivial
theorem r_getR [Rp α] [Rp β] {te : TE} {m : R (α ⊕ β)} (h : Exr c W0 X te As m fun x => kFr c.K x) : Exr c W0 X te As (m.bind R.getR) fun x => kFr c.K x := fun σ W a => by
  have h' := h σ W a
  cases m with
  | ok x =>
    cases x with
    | inl a => trivial
    | inr b => exact h'
  | ex e => exact h'
  | no => trivial
class Apart (α β : Type) [Rp α] [Rp β] [Pd α] [Pd β] where
  l : ∀ (a : α) (b : β), PyData.eqv (Pd.pd a) (Pd.pd b) = false
  r : ∀ (a : α) (b : β), PyData.eqv (Pd.pd b) (Pd.pd a) = false
instance [Rp α] [Pd α] : Apart Str (Tup α) := ⟨fun _ _ => by simp [Pd.pd, PyData.eqv], fun _ _ => by simp [Pd.pd, PyData.eqv]⟩
instance [Rp α] [Pd α] [Rp β] [Pd β] [Rp γ] [Pd γ] [Rp δ] [Pd δ] : Apart Int (T4 α β γ δ) := ⟨fun _ _ => by simp [Pd.pd, PyData.eqv], fun _ _ => by simp [Pd.pd, PyData.eqv]⟩
instance [Rp α] [Rp β] [Pd α] [Pd β] [Apart α β] : Pd (α ⊕ β) where
  pd x := match x with
    | .inl a => Pd.pd a
    | .inr b => Pd.pd b
  dp := fun {K x v G} h => by
    cases x with
    | inl a => exact Pd.dp (α := α) h
    | inr b => exact Pd.dp (α := β) h
  n := max (Pd.n α) (Pd.n β)
  dep := fun {K x v G} h => by
    cases x with
    | inl a => have := Pd.dep (α := α) h; dsimp only; omega
    | inr b => have := Pd.dep (α := β) h; dsimp only; omega
  lay := fun {K x v G} h => by
    cases x with
    | inl a => exact Pd.lay (α := α) h
    | inr b => exact Pd.lay (α := β) h
  eq x y := by
    cases x with
    | inl a =>
      cases y with
      | inl b => simp [Pd.eq]
      | inr b => simp [Apart.l]
    | inr a =>
      cases y with
      | inl b => simp [Apart.r]
      | inr b => simp [Pd.eq]
/-! ### None or a thing -/
class NN (α : Type) [Rp α] where
  nn : ∀ {K : Frag} {x : α} {v : V} {G : Hp}, Rp.rep K x v G → v ≠ .non
instance : NN Int := ⟨fun h => by cases h; exact fun z => nomatch z⟩
instance : NN Bool := ⟨fun h => by cases h; exact fun z => nomatch z⟩
instance : NN Str := ⟨fun h => by cases h.1; exact fun z => nomatch z⟩
instance [Rp α] : NN (List α) := ⟨fun ⟨p, vs, e, _⟩ => by subst e; exact fun z => nomatch z⟩
instance [Rp α] : NN (Tup α) := ⟨fun ⟨p, vs, e, _⟩ => by subst e; exact fun z => nomatch z⟩
instance [Rp α] [Rp β] : NN (α × β) := ⟨fun ⟨p, a, b, e, _⟩ => by subst e; exact fun z => nomatch z⟩
instance [Rp α] [Rp β] [Rp γ] : NN (T3 α β γ) := ⟨fun ⟨p, a, b, d, e, _⟩ => by subst e; exact fun z => nomatch z⟩
instance [Rp α] [Rp β] [Rp γ] [Rp δ] : NN (T4 α β γ δ) := ⟨fun ⟨p, a, b, d, f, e, _⟩ => by subst e; exact fun z => nomatch z⟩
theorem e_none [Rp α] {te : TE} (h : Exp c W0 te As (kFr c.K ())) : Exp c W0 te As (kFr c.K (none : Option α)) := exp_w h fun _ _ _ p => p
theorem e_some [Rp α] [NN α] {te : TE} {x : α} (h : Exp c W0 te As (kFr c.K x)) : Exp c W0 te As (kFr c.K (some x)) := exp_w h fun _ _ _ p => ⟨NN.nn p, p⟩
theorem r_some [Rp α] [NN α] {te : TE} {m : R α} (h : Exr c W0 X te As m fun x => kFr c.K x) : Exr c W0 X te As (m.bind fun x => .ok (some x)) fun x => kFr c.K x := fun σ W a => by
  have h' := h σ W a
  cases m with
  | ok x => exact fun W1 e1 Q q => h' W1 e1 Q fun v W2 e2 p => q v W2 e2 ⟨NN.nn p, p⟩
  | ex e => exact h'
  | no => trivial
theorem r_get [Rp α] {te : TE} {m : R (Option α)} (h : Exr c W0 X te As m fun x => kFr c.K x) : Exr c W0 X te As (m.bind R.opt) fun x => kFr c.K x := fun σ W a => by
  have h' := h σ W a
  cases m with
  | ok x =>
    cases x with
    | none => trivial
    | some y => exact fun W1 e1 Q q => h' W1 e1 Q fun v W2 e2 p => q v W2 e2 p.2
  | ex e => exact h'
  | no => trivial
instance : Eqs (Option Int) := ⟨fun x => match x with | none => .non | some i => .int i, fun {K x u G} h => by
  cases x with
  | none => exact h
  | some i => exact h.2, fun {x y} h => by
  cases x <;> cases y <;> cases h <;> rfl, fun x y => by cases x <;> cases y <;> rfl⟩
theorem o_isiO [Rp α] [Pt α] {T : String} {b0 b1 : Bool} (h0 : kitB "NoneType" T = some b0) (h : kitB (Pt.ty α) T = some b1) : OpA (rIsi K) (fun z : Option α × Unit => aCons (kBw K z.1) (aCons (kV (.ty T)) aNil)) (fun z => .ok (if z.1.isSome then b1 else b0)) (fun b : Bool => kFr K b) := fun ⟨z, _⟩ W0 W vs ⟨v, r, e, hv, w, r2, e2, ew, en⟩ Q q => by
  have ew' : w = .ty T := ew
  subst e e2 en ew'
  cases z with
  | none => exact ⟨v, .ty T, .type "NoneType", .type T, b0, rfl, .ty T, by have : v = .non := hv; subst this; exact .base .non, kit_ty h0, q _ W (Le.refl _) rfl⟩
  | some x => exact ⟨v, .ty T, .type (Pt.ty α), .type T, b1, rfl, .ty T, Pt.is hv.2, kit_ty h, q _ W (Le.refl _) rfl⟩
/-- x in xs, flat things -/
theorem inV_dec [Rp α] [DecidableEq α] [Eqs α] (hq : ∀ x y : α, eqV (Eqs.v y) (Eqs.v x) = decide (x = y)) (x : α) : ∀ ys : List α, inV (Eqs.v x) (ys.map Eqs.v) = decide (x ∈ ys)
  | [] => by simp [inV]
  | y :: ys => by
    have ih := inV_dec hq x ys
    unfold inV at ih ⊢
    rw [List.map_cons, List.any_cons, ih, hq]
    by_cases h : x = y
    · subst h; simp
    · simp [h]
end
end Fw

namespace Fw
open PySem L2
section
open PySem.Spec PyProof.Rows
variable {X : Cx}
/-! ### a slice whose step is worked out -/
def tSl3v (K : Frag) (te : TE) (tl th ts : TO) : TE := fun σ H Q => te σ H fun x H1 => tl σ H1 fun l H2 => th σ H2 fun u H3 => ts σ H3 fun o H4 => ∃ c, o = some c ∧ c ≠ 0 ∧ ∃ a xs, x = .ref a ∧ SqL K H4 a xs ∧ ∀ p, H4 p = none → Q (.ref p) (upd H4 p (.lst (pickL xs l u c)))
theorem pe_slice3v {e es : Expr} {te : TE} {lo hi : Option Expr} {tl th ts : TO} {p2 pos : Pos} (he : PE X e te) (hl : PO X lo tl) (hu : PO X hi th) (hst : PO X (some es) ts) :
    PE X (.Subscript e (.Slice lo hi (some es) p2) pos) (tSl3v X.K te tl th ts) := by
  refine ⟨fun pins s σ H Q I h => ?_⟩
  refine Subscript_ (thn (he.run pins s σ H _ I h) fun v s1 ⟨x, H1, I1, r1, q1⟩ => ?_)
  refine wpAny_Slice (thn (hl.run pins s1 σ H1 _ I1 q1) fun vl s2 ⟨l, H2, I2, pl, q2⟩ => ?_)
  refine thn (hu.run pins s2 σ H2 _ I2 q2) fun vu s3 ⟨u, H3, I3, pu, q3⟩ => ?_
  refine thn (hst.run pins s3 σ H3 _ I3 q3) fun vs s4 ⟨o, H4, I4, ps, q4⟩ => ?_
  obtain ⟨c, eo, hc0, a, xs, ex, hx, q⟩ := q4
  have hc : some c ≠ some (0 : Int) := fun h => hc0 (Option.some.inj h)
  subst eo
  subst ex
  cases r1
  have I5 : Inv X pins σ H4 { s4 with heap := s4.heap.push { cls := .type "slice", data := .fields #[vl, vu, vs] } } := I4.kept (t' := s4.toks) fun b ob q => Heap.get?_push_of_some _ q
  obtain ⟨its, r, ht, hz⟩ := I5.list hx
  have hlen := r.length
  show wpAny (model X.prog X.w) X.A (subscriptTail e (.Slice lo hi (some es) p2) (.ref a) (.ref s4.heap.objs.size)) (EP X pins σ Q) X.xe { s4 with heap := s4.heap.push { cls := .type "slice", data := .fields #[vl, vu, vs] } }
  refine tail_any (ops := [.ref a, .ref s4.heap.objs.size]) ht.isList.typeIs (PySem.slot_list_getitem.lookup) ?_ (by with_unfolding_all rfl)
  refine wpAny_getItem_list_slice ht.isList (Heap.IsSliceOf.new _ vl vu vs) pl pu ps hc ?_ (by rw [List.size_toArray]; omega)
  have e5 : slicePick its.toArray l u (some c) = ((sliceRange (sliceBounds l u (some c) xs.length).1 (sliceBounds l u (some c) xs.length).2.1 (sliceBounds l u (some c) xs.length).2.2).filterMap (its[·]?)).toArray := by
    unfold slicePick
    rw [List.size_toArray, ← hlen]
    simp only [List.getElem?_toArray]
  rw [e5]
  have v5 := vals_pick r (sliceRange (sliceBounds l u (some c) xs.length).1 (sliceBounds l u (some c) xs.length).2.1 (sliceBounds l u (some c) xs.length).2.2)
  refine ⟨.ref _, _, I5.laid (t' := s4.toks) (o := .lst (pickL xs l u c)) (fun b ob q => Heap.get?_push_of_some _ q) (Nat.le_refl _) ?_, rfl, q _ (I5.hok.fresh (Nat.le_refl _))⟩
  refine ⟨?_, _, 0, v5, Heap.get?_push_size _ rfl⟩
  have z := slicePick_size_le its.toArray l u (some c)
  rw [e5, List.size_toArray, List.size_toArray, ← v5.length] at z
  exact Nat.le_trans z (by rw [← hlen]; exact hz)
end
section
variable {c : Cn} {W0 : Wd} {X : WX} {As Bs : List Sl} {α β γ δ τ ρ : Type} {K : Frag}
@[irreducible] def R.pickv (xs : List α) (lo hi st : Option Int) : R (List α) := match st with
  | some c => if c ≠ 0 then R.pick xs lo hi c else .no
  | none => .no
theorem r_sl3v [Rp α] {te : TE} {tl th ts : TO} {m : R (List α)} {a b d : R (Option Int)} (h : Exr c W0 X te As m fun x => kSh c.K x) (ha : Opo c W0 X tl As a) (hb : Opo c W0 X th As b) (hd : Opo c W0 X ts As d) :
    Exr c W0 X (tSl3v c.K te tl th ts) As (m.bind fun xs => a.bind fun lo => b.bind fun hi => d.bind fun st => R.pickv xs lo hi st) fun ys => kNw c.K ys := fun σ W at_ => by
  have h' := h σ W at_
  have ha' := ha σ W at_
  have hb' := hb σ W at_
  have hd' := hd σ W at_
  cases m with
  | no => trivial
  | ex e => exact fun W1 e1 Q q => h' W1 e1 _ q
  | ok xs =>
    cases a with
    | no => trivial
    | ex e => exact fun W1 e1 Q q => h' W1 e1 _ fun v W2 e2 p => ha' W2 (e1.trans e2) _ fun cls d W3 e3 z => q cls d W3 (e2.trans e3) z
    | ok lo =>
      cases b with
      | no => trivial
      | ex e => exact fun W1 e1 Q q => h' W1 e1 _ fun v W2 e2 p => ha' W2 (e1.trans e2) _ fun W3 e3 => hb' W3 (e1.trans (e2.trans e3)) _ fun cls d W4 e4 z => q cls d W4 (e2.trans (e3.trans e4)) z
      | ok hi =>
        cases d with
        | no => trivial
        | ex e => exact fun W1 e1 Q q => h' W1 e1 _ fun v W2 e2 p => ha' W2 (e1.trans e2) _ fun W3 e3 => hb' W3 (e1.trans (e2.trans e3)) _ fun W4 e4 => hd' W4 (e1.trans (e2.trans (e3.trans e4))) _ fun cls d W5 e5 z => q cls d W5 (e2.trans (e3.trans (e4.trans e5))) z
        | ok st =>
          show SatR (R.pickv xs lo hi st) _ _
          unfold R.pickv
          cases st with
          | none => trivial
          | some st =>
            dsimp only
            split
            · rename_i hne
              unfold R.pick
              split
              · rename_i hz
                refine fun W1 e1 Q q => h' W1 e1 _ fun v W2 e2 ⟨p, vs, ev, hs, al, l⟩ => ha' W2 (e1.trans e2) _ fun W3 e3 => hb' W3 (e1.trans (e2.trans e3)) _ fun W4 e4 => hd' W4 (e1.trans (e2.trans (e3.trans e4))) _ fun W5 e5 => ⟨st, rfl, hne, p, vs, ev, (e3.trans (e4.trans e5)).h.sql hs, fun b hb => ?_⟩
                refine q _ (W5.no b _ hb) ((e2.trans (e3.trans (e4.trans e5))).trans (Le.no hb)) ⟨[b], ⟨b, _, rfl, rfl, W5.sub.nope hb, upd_same, ?_, hz⟩, fun a ha => by rw [List.mem_singleton.mp ha]; exact (e2.trans (e3.trans (e4.trans e5))).fr hb⟩
                unfold pickL
                rw [← al.1]
                exact al_pick (al_mono al (e3.trans (e4.trans e5)).g) _
              · trivial
            · trivial
end
end Fw

namespace Fw
open PySem L2
section
variable {c : Cn} {W0 : Wd} {X : WX} {As : List Sl} {α β γ δ τ ρ S J : Type} {Bs : S → List Sl} {K : Frag}
variable {kr : ρ → Kd} {Ls : List Sl} {Js : J → List Sl} {B : Bd}
/-! ### built-ins over lists of ints, texts of ints -/
theorem al_ints {G : Hp} : ∀ {xs : List Int} {vs : List V}, Al (fun (x : Int) v => Rp.rep K x v G) xs vs → vs = xs.map V.int
  | [], [], _ => rfl
  | [], _ :: _, h => nomatch h.1
  | _ :: _, [], h => nomatch h.1
  | x :: xs, v :: vs, h => by
    obtain ⟨u, hu, r⟩ := h.get (i := 0) (x := x) rfl
    cases hu
    have r' : v = .int x := r
    have := al_ints (xs := xs) (vs := vs) ⟨by simpa using h.1, fun i y w hy hw => h.2 (i + 1) y w (by simpa using hy) (by simpa using hw)⟩
    rw [this, r']
    rfl
def maxI : List Int → Int
  | [] => 0
  | [x] => x
  | x :: y :: r => if maxI (y :: r) ≤ x then x else maxI (y :: r)
def minI : List Int → Int
  | [] => 0
  | [x] => x
  | x :: y :: r => if x ≤ minI (y :: r) then x else minI (y :: r)
theorem maxI_eq : ∀ (xs : List Int) (m : Int), m ∈ xs → (∀ y, y ∈ xs → y ≤ m) → m = maxI xs
  | [x], m, h, _ => List.mem_singleton.mp h
  | x :: y :: r, m, h, hm => by
    show m = if maxI (y :: r) ≤ x then x else maxI (y :: r)
    have ex : ∃ k, k ∈ (y :: r) ∧ ∀ z, z ∈ (y :: r) → z ≤ k := by
      clear hm h
      induction r generalizing y with
      | nil => exact ⟨y, by simp, fun z hz => by rw [List.mem_singleton.mp hz]; exact Int.le_refl _⟩
      | cons w r ih =>
        obtain ⟨k, hk, hz⟩ := ih w
        by_cases q : k ≤ y
        · exact ⟨y, by simp, fun z hz' => by
            rcases List.mem_cons.mp hz' with h | h
            · rw [h]; exact Int.le_refl _
            · exact Int.le_trans (hz z h) q⟩
        · exact ⟨k, List.mem_cons_of_mem _ hk, fun z hz' => by
            rcases List.mem_cons.mp hz' with h | h
            · rw [h]; omega
            · exact hz z h⟩
    obtain ⟨k, hk, hz⟩ := ex
    have e := maxI_eq (y :: r) k hk hz
    rw [← e]
    have h1 := hm x (by simp)
    have h2 := hm k (List.mem_cons_of_mem _ hk)
    rcases List.mem_cons.mp h with h | h
    · rw [if_pos (by omega)]; exact h
    · have := hz m h
      split <;> omega
theorem minI_eq : ∀ (xs : List Int) (m : Int), m ∈ xs → (∀ y, y ∈ xs → m ≤ y) → m = minI xs
  | [x], m, h, _ => List.mem_singleton.mp h
  | x :: y :: r, m, h, hm => by
    show m = if x ≤ minI (y :: r) then x else minI (y :: r)
    have ex : ∃ k, k ∈ (y :: r) ∧ ∀ z, z ∈ (y :: r) → k ≤ z := by
      clear hm h
      induction r generalizing y with
      | nil => exact ⟨y, by simp, fun z hz => by rw [List.mem_singleton.mp hz]; exact Int.le_refl _⟩
      | cons w r ih =>
        obtain ⟨k, hk, hz⟩ := ih w
        by_cases q : y ≤ k
        · exact ⟨y, by simp, fun z hz' => by
            rcases List.mem_cons.mp hz' with h | h
            · rw [h]; exact Int.le_refl _
            · exact Int.le_trans q (hz z h)⟩
        · exact ⟨k, List.mem_cons_of_mem _ hk, fun z hz' => by
            rcases List.mem_cons.mp hz' with h | h
            · rw [h]; omega
            · exact hz z h⟩
    obtain ⟨k, hk, hz⟩ := ex
    have e := minI_eq (y :: r) k hk hz
    rw [← e]
    have h1 := hm x (by simp)
    have h2 := hm k (List.mem_cons_of_mem _ hk)
    rcases List.mem_cons.mp h with h | h
    · rw [if_pos (by omega)]; exact h
    · have := hz m h
      split <;> omega
@[irreducible] def R.maxL (xs : List Int) : R Int := if 0 < xs.length then .ok (maxI xs) else .no
@[irreducible] def R.minL (xs : List Int) : R Int := if 0 < xs.length then .ok (minI xs) else .no
theorem o_maxL : OpA (rMax K) (fun z : List Int × Unit => aCons (kSh K z.1) aNil) (fun z => R.maxL z.1) (fun n : Int => kFr K n) := fun z => by
  unfold R.maxL
  dsimp only
  by_cases h : 0 < z.1.length
  · rw [if_pos h]
    intro W0 W vs ⟨v, r, e, ⟨p, ls, ev, hs, al, l⟩, en⟩ Q q
    subst e en ev
    exact ⟨p, z.1, rfl, by rw [← al_ints al]; exact hs, h, fun m hm hy => q _ W (Le.refl _) (by rw [maxI_eq z.1 m hm hy]; rfl)⟩
  · rw [if_neg h]
    trivial
theorem o_minL : OpA (rMin K) (fun z : List Int × Unit => aCons (kSh K z.1) aNil) (fun z => R.minL z.1) (fun n : Int => kFr K n) := fun z => by
  unfold R.minL
  dsimp only
  by_cases h : 0 < z.1.length
  · rw [if_pos h]
    intro W0 W vs ⟨v, r, e, ⟨p, ls, ev, hs, al, l⟩, en⟩ Q q
    subst e en ev
    exact ⟨p, z.1, rfl, by rw [← al_ints al]; exact hs, h, fun m hm hy => q _ W (Le.refl _) (by rw [minI_eq z.1 m hm hy]; rfl)⟩
  · rw [if_neg h]
    trivial
theorem o_sumL : OpA (rSum K) (fun z : List Int × Unit => aCons (kSh K z.1) aNil) (fun z => .ok z.1.sum) (fun n : Int => kFr K n) := fun z W0 W vs ⟨v, r, e, ⟨p, ls, ev, hs, al, l⟩, en⟩ Q q => by
  subst e en ev
  exact ⟨p, z.1, rfl, by rw [← al_ints al]; exact hs, q _ W (Le.refl _) rfl⟩
def intS (i : Int) : Str := Str.ofString (toString i)
instance (x : Str) : Decidable (SOk x) := inferInstanceAs (Decidable (_ ∧ _))
@[irreducible] def R.strI (i : Int) : R Str := if i.natAbs.log2 < 1920 ∧ SOk (intS i) then .ok (intS i) else .no
theorem o_strI : OpA (fun xs H Q => ∃ i : Int, xs = [.int i] ∧ i.natAbs.log2 < 1920 ∧ Q (.str (toString i)) H) (fun z : Int × Unit => aCons (kFr K z.1) aNil) (fun z => R.strI z.1) (fun n : Str => kFr K n) := fun z => by
  unfold R.strI
  dsimp only
  by_cases h : z.1.natAbs.log2 < 1920 ∧ SOk (intS z.1)
  · rw [if_pos h]
    intro W0 W vs ⟨v, r, e, ev, en⟩ Q q
    have ev' : v = .int z.1 := ev
    subst e en ev'
    exact ⟨_, rfl, h.1, q _ W (Le.refl _) ⟨rfl, h.2⟩⟩
  · rw [if_neg h]
    trivial
/-! ### four at once -/
def lt4 (x : T4 α β γ δ) (k : α → β → γ → δ → Out S J ρ) : Out S J ρ := k x.a x.b x.c x.d
def R.to4 (m : R (T4 α β γ δ)) (k : α → β → γ → δ → Out S J ρ) : Out S J ρ := m.to fun x => k x.a x.b x.c x.d
theorem d_let4 [Rp α] [Rp β] [Rp γ] [Rp δ] {te : TE} {u : TS} {x : T4 α β γ δ} {k : α → β → γ → δ → Out S J ρ} (i1 i2 i3 i4 : Nat) (h : Exp c B.W0 te As (kFr c.K x)) (hk : ∀ y z w q, Den c X kr Ls Js B u ((((As.set i1 (.fr y)).set i2 (.fr z)).set i3 (.fr w)).set i4 (.fr q)) (k y z w q) Bs) :
    Den c X kr Ls Js B (tSeq (tAsg te (gTup c.K 4 (gCons (gName i1) (gCons (gName i2) (gCons (gName i3) (gCons (gName i4) gNil)))))) u) As (lt4 x k) Bs := fun D σ W a f =>
  h σ W a W (Le.refl _) _ fun v W2 e ⟨p, va, vb, vc, vd, ev, hp, r1, r2, r3, r4⟩ => ⟨p, [va, vb, vc, vd], ev, W2.sub.sqt hp, rfl, va, [vb, vc, vd], rfl, vb, [vc, vd], rfl, vc, [vd], rfl, vd, [], rfl, rfl, hk x.a x.b x.c x.d D _ W2 (((((a.mono e).setF r1).setF r2).setF r3).setF r4) f⟩
theorem d_get4 [Rp α] [Rp β] [Rp γ] [Rp δ] {te : TE} {u : TS} {m : R (T4 α β γ δ)} {k : α → β → γ → δ → Out S J ρ} (i1 i2 i3 i4 : Nat) (lx : Lx Ls As) (h : Exr c B.W0 X te As m fun x => kFr c.K x) (hk : ∀ y z w q, Den c X kr Ls Js B u ((((As.set i1 (.fr y)).set i2 (.fr z)).set i3 (.fr w)).set i4 (.fr q)) (k y z w q) Bs) :
    Den c X kr Ls Js B (tSeq (tAsg te (gTup c.K 4 (gCons (gName i1) (gCons (gName i2) (gCons (gName i3) (gCons (gName i4) gNil)))))) u) As (R.to4 m k) Bs := fun D σ W a f => by
  have h' := h σ W a
  cases m with
  | no => exact False.elim f
  | ex e => exact h' W (Le.refl _) _ fun cls d W2 e2 z => f cls d σ W2 (lx_at lx (a.mono e2)) z
  | ok x => exact h' W (Le.refl _) _ fun v W2 e ⟨p, va, vb, vc, vd, ev, hp, r1, r2, r3, r4⟩ => ⟨p, [va, vb, vc, vd], ev, W2.sub.sqt hp, rfl, va, [vb, vc, vd], rfl, vb, [vc, vd], rfl, vc, [vd], rfl, vd, [], rfl, rfl, hk x.a x.b x.c x.d D _ W2 (((((a.mono e).setF r1).setF r2).setF r3).setF r4) f⟩
/-- x[1:], x of four -/
@[irreducible] def R.cut4 (x : T4 α β β β) (lo hi : Option Int) : R (Tup β) := if lo = some 1 ∧ hi = none then .ok ⟨[x.b, x.c, x.d]⟩ else .no
theorem r_cut4 [Rp α] [Rp β] {te : TE} {tl th : TO} {m : R (T4 α β β β)} {a b : R (Option Int)} (h : Exr c W0 X te As m fun x => kFr c.K x) (ha : Opo c W0 X tl As a) (hb : Opo c W0 X th As b) :
    Exr c W0 X (tSl (rSlT c.K) te tl th) As (m.bind fun x => a.bind fun lo => b.bind fun hi => R.cut4 x lo hi) fun ys => kFr c.K ys := fun σ W at_ => by
  have h' := h σ W at_
  have ha' := ha σ W at_
  have hb' := hb σ W at_
  cases m with
  | no => trivial
  | ex e => exact fun W1 e1 Q q => h' W1 e1 _ q
  | ok xs =>
    cases a with
    | no => trivial
    | ex e => exact fun W1 e1 Q q => h' W1 e1 _ fun v W2 e2 p => ha' W2 (e1.trans e2) _ fun cls d W3 e3 z => q cls d W3 (e2.trans e3) z
    | ok lo =>
      cases b with
      | no => trivial
      | ex e => exact fun W1 e1 Q q => h' W1 e1 _ fun v W2 e2 p => ha' W2 (e1.trans e2) _ fun W3 e3 => hb' W3 (e1.trans (e2.trans e3)) _ fun cls d W4 e4 z => q cls d W4 (e2.trans (e3.trans e4)) z
      | ok hi =>
        show SatR (R.cut4 xs lo hi) _ _
        unfold R.cut4
        split
        · rename_i hz
          obtain ⟨rfl, rfl⟩ := hz
          refine fun W1 e1 Q q => h' W1 e1 _ fun v W2 e2 ⟨p, va, vb, vc, vd, ev, hs, r1, r2, r3, r4⟩ => ha' W2 (e1.trans e2) _ fun W3 e3 => hb' W3 (e1.trans (e2.trans e3)) _ fun W4 e4 => ⟨p, [va, vb, vc, vd], ev, W4.sub.sqt ((e3.trans e4).g.sqt hs), by show ¬ (HT.sIx 4 0 (some 1) = 0 ∧ HT.sIx 4 4 none = 4); decide, fun b hb => ?_⟩
          have eg := ((e3.trans e4).trans (Le.nf (o := .tup [vb, vc, vd]) hb)).g
          exact q _ (W4.nf b _) ((e2.trans (e3.trans e4)).trans (Le.nf hb)) ⟨b, [vb, vc, vd], rfl, .inl (.inl upd_same), (Al.cons (Rp.mono eg r2) (Al.cons (Rp.mono eg r3) (Al.one (Rp.mono eg r4)))), by show 3 ≤ sizeLine; decide⟩
        · trivial
end
end Fw

namespace Fw
open PySem L2
section
variable {X : Cx} {K : Frag}
/-! ### text * int -/
def mulS (a : Str) (k : Int) : Str := if k < 1 then Str.empty else if (k == 1 || a.length == 0) = true then a else ⟨(List.replicate k.toNat a.cps).foldl (· ++ ·) #[]⟩
def rMulS : R2 := fun x y H Q => ∃ a k, x = .str a ∧ y = .int k ∧ 0 ≤ k ∧ k ≤ 1000 ∧ a.length ≤ 1000 ∧ (mulS a k).length ≤ sizeLine ∧ Q (.str (mulS a k)) H
theorem op_mulS : OpR X (binaryOp .Mult) rMulS := by
  intro pins s σ H x y v u Q I rx ry h
  obtain ⟨a, k, rfl, rfl, h0, h1, h2, h3, q⟩ := h
  obtain ⟨t, rfl⟩ := rx
  obtain ⟨t', rfl⟩ := ry
  refine P.mul_str (by rw [decide_eq_false (by omega), decide_eq_false (by omega)]; rfl) (fun c1 c2 => ?_) (fun c1 c2 => ?_) ?_
  · have : (1000 : Int) ≤ (2 ^ 63 - 1) / k := by
      rw [Int.le_ediv_iff_mul_le (by omega)]
      omega
    omega
  · have hm : a.length * k.toNat ≤ 1000 * 1000 := Nat.mul_le_mul h2 (by omega)
    unfold Builtin.Str.tooLong
    rw [sizeLine_eq]
    exact decide_eq_false (by omega)
  · unfold mulS at h3 q
    split
    · rename_i c
      rw [if_pos c] at q
      exact ⟨by decide, ⟨.str Str.empty, H, I.tok _, ⟨_, rfl⟩, q⟩⟩
    · rename_i c
      rw [if_neg c] at q h3
      split
      · rename_i d
        rw [if_pos d] at q
        exact ⟨.str a, H, I, ⟨_, rfl⟩, q⟩
      · rename_i d
        rw [if_neg d] at q h3
        exact ⟨h3, ⟨.str _, H, I.tok _, ⟨_, rfl⟩, q⟩⟩
@[irreducible] def R.mulS (a : Str) (k : Int) : R Str := if 0 ≤ k ∧ k ≤ 1000 ∧ a.length ≤ 1000 ∧ SOk (Fw.mulS a k) then .ok (Fw.mulS a k) else .no
theorem o_mulS : Op2 rMulS (fun x : Str => kFr K x) (fun x : Int => kFr K x) R.mulS (fun z : Str => kFr K z) := fun x y => by
  unfold R.mulS
  by_cases h : 0 ≤ y ∧ y ≤ 1000 ∧ x.length ≤ 1000 ∧ SOk (Fw.mulS x y)
  · rw [if_pos h]
    exact fun W0 W v w hv hw Q q => ⟨x, y, hv.1, hw, h.1, h.2.1, h.2.2.1, h.2.2.2.1, q _ W (Le.refl _) ⟨rfl, h.2.2.2⟩⟩
  · rw [if_neg h]
    trivial
/-! ### methods of a text with one argument -/
theorem r_m1 {c : Cn} {W0 : Wd} {X : WX} {As : List Sl} {β γ : Type} {r : V → List V → Hp → VK → Prop} {ta tb : TE} {k2 : β → Kd} {k3 : γ → Kd} {f : Str → β → R γ} {m : R Str} {n : R β} (h : Op2 (fun x y H Q => r x [y] H Q) (fun x : Str => kFr c.K x) k2 f k3) (ha : Exr c W0 X ta As m fun x => kFr c.K x) (hb : Exr c W0 X tb As n k2) :
    Exr c W0 X (tM1 r ta tb) As (m.bind fun x => n.bind fun y => f x y) k3 := fun σ W a => by
  have ha' := ha σ W a
  have hb' := hb σ W a
  cases m with
  | no => trivial
  | ex e => exact fun W1 e1 Q q => ha' W1 e1 _ q
  | ok x =>
    cases n with
    | no => trivial
    | ex e => exact fun W1 e1 Q q => ha' W1 e1 _ fun v W2 e2 p => ⟨⟨x, p.1⟩, hb' W2 (e1.trans e2) _ fun cls d W3 e3 z => q cls d W3 (e2.trans e3) z⟩
    | ok y =>
      have h' := h x y
      show SatR (f x y) _ _
      cases hf : f x y with
      | no => trivial
      | ex e => rw [hf] at h'; exact h'.elim
      | ok z =>
        rw [hf] at h'
        exact fun W1 e Q q => ha' W1 e _ fun v W2 e2 p => ⟨⟨x, p.1⟩, hb' W2 (e.trans e2) _ fun w W3 e3 p3 => h' W1 W3 v w ((kFr c.K x).up p e3) ((k2 y).dn e2 p3) Q fun u W4 e4 p4 => q u W4 (e2.trans (e3.trans e4)) ((k3 z).dn (e2.trans e3) p4)⟩
theorem o_find : Op2 (fun x y H Q => ∃ a b, x = .str a ∧ [y] = [V.str b] ∧ Q (.int (Txt.find a b)) H) (fun x : Str => kFr K x) (fun x : Str => kFr K x) (fun x y => .ok (Txt.find x y)) (fun z : Int => kFr K z) := fun x y W0 W v w hv hw Q q => ⟨x, y, hv.1, by rw [hw.1], q _ W (Le.refl _) rfl⟩
@[irreducible] def R.intS (a : Str) : R Int := match PySem.intText? a with
  | some n => if a.length ≤ 640 then .ok n else .no
  | none => .no
theorem o_intS : OpA (fun xs H Q => ∃ a n, xs = [.str a] ∧ PySem.intText? a = some n ∧ a.length ≤ 640 ∧ Q (.int n) H) (fun z : Str × Unit => aCons (kFr K z.1) aNil) (fun z => R.intS z.1) (fun n : Int => kFr K n) := fun z => by
  unfold R.intS
  dsimp only
  cases hz : PySem.intText? z.1 with
  | none => trivial
  | some n =>
    dsimp only
    by_cases h : z.1.length ≤ 640
    · rw [if_pos h]
      intro W0 W vs ⟨v, r, e, ev, en⟩ Q q
      have ev' : v = .str z.1 := ev.1
      subst e en ev'
      exact ⟨_, _, rfl, hz, h, q _ W (Le.refl _) rfl⟩
    · rw [if_neg h]
      trivial
end
end Fw

namespace Fw
open PySem L2
/-! ### dict(t), t a tuple of pairs -/
section
open PySem.Spec PyProof.Rows
variable {prog : Program} {w : World} {A : Around} {E : Value → Shared → Prop}
theorem tuple_keys_none : typeLookup (.type "tuple") "keys" = pure none := am_miss_of_fast (by first | decide +kernel | rfl)
theorem miss_tup {s : Shared} {a : Addr} {o : Obj} {xs : Array Value} {k : Nat} {Q : Option Value → Shared → Prop} (hx : s.heap.get? a = some o) (hc : o.cls = .type "tuple") (hdat : o.data = .seq xs k) (hd : o.dict = none) (hA : A.handled = none)
    (h : ∀ h' tk, (∀ b ob, s.heap.get? b = some ob → h'.get? b = some ob) → Q none { s with heap := h', toks := tk }) : wpAny (model prog w) A (getAttr? (.ref a) "keys") Q E s := by
  obtain ⟨c, dct, dat, sl⟩ := o
  simp only at hc hdat hd
  subst hc hdat hd
  obtain ⟨hp, g, d, tk, os⟩ := s
  have hT : ∀ tk', (⟨hp, g, d, tk', os⟩ : Shared).TypeIs (.ref a) "tuple" := fun _ => ⟨_, hx, rfl⟩
  have hname : (["__module__", "__name__", "__qualname__", "__doc__", "__annotations__"] : List Str).contains "keys" = false := by decide +kernel
  have hsz : ("keys" : Str).length + 100 ≤ sizeLine := by first | size_fits | decide +kernel
  have hmiss := tuple_keys_none
  have f1 := sub_AttributeError
  have f3 := PySem.F.slot_tuple_getattribute.lookup
  have f4 := PySem.F.slot_tuple_getattribute.bind (.ref a)
  have f5 := am_tuple_getattr_none
  unfold getAttr? getAttrBy? getAttrBy
  repeat (any_goals (first | assumption | exact hT _ | ((with_reducible show wpAny _ _ (call (Value.builtin "tuple.__getattribute__") _ _) _ _ _); refine call_meets PySem.F.slot_tuple_getattribute (hT _) am_entry_tuple_getattribute (PySem.F.args_tuple_getattribute_2 _ _) (meets_getattribute_miss_tuple a xs k sl "keys" _ hmiss hname hsz) ⟨hx, hA, fun h' tk' e hx' => ?_⟩) | wp_step))
  obtain ⟨t', u', he⟩ := hx'.there
  show wpAny _ _ (getattributeRaised _ _ _ _ _ _ _) _ _ _
  unfold getattributeRaised
  repeat (any_goals (first | assumption | wp_step))
  all_goals first | exact h _ _ hx'.keeps | (dsimp only; repeat (any_goals (first | assumption | exact h _ _ hx'.keeps | wp_step)))
theorem upd_tup {R : Result → Shared → Prop} {S I l : Addr} {items : Array Value} {res : Value} (hh : A.handled = none) (hlI : l ≠ I) (hSI : S ≠ I) (hSl : S ≠ l) :
    ∀ (rest : List (Key × Value)) (i : Nat) (acc : List (Key × Value)) (ix : Int) (t : Tok) (s : Shared), items.size = i + rest.length → acc.length + rest.length ≤ sizeLine →
      (∀ (j : Nat) (q : Key × Value), rest[j]? = some q → ∃ (b : Addr) (u : Value), items[i + j]? = some (.ref b) ∧ b ≠ S ∧ b ≠ I ∧ IsTup s.heap b #[u, q.2] ∧ keyIs q.1 u = true) →
      s.heap.IsTupleIter I l i → s.heap.IsTuple l items → s.heap.DictOf (mixKind prog w) S acc →
      (∀ h' tk, h'.DictOf (mixKind prog w) S (merged acc rest) → (∀ b o, b ≠ S → b ≠ I → s.heap.get? b = some o → h'.get? b = some o) → R (.ok (.ret res)) { s with heap := h', toks := tk }) →
      codeAny (model prog w) A (.builtin "dict.update.loop" ⟨[.ref S, .ref I, .int ix t, res], []⟩) R s
  | [], i, acc, ix, t, s, hsz, hln, ht, hit, hl, hm, hR => by
    refine codeAny_builtin ud_entry ?_
    rw [Around.under_plainId ud_plain _]
    show wpAny _ A.in1 (pyNext (.ref I) >>= _) _ _ s
    refine wpAny_bind (wpAny_pyNext_tuple_end (A := A.in1) hh hit hl (by first | exact Array.getElem?_eq_none (Nat.le_of_eq hsz) | (simp at hsz; simp; omega)) fun h' he => ?_)
    show wpAny _ A.in1 (Builtin.Dict.addKeywords S [] >>= _) _ _ _
    refine wpAny_bind (wpAny_pure (wpAny_pure ?_))
    exact hR h' s.toks (hm.extBut he hSI) fun b o _ hb e => he b o hb e
  | q :: rest, i, acc, ix, t, s, hsz, hln, ht, hit, hl, hm, hR => by
    obtain ⟨b, u, hb, hbS, hbI, htup, hk⟩ := ht 0 q rfl
    rw [List.length_cons] at hsz hln
    refine codeAny_builtin ud_entry ?_
    rw [Around.under_plainId ud_plain _]
    show wpAny _ A.in1 (pyNext (.ref I) >>= _) _ _ s
    refine wpAny_bind (wpAny_pyNext_tuple_item (x := .ref b) hit hl (by simpa using hb) fun h1 hit1 hs1 => ?_)
    have ht1 : IsTup h1 b #[u, q.2] := htup.extBut hs1.extBut hbI
    have hl1 : h1.IsTuple l items := hl.extBut hs1.extBut hlI
    have hm1 : h1.DictOf (mixKind prog w) S acc := hm.extBut hs1.extBut hSI
    obtain ⟨o, ho, hc, n, hd⟩ := id ht1
    show wpAny _ A.in1 (holding [Value.ref b] _ >>= _) _ _ _
    refine wpAny_bind (wpAny_holding ?_)
    refine wpAny_bind (wpAny_tryCatch ?_)
    unfold Builtin.Dict.pairItems
    refine wpAny_bind (wpAny_typeOf (T := "tuple") ⟨o, ho, hc⟩ ?_)
    rw [if_pos (by first | decide | rfl | simp)]
    refine wpAny_bind (wpAny_seqItems ho hd (wpAny_pure ?_))
    show wpAny _ A.in1 (holding [u, q.2] (dictSet S u q.2)) _ _ _
    refine wpAny_holding (wpAny_dictSet_pairs (knd := mixKind prog w) (k := q.1) hk hm1 (fun h2 hm2 hs2 => ?_) (by omega))
    refine wpAny_pure ⟨plainId_quiet ud_plain _, upd_tup (items := items) hh hlI hSI hSl rest (i + 1) (stored acc q.1 q.2) (ix + 1) 0 _ (show items.size = i + 1 + rest.length by omega) ?_ (fun j q' e => ?_) ?_ ?_ hm2 fun h' tk hd' k => ?_⟩
    · have z := stored_length_le acc q.1 q.2
      omega
    · obtain ⟨b', u', hb', hbS', hbI', htup', hk'⟩ := ht (j + 1) q' (by simpa using e)
      refine ⟨b', u', ?_, hbS', hbI', (htup'.extBut hs1.extBut hbI').extBut hs2.extBut hbS', hk'⟩
      rw [show i + 1 + j = i + (j + 1) by omega]
      exact hb'
    · exact hit1.extBut hs2.extBut (Ne.symm hSI)
    · exact hl1.extBut hs2.extBut (Ne.symm hSl)
    · exact hR h' tk hd' fun c oc h3 h4 e => k c oc h3 h4 (hs2.extBut c oc h3 (hs1.extBut c oc h4 e))
end
end Fw

namespace Fw
open PySem L2
/-! ### what is never come to -/
section
variable {J S ρ : Type} {c : Cn} {X : WX} {kr : ρ → Kd} {Ls : List Sl} {Js : J → List Sl} {B : Bd} {As : List Sl} {Bs : S → List Sl} {Y : Cx} {K : Frag}
def tNo : TS := fun _ _ _ => False
theorem pss_no (l : List Stmt) : PSs Y l tNo := ⟨fun _ _ _ _ _ _ h => False.elim h⟩
theorem d_no {t : TS} : Den c X kr Ls Js B t As (.no : Out S J ρ) Bs := fun _ _ _ _ f => False.elim f
/-! ### text.index, text.split -/
@[irreducible] def R.sindex (a b : Str) : R Int := match Builtin.Str.occurrences a b 0 a.length 1 with
  | i :: _ => .ok (i : Nat)
  | [] => .no
theorem o_sindex : Op2 (fun x y H Q => ∃ a b i rest, x = .str a ∧ [y] = [V.str b] ∧ Builtin.Str.occurrences a b 0 a.length 1 = i :: rest ∧ Q (.int (i : Nat)) H) (fun x : Str => kFr K x) (fun x : Str => kFr K x) R.sindex (fun z : Int => kFr K z) := fun x y => by
  unfold R.sindex
  cases h : Builtin.Str.occurrences x y 0 x.length 1 with
  | nil => trivial
  | cons i r => exact fun W0 W v w hv hw Q q => ⟨x, y, i, r, hv.1, by rw [hw.1], h, q _ W (Le.refl _) rfl⟩
def soks (l : List Str) : Bool := l.all fun s => decide (s.length ≤ sizeLine) && s.cps.all (· < 0x110000)
theorem soks_at {l : List Str} (h : soks l = true) {s : Str} (hs : s ∈ l) : SOk s := by
  have := List.all_eq_true.mp h s hs
  rw [Bool.and_eq_true] at this
  exact ⟨of_decide_eq_true this.1, this.2⟩
theorem soks_of {l : List Str} (h : ∀ s ∈ l, SOk s) : soks l = true := List.all_eq_true.mpr fun s hs => by
  rw [Bool.and_eq_true]
  exact ⟨decide_eq_true (h s hs).1, (h s hs).2⟩
@[irreducible] def R.split (a b : Str) : R (List Str) := if (b.length == 0) = false ∧ a.length + 2 ≤ sizeLine ∧ (Txt.split a b).length ≤ sizeLine ∧ soks (Txt.split a b) = true then .ok (Txt.split a b) else .no
theorem o_split : Op2 (fun x y H Q => ∃ a b, x = .str a ∧ [y] = [V.str b] ∧ (b.length == 0) = false ∧ a.length + 2 ≤ sizeLine ∧ rNewStrs (Txt.split a b) H Q) (fun x : Str => kFr K x) (fun x : Str => kFr K x) R.split (fun z : List Str => kNw K z) := fun x y => by
  unfold R.split
  by_cases h : (y.length == 0) = false ∧ x.length + 2 ≤ sizeLine ∧ (Txt.split x y).length ≤ sizeLine ∧ soks (Txt.split x y) = true
  · rw [if_pos h]
    refine fun W0 W v w hv hw Q q => ⟨x, y, hv.1, by rw [hw.1], h.1, h.2.1, fun p hp => ?_⟩
    refine q _ (W.no p _ hp) (Le.no hp) ⟨[p], ⟨p, _, rfl, rfl, W.sub.nope hp, upd_same, ⟨by simp, fun i s v e1 e2 => ?_⟩, h.2.2.1⟩, fun a ha => ?_⟩
    · rw [List.getElem?_map, e1] at e2
      cases e2
      exact ⟨rfl, soks_at h.2.2.2 (List.mem_of_getElem? e1)⟩
    · obtain rfl := List.mem_singleton.mp ha
      exact hp
  · rw [if_neg h]
    trivial
end
end Fw

namespace Fw
open PySem L2
/-! ### dicts -/
section
variable {κ κ' α : Type} [DecidableEq κ] [DecidableEq κ']
theorem valV_inj {f : κ → κ'} (hf : ∀ a b, f a = f b → a = b) (k : κ) : ∀ kvs : List (κ × V), valV (kvs.map fun p => (f p.1, p.2)) (f k) = valV kvs k
  | [] => rfl
  | p :: r => by
    rw [List.map_cons]
    by_cases e : p.1 = k
    · rw [valV_pos e, valV_pos (congrArg f e)]
    · rw [valV_neg e, valV_neg (fun z => e (hf _ _ z)), valV_inj hf k r]
theorem putK_inj {f : κ → κ'} (hf : ∀ a b, f a = f b → a = b) (k : κ) (v : V) (kvs : List (κ × V)) : putK (kvs.map fun p => (f p.1, p.2)) (f k) v = (putK kvs k v).map fun p => (f p.1, p.2) := by
  unfold putK
  rw [valV_any, valV_any, valV_inj hf]
  split
  · rw [List.map_map, List.map_map]
    refine List.map_congr_left fun p _ => ?_
    show (if f p.1 = f k then (f p.1, v) else (f p.1, p.2)) = _
    by_cases e : p.1 = k
    · rw [if_pos (congrArg f e)]
      show _ = (fun p : κ × V => (f p.1, p.2)) (if p.1 = k then (p.1, v) else p)
      rw [if_pos e]
    · rw [if_neg (fun z => e (hf _ _ z))]
      show _ = (fun p : κ × V => (f p.1, p.2)) (if p.1 = k then (p.1, v) else p)
      rw [if_neg e]
  · rw [List.map_append]
    rfl
/-- kinds of keys -/
class DKy (κ : Type) [DecidableEq κ] [Rp κ] where
  ho : List (κ × V) → HO
  get : ∀ {K : Frag} {G H : Hp} {k : κ} {y : V} {p : Addr} {kvs : List (κ × V)}, Rp.rep K k y G → Inc G H → Rd H p (ho kvs) → DGet H p y (valV kvs k)
  put : ∀ {K : Frag} {G H : Hp} {k : κ} {y v : V} {p : Addr} {kvs : List (κ × V)}, Rp.rep K k y G → Inc G H → H p = some (ho kvs) → kvs.length < sizeLine → DPut H p y v (upd H p (ho (putK kvs k v)))
  isD : ∀ {H : Hp} {p : Addr} {kvs : List (κ × V)}, Rd H p (ho kvs) → IsD H p
  mu : ∀ kvs : List (κ × V), Mut (some (ho kvs))
theorem ho_mut {κ : Type} [DecidableEq κ] [Rp κ] [DKy κ] (kvs : List (κ × V)) : imm (DKy.ho kvs) = false := by
  have h := DKy.mu kvs
  cases e : DKy.ho kvs with
  | tup x => rw [e] at h; exact h.elim
  | frz o u => rw [e] at h; exact h.elim
  | xd x => rw [e] at h; exact h.elim
  | own x => rw [e] at h; exact h.elim
  | _ => rfl
def kI (i : Int) : Key := .inl i
def kS (s : Str) : Key := .inr s
theorem kI_inj : ∀ a b, kI a = kI b → a = b := fun a b h => by cases h; rfl
theorem kS_inj : ∀ a b, kS a = kS b → a = b := fun a b h => by cases h; rfl
instance : DKy Int where
  ho kvs := .dK (kvs.map fun p => (kI p.1, p.2))
  get := fun {K G H k y p kvs} r _ e => by
    have r' : y = .int k := r
    subst r'
    rw [← valV_inj kI_inj k kvs]
    exact .inl ⟨_, kI k, e, rfl, rfl⟩
  put := fun {K G H k y v p kvs} r _ e l => by
    have r' : y = .int k := r
    subst r'
    rw [← putK_inj kI_inj k v kvs]
    exact DPut.k (k := kI k) e (by rw [List.length_map]; exact l)
  isD := fun e => .inl ⟨_, e⟩
  mu := fun _ => trivial
instance : DKy Str where
  ho kvs := .dK (kvs.map fun p => (kS p.1, p.2))
  get := fun {K G H k y p kvs} r _ e => by
    have r' : y = .str k := r.1
    subst r'
    rw [← valV_inj kS_inj k kvs]
    exact .inl ⟨_, kS k, e, rfl, rfl⟩
  put := fun {K G H k y v p kvs} r _ e l => by
    have r' : y = .str k := r.1
    subst r'
    rw [← putK_inj kS_inj k v kvs]
    exact DPut.k (k := kS k) e (by rw [List.length_map]; exact l)
  isD := fun e => .inl ⟨_, e⟩
  mu := fun _ => trivial
/-- a tuple of ints that is known to be just that -/
structure TK where
  l : List Int
deriving DecidableEq
def kT (x : TK) : List Key := x.l.map kI
theorem mapkI_inj : ∀ a b : List Int, a.map kI = b.map kI → a = b
  | [], [], _ => rfl
  | [], _ :: _, h => by simp at h
  | _ :: _, [], h => by simp at h
  | x :: a, y :: b, h => by
    rw [List.map_cons, List.map_cons] at h
    injection h with h1 h2
    rw [kI_inj _ _ h1, mapkI_inj a b h2]
theorem kT_inj : ∀ a b, kT a = kT b → a = b := fun a b h => by
  obtain ⟨a⟩ := a
  obtain ⟨b⟩ := b
  exact congrArg TK.mk (mapkI_inj a b h)
instance : Rp TK := ⟨fun K x v G => ∃ p, v = .ref p ∧ G p = some (.tup (x.l.map V.int)) ∧ x.l.length ≤ sizeLine, fun s ⟨p, e, h, l⟩ => ⟨p, e, s _ _ h, l⟩⟩
theorem kT_v (x : TK) : (kT x).map L2.kV = x.l.map V.int := by
  unfold kT
  rw [List.map_map]
  rfl
instance : DKy TK where
  ho kvs := .dT (kvs.map fun p => (kT p.1, p.2))
  get := fun {K G H k y p kvs} ⟨b, r, hb, _⟩ s e => by
    subst r
    rw [← valV_inj kT_inj k kvs]
    exact .inr ⟨_, kT k, b, e, rfl, by rw [kT_v]; exact s _ _ hb, rfl⟩
  put := fun {K G H k y v p kvs} ⟨b, r, hb, _⟩ s e l => by
    subst r
    rw [← putK_inj kT_inj k v kvs]
    exact DPut.t (k := kT k) e (by rw [kT_v]; exact s _ _ hb) (by rw [List.length_map]; exact l)
  isD := fun e => .inr ⟨_, e⟩
  mu := fun _ => trivial
/-- such a tuple is a tuple -/
theorem tk_tup {K : Frag} {x : TK} {v : V} {G : Hp} (h : Rp.rep K x v G) : Rp.rep K (Tup.mk x.l) v G := by
  obtain ⟨p, e, hp, l⟩ := h
  refine ⟨p, _, e, .inl (.inl hp), ⟨by simp, fun i y w h1 h2 => ?_⟩, l⟩
  rw [List.getElem?_map, h1] at h2
  cases h2
  rfl
end
section
variable {κ α : Type} [DecidableEq κ]
def dval (x : List (κ × α)) (k : κ) : Option α := match x with
  | [] => none
  | p :: ps => if p.1 = k then some p.2 else dval ps k
def dput (x : List (κ × α)) (k : κ) (a : α) : List (κ × α) := if (dval x k).isSome = true then x.map (fun p => if p.1 = k then (p.1, a) else p) else x ++ [(k, a)]
theorem dput_len (x : List (κ × α)) (k : κ) (y : α) : (dput x k y).length ≤ x.length + 1 := by
  unfold dput
  split
  · rw [List.length_map]; omega
  · simp
def DR (K : Frag) [Rp α] : List (κ × α) → List (κ × V) → Hp → Prop
  | [], [], _ => True
  | p :: ps, q :: qs, G => p.1 = q.1 ∧ Rp.rep K p.2 q.2 G ∧ DR K ps qs G
  | _, _, _ => False
variable [Rp α] {K : Frag}
theorem DR.mono {G G' : Hp} (s : Inc G G') : ∀ {x : List (κ × α)} {q : List (κ × V)}, DR K x q G → DR K x q G'
  | [], [], h => h
  | _ :: _, _ :: _, h => ⟨h.1, Rp.mono s h.2.1, DR.mono s h.2.2⟩
  | [], _ :: _, h => h.elim
  | _ :: _, [], h => h.elim
theorem DR.len {G : Hp} : ∀ {x : List (κ × α)} {q : List (κ × V)}, DR K x q G → x.length = q.length
  | [], [], h => rfl
  | _ :: _, _ :: _, h => by rw [List.length_cons, List.length_cons, DR.len h.2.2]
  | [], _ :: _, h => h.elim
  | _ :: _, [], h => h.elim
theorem DR.none {G : Hp} {k : κ} : ∀ {x : List (κ × α)} {q : List (κ × V)}, DR K x q G → dval x k = none → valV q k = none
  | [], [], h, _ => rfl
  | a :: x, b :: q, h, e => by
    unfold dval at e
    by_cases c : a.1 = k
    · rw [if_pos c] at e; cases e
    · rw [if_neg c] at e
      rw [valV_neg (h.1 ▸ c)]
      exact DR.none h.2.2 e
  | [], _ :: _, h, _ => h.elim
  | _ :: _, [], h, _ => h.elim
theorem DR.some {G : Hp} {k : κ} {y : α} : ∀ {x : List (κ × α)} {q : List (κ × V)}, DR K x q G → dval x k = some y → ∃ v, valV q k = some v ∧ Rp.rep K y v G
  | [], [], h, e => by cases e
  | a :: x, b :: q, h, e => by
    unfold dval at e
    by_cases c : a.1 = k
    · rw [if_pos c] at e
      cases e
      exact ⟨b.2, valV_pos (h.1 ▸ c), h.2.1⟩
    · rw [if_neg c] at e
      rw [valV_neg (h.1 ▸ c)]
      exact DR.some h.2.2 e
  | [], _ :: _, h, _ => h.elim
  | _ :: _, [], h, _ => h.elim
theorem DR.isSome {G : Hp} {k : κ} {x : List (κ × α)} {q : List (κ × V)} (h : DR K x q G) : (valV q k).isSome = (dval x k).isSome := by
  cases e : dval x k with
  | none => rw [h.none e]; rfl
  | some y => obtain ⟨v, ev, _⟩ := h.some e; rw [ev]; rfl
theorem DR.repl {G : Hp} {k : κ} {y : α} {v : V} (r : Rp.rep K y v G) : ∀ {x : List (κ × α)} {q : List (κ × V)}, DR K x q G → DR K (x.map fun p => if p.1 = k then (p.1, y) else p) (q.map fun p => if p.1 = k then (p.1, v) else p) G
  | [], [], h => h
  | a :: x, b :: q, h => by
    rw [List.map_cons, List.map_cons]
    refine ⟨?_, ?_, DR.repl r h.2.2⟩
    · by_cases c : a.1 = k
      · rw [if_pos c, if_pos (h.1 ▸ c)]; exact h.1
      · rw [if_neg c, if_neg (h.1 ▸ c)]; exact h.1
    · by_cases c : a.1 = k
      · rw [if_pos c, if_pos (h.1 ▸ c)]; exact r
      · rw [if_neg c, if_neg (h.1 ▸ c)]; exact h.2.1
  | [], _ :: _, h => h.elim
  | _ :: _, [], h => h.elim
theorem DR.snoc {G : Hp} {k : κ} {y : α} {v : V} (r : Rp.rep K y v G) : ∀ {x : List (κ × α)} {q : List (κ × V)}, DR K x q G → DR K (x ++ [(k, y)]) (q ++ [(k, v)]) G
  | [], [], h => ⟨rfl, r, trivial⟩
  | a :: x, b :: q, h => ⟨h.1, h.2.1, DR.snoc r h.2.2⟩
  | [], _ :: _, h => h.elim
  | _ :: _, [], h => h.elim
theorem DR.put {G : Hp} {k : κ} {y : α} {v : V} {x : List (κ × α)} {q : List (κ × V)} (h : DR K x q G) (r : Rp.rep K y v G) : DR K (dput x k y) (putK q k v) G := by
  unfold dput putK
  rw [valV_any, h.isSome]
  split
  · exact h.repl r
  · exact h.snoc r
end
/-- a dict: its keys and values, in order -/
structure Dk (κ α : Type) where
  l : List (κ × α)
deriving DecidableEq
section
variable {κ α : Type} [DecidableEq κ] [Rp κ] [DKy κ] [Rp α]
/-- frozen: locked for good -/
def repD (K : Frag) (x : Dk κ α) (v : V) (G : Hp) : Prop := ∃ p q o, v = .ref p ∧ G p = some (.frz o (DKy.ho q)) ∧ DR K x.l q G ∧ x.l.length ≤ sizeLine
instance : Rp (Dk κ α) := ⟨repD, fun s ⟨p, q, o, e, h, a, l⟩ => ⟨p, q, o, e, s _ _ h, a.mono s, l⟩⟩
def ownD (K : Frag) (x : Dk κ α) (v : V) (f : List Addr) (W : Wd) : Prop := ∃ p q, v = .ref p ∧ f = [p] ∧ W.G p = none ∧ W.H p = some (DKy.ho q) ∧ DR K x.l q W.G ∧ x.l.length ≤ sizeLine
instance : Ob (Dk κ α) where
  own := ownD
  keep := fun {K x v f W W'} ⟨p, q, e, ef, g, h, a, l⟩ s n k => by
    subst ef
    exact ⟨p, q, e, rfl, n p (List.mem_singleton.mpr rfl), (k p (List.mem_singleton.mpr rfl)).trans h, a.mono s, l⟩
  foot := fun {K x v f W} ⟨p, q, e, ef, g, h, a, l⟩ b hb => by
    subst ef
    obtain rfl := List.mem_singleton.mp hb
    exact ⟨g, by rw [h]; exact fun z => nomatch z⟩
theorem rd_inc {H H' : Hp} {a : Addr} {u : HO} (s : Inc H H') (h : Rd H a u) : Rd H' a u := h.imp (fun h => s _ _ h) fun ⟨o, h⟩ => ⟨o, s _ _ h⟩
/-- a dict that may be read -/
def kDs (K : Frag) (x : Dk κ α) : Kd := ⟨fun _ v W => ∃ p q, v = .ref p ∧ Rd W.H p (DKy.ho q) ∧ DR K x.l q W.G ∧ x.l.length ≤ sizeLine,
  fun ⟨p, q, e, h, a, l⟩ z => ⟨p, q, e, rd_inc z.h h, a.mono z.g, l⟩, fun _ h => h⟩
variable {c : Cn} {W0 : Wd} {X : WX} {As : List Sl}
theorem fr_ds {K : Frag} {x : Dk κ α} {v : V} {W A : Wd} (h : (kFr K x).p A v W) : (kDs K x).p A v W := by
  obtain ⟨p, q, o, e, h, a, l⟩ := h
  exact ⟨p, q, e, .inr ⟨o, W.sub _ _ h⟩, a, l⟩
theorem own_ds {K : Frag} {x : Dk κ α} {v : V} {f : List Addr} {W A : Wd} (h : Ob.own K x v f W) : (kDs K x).p A v W := by
  obtain ⟨p, q, e, ef, g, h, a, l⟩ := h
  exact ⟨p, q, e, .inl h, a, l⟩
theorem e_varD {x : Dk κ α} {pin : Option V} (i : Nat) (h : As[i]? = some (.ow pin x) := by rfl) : Exp c W0 (tVar i) As (kDs c.K x) := fun σ W a W1 e Q q => by
  obtain ⟨v, f, ev, o, _⟩ := (a.mono e).varO h
  exact ⟨v, ev, q v W1 (Le.refl _) (own_ds o)⟩
theorem e_dsF {te : TE} {x : Dk κ α} (h : Exp c W0 te As (kFr c.K x)) : Exp c W0 te As (kDs c.K x) := exp_w h fun _ _ _ => fr_ds
theorem r_dsF {te : TE} {m : R (Dk κ α)} (h : Exr c W0 X te As m fun x => kFr c.K x) : Exr c W0 X te As m fun x => kDs c.K x := exr_w h fun _ _ _ _ => fr_ds
theorem r_dsN {te : TE} {m : R (Dk κ α)} (h : Exr c W0 X te As m fun x => kNw c.K x) : Exr c W0 X te As m fun x => kDs c.K x := exr_w h fun _ _ _ _ ⟨_, o, _⟩ => own_ds o
theorem e_dsN {te : TE} {x : Dk κ α} (h : Exp c W0 te As (kNw c.K x)) : Exp c W0 te As (kDs c.K x) := exp_w h fun _ _ _ ⟨_, o, _⟩ => own_ds o
/-! {} -/
theorem e_dnew {te : TE} (ht : te = fun _ H Q => ∀ p, H p = none → Q (.ref p) (upd H p (DKy.ho ([] : List (κ × V))))) : Exp c W0 te As (kNw c.K (Dk.mk ([] : List (κ × α)))) := fun σ W a W1 e Q q => by
  subst ht
  exact fun p hp => q _ (W1.no p _ hp (ho_mut _)) (Le.no hp) ⟨[p], ⟨p, [], rfl, rfl, W1.sub.nope hp, upd_same, trivial, Nat.zero_le _⟩, fun a ha => by rw [List.mem_singleton.mp ha]; exact hp⟩
/-! d[k], k in d -/
def rDGet : R2 := fun x y H Q => ∃ a v, x = .ref a ∧ DGet H a y (some v) ∧ Q v H
def rDIn : R2 := fun y x H Q => ∃ a o, x = .ref a ∧ DGet H a y o ∧ Q (.bl o.isSome) H
def rDNi : R2 := fun y x H Q => ∃ a o, x = .ref a ∧ DGet H a y o ∧ Q (.bl (!o.isSome)) H
@[irreducible] def R.dget (x : Dk κ α) (k : κ) : R α := match dval x.l k with
  | some a => .ok a
  | none => .no
theorem o_dget : Op2 rDGet (fun x : Dk κ α => kDs K x) (fun k : κ => kFr K k) R.dget (fun a : α => kFr K a) := fun x k => by
  unfold R.dget
  cases h : dval x.l k with
  | none => trivial
  | some a =>
    intro W0 W v w ⟨p, q, ev, hp, d, l⟩ hw Q qq
    obtain ⟨u, eu, ru⟩ := d.some h
    refine ⟨p, u, ev, ?_, qq u W (Le.refl _) ru⟩
    have := DKy.get hw W.sub hp
    rw [eu] at this
    exact this
theorem o_din : Op2 rDIn (fun k : κ => kFr K k) (fun x : Dk κ α => kDs K x) (fun k x => .ok (dval x.l k).isSome) (fun b : Bool => kFr K b) := fun k x W0 W w v hw ⟨p, q, ev, hp, d, l⟩ Q qq =>
  ⟨p, _, ev, DKy.get hw W.sub hp, qq _ W (Le.refl _) (show V.bl _ = V.bl _ by rw [d.isSome])⟩
theorem o_dni : Op2 rDNi (fun k : κ => kFr K k) (fun x : Dk κ α => kDs K x) (fun k x => .ok (!(dval x.l k).isSome)) (fun b : Bool => kFr K b) := fun k x W0 W w v hw ⟨p, q, ev, hp, d, l⟩ Q qq =>
  ⟨p, _, ev, DKy.get hw W.sub hp, qq _ W (Le.refl _) (show V.bl _ = V.bl _ by rw [d.isSome])⟩
/-! d.get(k, x), d.get(k) -/
theorem r_dget2 {td ty tx : TE} {m : R (Dk κ α)} {n : R κ} {o : R α} (h : Exr c W0 X td As m fun x => kDs c.K x) (hn : Exr c W0 X ty As n fun x => kFr c.K x) (ho : Exr c W0 X tx As o fun x => kFr c.K x) :
    Exr c W0 X (tDGet2 td ty tx) As (m.bind fun x => n.bind fun k => o.bind fun z => .ok ((dval x.l k).getD z)) fun x => kFr c.K x := fun σ W a => by
  have h1 := h σ W a
  have h2 := hn σ W a
  have h3 := ho σ W a
  cases m with
  | no => trivial
  | ex e => exact fun W1 e1 Q q => h1 W1 e1 _ q
  | ok x =>
    have isd : ∀ {A W : Wd} {v : V}, (kDs c.K x).p A v W → ∃ p, v = .ref p ∧ IsD W.H p := fun ⟨p, q, ev, hp, _, _⟩ => ⟨p, ev, DKy.isD hp⟩
    cases n with
    | no => trivial
    | ex e => exact fun W1 e1 Q q => h1 W1 e1 _ fun v W2 e2 p => (isd p).elim fun b hb => ⟨b, hb.1, hb.2, h2 W2 (e1.trans e2) _ fun cls d W3 e3 z => q cls d W3 (e2.trans e3) z⟩
    | ok k =>
      cases o with
      | no => trivial
      | ex e => exact fun W1 e1 Q q => h1 W1 e1 _ fun v W2 e2 p => (isd p).elim fun b hb => ⟨b, hb.1, hb.2, h2 W2 (e1.trans e2) _ fun w W3 e3 _ => h3 W3 (e1.trans (e2.trans e3)) _ fun cls d W4 e4 z => q cls d W4 (e2.trans (e3.trans e4)) z⟩
      | ok z =>
        refine fun W1 e1 Q q => h1 W1 e1 _ fun v W2 e2 pd => (isd pd).elim fun b hb => ⟨b, hb.1, hb.2, h2 W2 (e1.trans e2) _ fun w W3 e3 pk => h3 W3 (e1.trans (e2.trans e3)) _ fun u W4 e4 pz => ?_⟩
        obtain ⟨p, qs, ev, hp, d, l⟩ := (kDs c.K x).up pd (e3.trans e4)
        obtain rfl : p = b := by rw [hb.1] at ev; injection ev with ev; exact ev.symm
        refine ⟨valV qs k, DKy.get (Rp.mono e4.g pk) W4.sub hp, q _ W4 (e2.trans (e3.trans e4)) ?_⟩
        cases hv : dval x.l k with
        | none => rw [d.none hv]; exact pz
        | some y => obtain ⟨t, et, rt⟩ := d.some hv; rw [et]; exact rt
/-! d[k] = v -/
@[irreducible] def R.dput (x : Dk κ α) (k : κ) (a : α) : R (Dk κ α) := if x.l.length < sizeLine then .ok ⟨Fw.dput x.l k a⟩ else .no
variable {J S ρ : Type} {kr : ρ → Kd} {Ls : List Sl} {Js : J → List Sl} {B : Bd} {Bs : S → List Sl}
theorem d_dput {pin : Option V} {te ti : TE} {u : TS} {xs : Dk κ α} {m : R α} {n : R κ} {k : Dk κ α → Out S J ρ} (i : Nat) (hi : As[i]? = some (.ow pin xs)) (lx : Lx Ls As) (h : Exr c B.W0 X te As m fun x => kFr c.K x) (hn : Exr c B.W0 X ti As n fun x => kFr c.K x)
    (hk : ∀ ys : Dk κ α, Den c X kr Ls Js B u (As.set i (.ow pin ys)) (k ys) Bs) :
    Den c X kr Ls Js B (tSeq (sDPut (tVar i) ti te) u) As (m.to fun y => n.to fun j => (R.dput xs j y).to k) Bs := fun D σ W a f => by
  have h' := h σ W a
  have hn' := hn σ W a
  cases m with
  | no => exact False.elim f
  | ex e => exact h' W (Le.refl _) _ fun cls d W2 e2 z => f cls d σ W2 (lx_at lx (a.mono e2)) z
  | ok y =>
    refine h' W (Le.refl _) _ fun v W1 e1 r => ?_
    obtain ⟨w, fp, hw, rw_, _⟩ := (a.mono e1).chg (β := Dk κ α) (y := xs) hi
    refine ⟨w, hw, ?_⟩
    cases n with
    | no => exact False.elim f
    | ex e => exact hn' W1 e1 _ fun cls d W2 e2 z => f cls d σ W2 (lx_at lx (a.mono (e1.trans e2))) z
    | ok j =>
      refine hn' W1 e1 _ fun jv W2 e2 rj => ?_
      obtain ⟨w', fp', hw', rw', n0', chg'⟩ := (a.mono (e1.trans e2)).chg (β := Dk κ α) (y := ⟨Fw.dput xs.l j y⟩) hi
      rw [hw] at hw'
      cases hw'
      obtain ⟨p, q, ep, ef, g, hh, d, l⟩ := rw'
      subst ep ef
      have f' : Fin c X kr Ls Js B Bs D (R.to (if xs.l.length < sizeLine then R.ok ⟨Fw.dput xs.l j y⟩ else .no) k) := by
        have f2 : Fin c X kr Ls Js B Bs D ((R.dput xs j y).to k) := f
        unfold R.dput at f2
        exact f2
      by_cases cz : xs.l.length < sizeLine
      · rw [if_pos cz] at f'
        refine ⟨p, _, rfl, DKy.put (v := v) rj W2.sub hh (by rw [← d.len]; exact cz), ?_⟩
        have a3 := chg' (W2.mt p (DKy.ho (putK q j v)) g (ho_mut _)) [p] (Inc.refl _) (fun b _ hb _ => hb) (fun b hb n => mut_keep g b hb n) ⟨p, _, rfl, rfl, g, upd_same, d.put (Rp.mono e2.g r), Nat.le_trans (dput_len _ _ _) cz⟩ (fun b hb => .inl hb)
        exact hk _ D _ _ a3 f'
      · rw [if_neg cz] at f'
        exact False.elim f'
end
/-! ### tuples of ints for keys -/
section
variable {c : Cn} {W0 : Wd} {X : WX} {As : List Sl} {K : Frag}
theorem o_tupleK : OpA (fun xs H Q => ∃ p ys, xs = [.ref p] ∧ ((SqL K H p ys ∧ ∀ l, H l = none → Q (.ref l) (upd H l (.tup ys))) ∨ (SqT K H p ys ∧ Q (.ref p) H))) (fun z : List Int × Unit => aCons (kSh K z.1) aNil) (fun z => .ok (TK.mk z.1)) (fun x : TK => kFr K x) := fun z W0 W vs ⟨v, r, e, ⟨p, ls, ev, hs, al, l⟩, en⟩ Q q => by
  subst e ev en
  refine ⟨p, ls, rfl, .inl ⟨hs, fun b hb => ?_⟩⟩
  have el : ls = z.1.map V.int := by
    refine List.ext_getElem? fun i => ?_
    rw [List.getElem?_map]
    cases e1 : z.1[i]? with
    | none => rw [List.getElem?_eq_none (by rw [← al.1]; exact List.getElem?_eq_none_iff.mp e1)]; rfl
    | some x =>
      obtain ⟨w, ew, rw_⟩ := al.get e1
      rw [ew]
      exact congrArg some rw_
  exact q _ (W.nf b _) (Le.nf hb) ⟨b, rfl, by rw [← el]; exact upd_same, l⟩
theorem e_tk {te : TE} {x : TK} (h : Exp c W0 te As (kFr c.K x)) : Exp c W0 te As (kFr c.K (Tup.mk x.l)) := exp_w h fun _ _ _ => tk_tup
theorem r_tk {te : TE} {m : R TK} (h : Exr c W0 X te As m fun x => kFr c.K x) : Exr c W0 X te As (m.bind fun x => .ok (Tup.mk x.l)) fun x => kFr c.K x := fun σ W a => by
  have h' := h σ W a
  cases m with
  | no => trivial
  | ex e => exact h'
  | ok x => exact fun W1 e Q q => h' W1 e Q fun v W2 e2 p => q v W2 e2 (tk_tup p)
end
end Fw

namespace Fw
open PySem L2
section
open PySem.Spec PyProof.Rows
variable {prog : Program} {w : World} {A : Around} {E : Value → Shared → Prop}
theorem call_dict_tup {s : Shared} {l : Addr} {ol : Obj} {items : Array Value} {n : Nat} {prs : List (Key × Value)} {Q : Value → Shared → Prop} (hh : A.handled = none) (hl : s.heap.get? l = some ol) (hc : ol.cls = .type "tuple") (hd : ol.dict = none)
    (hdat : ol.data = .seq items n) (hsz : items.size = prs.length) (hln : prs.length ≤ sizeLine)
    (ht : ∀ (j : Nat) (q : Key × Value), prs[j]? = some q → ∃ (b : Addr) (u : Value), items[j]? = some (.ref b) ∧ IsTup s.heap b #[u, q.2] ∧ keyIs q.1 u = true)
    (h : ∀ h' tk, h'.DictOf (mixKind prog w) s.heap.objs.size (merged [] prs) → (∀ b o, s.heap.get? b = some o → h'.get? b = some o) → Q (.ref s.heap.objs.size) { s with heap := h', toks := tk }) :
    wpAny (model prog w) A (call (.type "dict") [.ref l]) Q E s := by
  refine callType_codes (Q₁ := fun obj s₁ => obj = .ref s.heap.objs.size ∧ s₁ = { s with heap := s.heap.push { cls := .type "dict", data := .dict #[] } }) PySem.F.kt_called_dict (PySem.F.kt_typeCall_dict_1 _) PySem.F.entry_dict_init (kt_code_dict_new _ ⟨rfl, rfl⟩) ?_
  rintro obj s₁ ⟨rfl, rfl⟩
  have hnew : (s.heap.push { cls := .type "dict", data := .dict #[] }).DictOf (mixKind prog w) s.heap.objs.size [] := Heap.DictOf.new s.heap
  have k0 : ∀ b o, s.heap.get? b = some o → (s.heap.push { cls := .type "dict", data := .dict #[] }).get? b = some o := fun b o e => Heap.get?_push_of_some _ e
  refine ⟨hnew.typeIs, PySem.F.args_dict_init_2 _ _, ?_⟩
  unfold Builtin.«dict.__init__»
  refine wpAny_bind ?_
  unfold Builtin.Dict.selfAndRest
  refine wpAny_bind (wpAny_notOrdered_dict hnew.typeIs ?_)
  show wpAny _ _ (pure (s.heap.objs.size, [Value.ref l])) _ _ _
  refine wpAny_pure ?_
  show wpAny _ _ (Builtin.Dict.updateFrom "dict.__init__" s.heap.objs.size (.ref l) [] .none) _ _ _
  unfold Builtin.Dict.updateFrom
  refine wpAny_bind (wpAny_typeOf (T := "tuple") ⟨ol, k0 _ _ hl, hc⟩ ?_)
  rw [if_pos (by first | decide | rfl | simp)]
  refine wpAny_bind (miss_tup (k0 _ _ hl) hc hdat hd hh fun h1 tk1 hk1 => ?_)
  rw [if_pos (show (none : Option Value).isNone = true from rfl)]
  refine wpAny_bind (wpAny_rule ?_)
  have hl1 : h1.IsTuple l items := ⟨ol, hk1 _ _ (k0 _ _ hl), hc, n, hdat⟩
  have hS1 : s.heap.objs.size < h1.objs.size := by
    have e : (s.heap.push { cls := .type "dict", data := .dict #[] }).get? s.heap.objs.size = some { cls := .type "dict", data := .dict #[] } := Heap.get?_push_size _ rfl
    exact Heap.lt_size (hk1 _ _ e)
  refine wpAny_bind (wpAny_pyIter_tuple hl1 ?_)
  have k2 : ∀ b o, h1.get? b = some o → (h1.push { cls := .type "tuple_iterator", data := .fields #[.ref l, .int 0 0] }).get? b = some o := fun b o e => Heap.get?_push_of_some _ e
  have hlt : l < s.heap.objs.size := Heap.lt_size hl
  have key := upd_tup (prog := prog) (w := w) (A := A.in1) (R := wants (fun r s₂ => r = .none ∧ Q (.ref s.heap.objs.size) s₂) E) (S := s.heap.objs.size) (I := h1.objs.size) (l := l) (items := items) (res := Value.none) hh
    (Nat.ne_of_lt (Nat.lt_trans hlt hS1)) (Nat.ne_of_lt hS1) (Nat.ne_of_gt hlt) prs 0 [] 0 0
    { s with heap := h1.push { cls := .type "tuple_iterator", data := .fields #[.ref l, .int 0 0] }, toks := tk1 } (by rw [hsz, Nat.zero_add]) (by rw [List.length_nil, Nat.zero_add]; exact hln)
    (fun j q e => by
      obtain ⟨b, u, e1, e2, e3⟩ := ht j q e
      have hb : b < s.heap.objs.size := e2.lt
      exact ⟨b, u, by rw [Nat.zero_add]; exact e1, Nat.ne_of_lt hb, Nat.ne_of_lt (Nat.lt_trans hb hS1), e2.keeps fun c o z => k2 _ _ (hk1 _ _ (k0 _ _ z)), e3⟩)
    ⟨_, Heap.get?_push_size _ rfl, rfl, rfl⟩ (by obtain ⟨o, ho, r⟩ := hl1; exact ⟨o, k2 _ _ ho, r⟩) ((hnew.at fun o e => hk1 _ _ e).at fun o e => k2 _ _ e)
    (fun h' tk hd' k => ⟨rfl, h h' tk hd' fun b o e => k b o (Nat.ne_of_lt (Heap.lt_size e)) (Nat.ne_of_lt (Nat.lt_trans (Heap.lt_size e) hS1)) (k2 _ _ (hk1 _ _ (k0 _ _ e)))⟩)
  first
    | exact wpAny_pure ⟨plainId_quiet ud_plain _, key⟩
    | exact wpAny_bind (wpAny_pure (wpAny_pure ⟨plainId_quiet ud_plain _, key⟩))
end
section
open PySem.Spec PyProof.Rows
variable {X : Cx}
def rTupZ (K : Frag) : List V → Hp → VK → Prop := fun xs H Q => ∃ p ys, xs = [.ref p] ∧ SqL K H p ys ∧ ∀ l o, H l = none → o.cls = .type "tuple" → o.dict = none → Q (.ref l) (upd H l (.frz o (.tup ys)))
theorem call_tupleZ : CallR X (.type "tuple") (rTupZ X.K) := by
  intro pins s σ H xs us Q I r h
  obtain ⟨p, ys, rfl, hq, q⟩ := h
  obtain ⟨u, rfl, rx⟩ := vals1 r
  cases rx
  obtain ⟨its, r', pl, hz⟩ := I.list hq
  have hlen := r'.length
  refine call_tuple_list pl.isList (fun h' kp => ?_) (by simp only [List.size_toArray] <;> omega)
  have I1 : Inv X pins σ H { s with heap := h' } := I.kept (t' := s.toks) kp
  have I2 : Inv X pins σ (upd H h'.objs.size (.frz { cls := .type "tuple", data := .seq its.toArray } (.tup ys))) { s with heap := h'.push { cls := .type "tuple", data := .seq its.toArray } } :=
    I1.laid (t' := s.toks) (fun b o e => Heap.get?_push_of_some _ e) (Nat.le_refl _) (show ObjOk X.prog X.w _ _ _ (.frz _ (.tup ys)) from ⟨Heap.get?_push_size _ rfl, hz, its, r', IsTup.new _ _⟩)
  exact ⟨.ref h'.objs.size, _, I2, rfl, q _ _ (I1.hok.fresh (Nat.le_refl _)) rfl rfl⟩
def rDictZ (K : Frag) : List V → Hp → VK → Prop := fun xs H Q => ∃ (a : Addr) (o : Obj) (ps : List Addr) (kvs : List (Key × V)), xs = [.ref a] ∧ H a = some (.frz o (.tup (ps.map V.ref))) ∧ o.cls = .type "tuple" ∧ o.dict = none ∧ Paired (fun p kv => SqT K H p [L2.kV kv.1, kv.2]) ps kvs ∧
    ∀ p, H p = none → Q (.ref p) (upd H p (.dK (mergeK [] kvs)))
theorem call_dictZ (hcalm : X.calm = true) : CallR X (.type "dict") (rDictZ X.K) := by
  intro pins s σ H xs us Q I r q
  obtain ⟨a, o, ps, kvs, ex, hq, hcl, hdn, hp, q⟩ := q
  subst ex
  obtain ⟨u, eu, rx⟩ := vals1 r
  subst eu
  cases rx
  obtain ⟨ho, hz, its, rv, hh⟩ := (show ObjOk X.prog X.w H s.heap a (.frz o (.tup (ps.map V.ref))) from I.hok a _ hq)
  have ei := refs_at rv
  subst ei
  rw [List.length_map] at hz
  obtain ⟨prs, rel, hl, hpr⟩ := pairs_of I hp
  obtain ⟨o', ho', hc', n, hd'⟩ := hh
  rw [ho] at ho'
  cases ho'
  refine call_dict_tup (prs := prs) (I.ok.hd hcalm) ho hcl hdn hd' (by simp [hl]) (by rw [hl]; exact hz) (fun j q' e => ?_) fun h' tk hd2 k => ?_
  · obtain ⟨b, u, e1, e2, e3⟩ := hpr j q' e
    exact ⟨b, u, by simp [e1], e2, e3⟩
  · have hm : (s.heap.objs.size == sysModules) = false := beq_eq_false_iff_ne.mpr (Nat.ne_of_gt I.big)
    have hlen : (mergeK [] kvs).length ≤ sizeLine := by
      refine Nat.le_trans (length_mergeK kvs []) ?_
      rw [List.length_nil, Nat.zero_add, rel.length, hl]
      exact hz
    exact ⟨.ref s.heap.objs.size, upd H s.heap.objs.size (.dK (mergeK [] kvs)), I.laid (t' := tk) k (Nat.le_refl _) (show ObjOk X.prog X.w _ _ _ (.dK (mergeK [] kvs)) from ⟨hlen, hm, merged [] prs, KV.merge rel .nil, hd2⟩), rfl, q _ (I.hok.fresh (Nat.le_refl _))⟩
end
/-! ### a tuple known to have no dict of its own -/
structure TZ (α : Type) where
  l : List α
deriving DecidableEq
theorem dmerge_len {κ β : Type} [DecidableEq κ] : ∀ (xs acc : List (κ × β)), (xs.foldl (fun acc p => dput acc p.1 p.2) acc).length ≤ acc.length + xs.length
  | [], acc => Nat.le_refl _
  | x :: xs, acc => by
    have := dmerge_len xs (dput acc x.1 x.2)
    have := dput_len acc x.1 x.2
    rw [List.foldl_cons, List.length_cons]
    omega
section
variable {α : Type} [Rp α] {c : Cn} {W0 : Wd} {X : WX} {As : List Sl} {K : Frag}
instance : Rp (TZ α) := ⟨fun K x v G => ∃ p o vs, v = .ref p ∧ G p = some (.frz o (.tup vs)) ∧ o.cls = .type "tuple" ∧ o.dict = none ∧ Al (fun x v => Rp.rep K x v G) x.l vs ∧ x.l.length ≤ sizeLine, fun s ⟨p, o, vs, e, h, h1, h2, a, l⟩ => ⟨p, o, vs, e, s _ _ h, h1, h2, a.imp fun _ _ r => Rp.mono s r, l⟩⟩
theorem tz_tup {x : TZ α} {v : V} {G : Hp} (h : Rp.rep K x v G) : Rp.rep K (Tup.mk x.l) v G := by
  obtain ⟨p, o, vs, e, h, h1, h2, a, l⟩ := h
  exact ⟨p, vs, e, .inl (.inr ⟨o, h⟩), a, l⟩
theorem e_tz {te : TE} {x : TZ α} (h : Exp c W0 te As (kFr c.K x)) : Exp c W0 te As (kFr c.K (Tup.mk x.l)) := exp_w h fun _ _ _ => tz_tup
theorem r_tz {te : TE} {m : R (TZ α)} (h : Exr c W0 X te As m fun x => kFr c.K x) : Exr c W0 X te As (m.bind fun x => .ok (Tup.mk x.l)) fun x => kFr c.K x := fun σ W a => by
  have h' := h σ W a
  cases m with
  | no => trivial
  | ex e => exact h'
  | ok x => exact fun W1 e Q q => h' W1 e Q fun v W2 e2 p => q v W2 e2 (tz_tup p)
theorem o_tupleZ : OpA (rTupZ K) (fun z : List α × Unit => aCons (kSh K z.1) aNil) (fun z => .ok (TZ.mk z.1)) (fun x : TZ α => kFr K x) := fun z W0 W vs ⟨v, r, e, ⟨p, ls, ev, hs, al, l⟩, en⟩ Q q => by
  subst e ev en
  exact ⟨p, ls, rfl, hs, fun b o hb h1 h2 => q _ (W.nf b _) (Le.nf hb) ⟨b, o, ls, rfl, upd_same, h1, h2, al_mono al (Le.nf hb).g, l⟩⟩
/-- dict(pairs): later pairs win -/
def dmerge {κ β : Type} [DecidableEq κ] (x : List (κ × β)) : List (κ × β) := x.foldl (fun acc p => dput acc p.1 p.2) []
theorem mergeK_kS {K : Frag} {G : Hp} : ∀ {xs : List (Str × α)} {q : List (Str × V)} {acc : List (Str × α)} {ac : List (Str × V)}, DR K xs q G → DR K acc ac G →
    ∃ r, mergeK (ac.map fun p => (kS p.1, p.2)) (q.map fun p => (kS p.1, p.2)) = r.map (fun p => (kS p.1, p.2)) ∧ DR K (xs.foldl (fun acc p => dput acc p.1 p.2) acc) r G
  | [], [], acc, ac, _, h => ⟨ac, rfl, h⟩
  | a :: xs, b :: q, acc, ac, h, h2 => by
    obtain ⟨r, e, d⟩ := mergeK_kS (acc := dput acc a.1 a.2) (ac := putK ac b.1 b.2) h.2.2 (by rw [h.1]; exact h2.put h.2.1)
    refine ⟨r, ?_, d⟩
    rw [← e, ← putK_inj kS_inj]
    rfl
  | [], _ :: _, _, _, h, _ => h.elim
  | _ :: _, [], _, _, h, _ => h.elim
theorem pairs_al {G : Hp} : ∀ {xs : List (Str × α)} {vs : List V}, Al (fun x v => Rp.rep K x v G) xs vs → ∃ (ps : List Addr) (q : List (Str × V)), vs = ps.map V.ref ∧ DR K xs q G ∧ Paired (fun p kv => SqT K G p [L2.kV kv.1, kv.2]) ps (q.map fun p => (kS p.1, p.2))
  | [], vs, h => by
    have : vs = [] := List.eq_nil_of_length_eq_zero h.1.symm
    subst this
    exact ⟨[], [], rfl, trivial, .nil⟩
  | x :: xs, [], h => by
    have := h.1
    simp at this
  | x :: xs, v :: vs, h => by
    have h0 := h.2 0 x v rfl rfl
    obtain ⟨ps, q, e, d, p⟩ := pairs_al (xs := xs) (vs := vs) ⟨by have := h.1; simpa using this, fun i y w h1 h2 => h.2 (i + 1) y w (by simpa using h1) (by simpa using h2)⟩
    obtain ⟨b, va, vb, ev, hs, r1, r2⟩ := h0
    subst ev e
    have e1 : va = .str x.1 := r1.1
    subst e1
    exact ⟨b :: ps, (x.1, vb) :: q, rfl, ⟨rfl, r2, d⟩, .cons hs p⟩
theorem o_dictZ : OpA (rDictZ K) (fun z : TZ (Str × α) × Unit => aCons (kFr K z.1) aNil) (fun z => .ok (Dk.mk (dmerge z.1.l))) (fun x : Dk Str α => kNw K x) := fun z W0 W vs ⟨v, r, e, ⟨p, o, ls, ev, hs, h1, h2, al, l⟩, en⟩ Q q => by
  subst e ev en
  obtain ⟨ps, qs, e1, d, pr⟩ := pairs_al al
  subst e1
  obtain ⟨rr, em, dm⟩ := mergeK_kS (acc := []) (ac := []) d trivial
  refine ⟨p, o, ps, _, rfl, W.sub _ _ hs, h1, h2, L2.Paired.mapP pr fun _ _ z => W.sub.sqt z, fun b hb => ?_⟩
  rw [show mergeK [] (qs.map fun p => (kS p.1, p.2)) = rr.map fun p => (kS p.1, p.2) from em]
  exact q _ (W.no b _ hb) (Le.no hb) ⟨[b], ⟨b, rr, rfl, rfl, W.sub.nope hb, upd_same, dm, by have := dmerge_len z.1.l []; simp only [List.length_nil, Nat.zero_add] at this; exact Nat.le_trans this l⟩, fun a ha => by rw [List.mem_singleton.mp ha]; exact hb⟩
end
end Fw

namespace Fw
open PySem L2
section
variable {α : Type} [Rp α]
instance : Pt (TZ α) := ⟨"tuple", fun h => Pt.is (tz_tup h)⟩
instance [Pd α] : Pd (TZ α) := ⟨fun x => Pd.pd (Tup.mk x.l), fun h => Pd.dp (tz_tup h), Pd.n (Tup α), fun h => Pd.dep (tz_tup h), fun h => Pd.lay (tz_tup h), fun x y => by
  rw [Pd.eq]; cases x; cases y; simp⟩
instance : NN (TZ α) := ⟨fun h => NN.nn (tz_tup h)⟩
instance [Pd α] : Apart Str (TZ α) := ⟨fun _ _ => by simp [Pd.pd, PyData.eqv], fun _ _ => by simp [Pd.pd, PyData.eqv]⟩
instance : Pt TK := ⟨"tuple", fun h => Pt.is (tk_tup h)⟩
instance : Pd TK := ⟨fun x => Pd.pd (Tup.mk x.l), fun h => Pd.dp (tk_tup h), Pd.n (Tup Int), fun h => Pd.dep (tk_tup h), fun h => Pd.lay (tk_tup h), fun x y => by
  rw [Pd.eq]; cases x; cases y; simp⟩
instance : NN TK := ⟨fun h => NN.nn (tk_tup h)⟩
end
section
variable {X : Cx} {o i e f : Expr} {pos apos cpos : Pos} {td ty tx : TE}
theorem hu1 {A : Around} {k : Nat} (hr : Room k A) : A.units + 1 < cLine := by have := hr.un; omega
theorem pe_dgetO (hu : X.A.units + 1 < cLine) (ho : PE X o td) (hi : PE X i ty) (hs : NoSl i := by exact fun _ _ => rfl) : PE X (.Subscript o i pos) (tOp rDGet td ty) := pe_dget hu ho hi hs
theorem pc_dinO (hu : X.A.units + 1 < cLine) (hi : PE X i ty) (ho : PE X o td) : PC X .In i o (tOp rDIn ty td) := pc_din hu hi ho
theorem pc_dniO (hu : X.A.units + 1 < cLine) (hi : PE X i ty) (ho : PE X o td) : PC X .NotIn i o (tOp rDNi ty td) := pc_dnotin hu hi ho
theorem pe_dget2O (hu : X.A.units + 1 < cLine) (ho : PE X o td) (he : PE X e ty) (hf : PE X f tx) (h1 : attributeBase o "get" X.env (eval o X.env) = eval o X.env := by rfl)
    (h2 : ((backTo cpos (starEach [e, f] X.env)).all (fun x => !x.1) && (backToKw cpos (keywordEach [] X.env)).all (fun x => x.1.isSome)
    && decide (([e, f] : List Expr).length + ([] : List Keyword).length + (if ([] : List Keyword).isEmpty then 0 else 1) < 30)) = true := by rfl) (h3 : (apos.endLine == cpos.line) = true := by rfl)
    (h4 : backTo cpos (starEach [e, f] X.env) = [(false, eval e X.env), (false, eval f X.env)] := by rfl) : PE X (.Call (.Attribute o "get" apos) [e, f] [] cpos) (tDGet2 td ty tx) := pe_dget2 hu ho he hf ⟨h1, h2, h3, h4⟩
end
end Fw

namespace Fw
open PySem L2
section
variable {α : Type} [Rp α] {c : Cn} {W0 : Wd} {X : WX} {As : List Sl} {K : Frag}
/-! ### a list none of whose items is None -/
def R.unopts : List (Option α) → R (List α)
  | [] => .ok []
  | some x :: r => (R.unopts r).bind fun ys => .ok (x :: ys)
  | none :: _ => .no
theorem unopts_ok : ∀ {xs : List (Option α)} {ys : List α}, R.unopts xs = .ok ys → xs = ys.map some
  | [], ys, h => by cases h; rfl
  | some x :: r, ys, h => by
    unfold R.unopts at h
    cases e : R.unopts r with
    | ok zs => rw [e] at h; cases h; rw [unopts_ok e]; rfl
    | ex z => rw [e] at h; cases h
    | no => rw [e] at h; cases h
  | none :: r, ys, h => by cases h
theorem unopts_ex : ∀ {xs : List (Option α)} {e : Exc}, R.unopts xs = .ex e → False
  | [], e, h => by cases h
  | some x :: r, e, h => by
    unfold R.unopts at h
    cases q : R.unopts r with
    | ok zs => rw [q] at h; cases h
    | ex z => exact unopts_ex q
    | no => rw [q] at h; cases h
  | none :: r, e, h => by cases h
theorem unopts_some (ys : List α) : R.unopts (ys.map some) = .ok ys := by
  induction ys with
  | nil => rfl
  | cons y ys ih => rw [List.map_cons]; unfold R.unopts; rw [ih]; rfl
theorem unopts_rep {xs : List (Option α)} {ys : List α} (h : R.unopts xs = .ok ys) {v : V} {G : Hp} (r : Rp.rep K xs v G) : Rp.rep K ys v G := by
  obtain ⟨p, vs, e, g, al, l⟩ := r
  have e2 := unopts_ok h
  subst e2
  refine ⟨p, vs, e, g, ⟨by rw [← al.1, List.length_map], fun i x w h1 h2 => ?_⟩, by rw [List.length_map] at l; exact l⟩
  have := al.2 i (some x) w (by rw [List.getElem?_map, h1]; rfl) h2
  exact this.2
theorem r_unopts {te : TE} {m : R (List (Option α))} (h : Exr c W0 X te As m fun x => kFr c.K x) : Exr c W0 X te As (m.bind R.unopts) fun x => kFr c.K x := fun σ W a => by
  have h' := h σ W a
  cases m with
  | no => trivial
  | ex e => exact h'
  | ok xs =>
    show SatR (R.unopts xs) _ _
    cases e : R.unopts xs with
    | no => trivial
    | ex z => exact (unopts_ex e).elim
    | ok ys => exact fun W1 e1 Q q => h' W1 e1 Q fun v W2 e2 p => q v W2 e2 (unopts_rep e p)
/-! ### == of None or a thing -/
class AN (α : Type) [Rp α] [Pd α] where
  l : ∀ a : α, PyData.eqv .none (Pd.pd a) = false
  r : ∀ a : α, PyData.eqv (Pd.pd a) .none = false
instance : AN Int := ⟨fun _ => by simp [Pd.pd, PyData.eqv], fun _ => by simp [Pd.pd, PyData.eqv]⟩
instance : AN Str := ⟨fun _ => by simp [Pd.pd, PyData.eqv], fun _ => by simp [Pd.pd, PyData.eqv]⟩
instance : AN Bool := ⟨fun _ => by simp [Pd.pd, PyData.eqv], fun _ => by simp [Pd.pd, PyData.eqv]⟩
instance [Pd α] : AN (List α) := ⟨fun _ => by simp [Pd.pd, PyData.eqv], fun _ => by simp [Pd.pd, PyData.eqv]⟩
instance {β : Type} [Rp β] [Pd α] [Pd β] : AN (α × β) := ⟨fun _ => by simp [Pd.pd, PyData.eqv], fun _ => by simp [Pd.pd, PyData.eqv]⟩
instance {β γ : Type} [Rp β] [Rp γ] [Pd α] [Pd β] [Pd γ] : AN (T3 α β γ) := ⟨fun _ => by simp [Pd.pd, PyData.eqv], fun _ => by simp [Pd.pd, PyData.eqv]⟩
instance {β γ δ : Type} [Rp β] [Rp γ] [Rp δ] [Pd α] [Pd β] [Pd γ] [Pd δ] : AN (T4 α β γ δ) := ⟨fun _ => by simp [Pd.pd, PyData.eqv], fun _ => by simp [Pd.pd, PyData.eqv]⟩
instance [Pd α] [AN α] : Pd (Option α) where
  pd x := match x with
    | none => .none
    | some a => Pd.pd a
  dp := fun {K x v G} h => by
    cases x with
    | none => have h' : v = .non := h; subst h'; exact .non
    | some a => exact Pd.dp (α := α) h.2
  n := Pd.n α
  dep := fun {K x v G} h => by
    cases x with
    | none => simp [PyData.depth]
    | some a => exact Pd.dep (α := α) h.2
  lay := fun {K x v G} h => by
    cases x with
    | none => simp [PyData.canLay0]
    | some a => exact Pd.lay (α := α) h.2
  eq x y := by
    cases x with
    | none =>
      cases y with
      | none => simp [PyData.eqv]
      | some b => simp [AN.l]
    | some a =>
      cases y with
      | none => simp [AN.r]
      | some b => simp [Pd.eq]
/-! ### x in a tuple of flat things -/
class Fl (α : Type) [Rp α] extends Eqs α where
  fl : ∀ x : α, flatV (Eqs.v x) = true
  dec : [DecidableEq α] → ∀ x y : α, eqV (Eqs.v y) (Eqs.v x) = decide (x = y)
instance : Fl Str := ⟨fun _ => rfl, fun x y => by
  simp only [Eqs.v, eqV]
  rw [Bool.eq_iff_iff]
  exact ⟨fun h => decide_eq_true (eq_of_beq h).symm, fun h => by have e := of_decide_eq_true h; subst e; simp⟩⟩
instance : Fl Int := ⟨fun _ => rfl, fun x y => by
  simp only [Eqs.v, eqV]
  rw [Bool.eq_iff_iff]
  exact ⟨fun h => decide_eq_true (eq_of_beq h).symm, fun h => by have e := of_decide_eq_true h; subst e; simp⟩⟩
variable [DecidableEq α] [Fl α]
theorem inV_fl (x : α) : ∀ ys : List α, inV (Eqs.v x) (ys.map Eqs.v) = decide (x ∈ ys)
  | [] => by simp [inV]
  | y :: ys => by
    have ih := inV_fl x ys
    unfold inV at ih ⊢
    rw [List.map_cons, List.any_cons, ih, Fl.dec]
    by_cases h : x = y
    · subst h; simp
    · simp [h]
theorem al_eqs {G : Hp} {xs : List α} {vs : List V} (h : Al (fun x v => Rp.rep K x v G) xs vs) : vs = xs.map Eqs.v := by
  refine List.ext_getElem? fun i => ?_
  rw [List.getElem?_map]
  cases e1 : xs[i]? with
  | none => rw [List.getElem?_eq_none (by rw [← h.1]; exact List.getElem?_eq_none_iff.mp e1)]; rfl
  | some x =>
    obtain ⟨w, ew, rw_⟩ := h.get e1
    rw [ew]
    exact congrArg some (Eqs.rv rw_)
theorem fl_all (xs : List α) : (xs.map Eqs.v).all flatV = true := by
  rw [List.all_map]
  exact List.all_eq_true.mpr fun x _ => Fl.fl x
theorem o_inTup : Op2 (rIn K false) (fun x : α => kFr K x) (fun y : Tup α => kFr K y) (fun x y => .ok (memB x y.l)) (fun b : Bool => kFr K b) := fun x y W0 W v w hv ⟨p, vs, ew, hs, al, l⟩ Q q => by
  have h1 : v = Eqs.v x := Eqs.rv hv
  have h2 := al_eqs al
  subst h1 h2
  exact ⟨p, _, ew, .inr (W.sub.sqt hs), Fl.fl x, fl_all _, q _ W (Le.refl _) (by rw [if_neg (by decide), inV_fl]; rfl)⟩
theorem o_ninTup : Op2 (rIn K true) (fun x : α => kFr K x) (fun y : Tup α => kFr K y) (fun x y => .ok (!memB x y.l)) (fun b : Bool => kFr K b) := fun x y W0 W v w hv ⟨p, vs, ew, hs, al, l⟩ Q q => by
  have h1 : v = Eqs.v x := Eqs.rv hv
  have h2 := al_eqs al
  subst h1 h2
  exact ⟨p, _, ew, .inr (W.sub.sqt hs), Fl.fl x, fl_all _, q _ W (Le.refl _) (by rw [if_pos rfl, inV_fl]; rfl)⟩
theorem o_inP : Op2 (rIn K false) (fun x : α => kFr K x) (fun y : α × α => kFr K y) (fun x y => .ok (memB x [y.1, y.2])) (fun b : Bool => kFr K b) := fun x y W0 W v w hv ⟨p, a, b, ew, hs, ra, rb⟩ Q q => by
  have h1 : v = Eqs.v x := Eqs.rv hv
  have h2 : a = Eqs.v y.1 := Eqs.rv ra
  have h3 : b = Eqs.v y.2 := Eqs.rv rb
  subst h1 h2 h3
  exact ⟨p, _, ew, .inr (W.sub.sqt hs), Fl.fl x, fl_all [y.1, y.2], q _ W (Le.refl _) (by rw [if_neg (by decide)]; show V.bl (inV _ ([y.1, y.2].map Eqs.v)) = _; rw [inV_fl]; rfl)⟩
theorem o_ninP : Op2 (rIn K true) (fun x : α => kFr K x) (fun y : α × α => kFr K y) (fun x y => .ok (!memB x [y.1, y.2])) (fun b : Bool => kFr K b) := fun x y W0 W v w hv ⟨p, a, b, ew, hs, ra, rb⟩ Q q => by
  have h1 : v = Eqs.v x := Eqs.rv hv
  have h2 : a = Eqs.v y.1 := Eqs.rv ra
  have h3 : b = Eqs.v y.2 := Eqs.rv rb
  subst h1 h2 h3
  exact ⟨p, _, ew, .inr (W.sub.sqt hs), Fl.fl x, fl_all [y.1, y.2], q _ W (Le.refl _) (by rw [if_pos rfl]; show V.bl (!inV _ ([y.1, y.2].map Eqs.v)) = _; rw [inV_fl]; rfl)⟩
end
end Fw

namespace Fw
open PySem L2
/-! ### what is owned, looked at as frozen, where only a scalar comes out -/
inductive FzW : List Sl → List Sl → Prop
  | nil : FzW [] []
  | un {As Bs : List Sl} : FzW As Bs → FzW (.un :: As) (.un :: Bs)
  | fr {α : Type} [Rp α] {x : α} {As Bs : List Sl} : FzW As Bs → FzW (.fr x :: As) (.fr x :: Bs)
  | ow {α : Type} [Fz α] {pin : Option V} {x : α} {As Bs : List Sl} : FzW As Bs → FzW (.ow pin x :: As) (.fr x :: Bs)
theorem FzW.len {As Bs : List Sl} (h : FzW As Bs) : As.length = Bs.length := by
  induction h with
  | nil => rfl
  | un _ ih => exact congrArg (· + 1) ih
  | fr _ ih => exact congrArg (· + 1) ih
  | ow _ ih => exact congrArg (· + 1) ih
theorem FzW.at {K : Frag} {W : Wd} {As Bs : List Sl} (h : FzW As Bs) : ∀ {σ : St}, (∀ (i : Nat) A o, As[i]? = some A → σ[i]? = some o → ∃ f, Hd K A o W f) → ∀ (i : Nat) B o, Bs[i]? = some B → σ[i]? = some o → Hd K B o (.all W.H) [] := by
  induction h with
  | nil => intro σ _ i B o e; simp at e
  | @un As Bs _ ih =>
    intro σ hh i B o e1 e2
    cases σ with
    | nil => simp at e2
    | cons s σ =>
      cases i with
      | zero => cases e1; trivial
      | succ i => exact ih (σ := σ) (fun j A o a b => hh (j + 1) A o a b) i B o e1 e2
  | @fr α _ x As Bs _ ih =>
    intro σ hh i B o e1 e2
    cases σ with
    | nil => simp at e2
    | cons s σ =>
      cases i with
      | zero =>
        cases e1
        obtain ⟨f, v, e, r⟩ := hh 0 _ o rfl e2
        exact ⟨v, e, Rp.mono W.sub r⟩
      | succ i => exact ih (σ := σ) (fun j A o a b => hh (j + 1) A o a b) i B o e1 e2
  | @ow α _ pin x As Bs _ ih =>
    intro σ hh i B o e1 e2
    cases σ with
    | nil => simp at e2
    | cons s σ =>
      cases i with
      | zero =>
        cases e1
        obtain ⟨f, v, e, r, _⟩ := hh 0 _ o rfl e2
        exact ⟨v, e, own_bw (A := W) r⟩
      | succ i => exact ih (σ := σ) (fun j A o a b => hh (j + 1) A o a b) i B o e1 e2
theorem At.allfz {K : Frag} {W0 W : Wd} {As Bs : List Sl} {σ : St} (h : At K W0 As σ W) (z : FzW As Bs) : At K (.all W.H) Bs σ (.all W.H) := by
  obtain ⟨l, le, F, h1, h2, h3⟩ := h
  exact ⟨l.trans z.len, Le.refl _, fun _ => [], fun i B o a b => z.at (fun j A o a b => ⟨F j, h1 j A o a b⟩) i B o a b, fun i j a _ ha => (by cases ha), fun i a ha => (by cases ha)⟩
section
variable {c : Cn} {W0 : Wd} {X : WX} {As Bs : List Sl} {ρ : Type}
theorem r_fzs [Sc ρ] {te : TE} {m : R ρ} (z : FzW As Bs) (h : ∀ W0', Exr c W0' X te Bs m fun x => kFr c.K x) : Exr c W0 X te As (R.np m) fun x => kFr c.K x := fun σ W a => by
  have go : ∀ W1, Le W W1 → SatR m (fun x => Ev te σ (.all W1.H) (kFr c.K x)) (Rz c X te σ (.all W1.H)) := fun W1 e => h _ σ _ ((a.mono e).allfz z)
  cases m with
  | no => trivial
  | ex e => trivial
  | ok x =>
    refine fun W1 e1 Q q => (go W1 e1) (.all W1.H) (Le.refl _) Q fun v W3 e3 p => ?_
    exact q v (W1.bk W3 e3) bk_le (Sc.any p)
theorem e_fzs [Sc ρ] {te : TE} {x : ρ} (z : FzW As Bs) (h : ∀ W0', Exp c W0' te Bs (kFr c.K x)) : Exp c W0 te As (kFr c.K x) := r_fzs (X := fun _ _ _ _ => True) z fun W0' => exr_p (k := fun x => kFr c.K x) (h W0')
theorem tr_fzs {tt : TT} {m : R Bool} (z : FzW As Bs) (h : ∀ W0', Txr c W0' X tt Bs m) : Txr c W0 X tt As (R.np m) := fun σ W a => by
  have go : ∀ W1, Le W W1 → SatR m (EvT tt σ (.all W1.H)) (RzT c X tt σ (.all W1.H)) := fun W1 e => h _ σ _ ((a.mono e).allfz z)
  cases m with
  | no => trivial
  | ex e => trivial
  | ok x =>
    refine fun W1 e1 Q q => (go W1 e1) (.all W1.H) (Le.refl _) Q fun W3 e3 => ?_
    exact q (W1.bk W3 e3) bk_le
theorem t_fzs {tt : TT} {b : Bool} (z : FzW As Bs) (h : ∀ W0', Txp c W0' tt Bs b) : Txp c W0 tt As b := tr_fzs (X := fun _ _ _ _ => True) z fun W0' => txr_p (h W0')
end
/-! ### a list of lists, all its own -/
structure DL (α : Type) where
  l : List (List α)
deriving DecidableEq
section
variable {α : Type} [Rp α] {K : Frag}
def DRow (K : Frag) (xs : List α) (q : Addr) (W : Wd) : Prop := W.G q = none ∧ ∃ vs, W.H q = some (.lst vs) ∧ Al (fun x v => Rp.rep K x v W.G) xs vs ∧ xs.length ≤ sizeLine
def DRows (K : Frag) : List (List α) → List Addr → Wd → Prop
  | [], [], _ => True
  | xs :: r, q :: qs, W => DRow K xs q W ∧ DRows K r qs W
  | _, _, _ => False
theorem DRow.keep {W W' : Wd} {xs : List α} {q : Addr} (h : DRow K xs q W) (s : Inc W.G W'.G) (n : W'.G q = none) (k : W'.H q = W.H q) : DRow K xs q W' := by
  obtain ⟨g, vs, hh, al, l⟩ := h
  exact ⟨n, vs, k.trans hh, al.imp fun _ _ r => Rp.mono s r, l⟩
theorem DRows.keep {W W' : Wd} : ∀ {xs : List (List α)} {qs : List Addr}, DRows K xs qs W → Inc W.G W'.G → (∀ q ∈ qs, W'.G q = none) → (∀ q ∈ qs, W'.H q = W.H q) → DRows K xs qs W'
  | [], [], _, _, _, _ => trivial
  | x :: xs, q :: qs, h, s, n, k => ⟨h.1.keep s (n q (by simp)) (k q (by simp)), DRows.keep h.2 s (fun b hb => n b (List.mem_cons_of_mem _ hb)) fun b hb => k b (List.mem_cons_of_mem _ hb)⟩
  | [], _ :: _, h, _, _, _ => h.elim
  | _ :: _, [], h, _, _, _ => h.elim
theorem DRows.len {W : Wd} : ∀ {xs : List (List α)} {qs : List Addr}, DRows K xs qs W → xs.length = qs.length
  | [], [], _ => rfl
  | x :: xs, q :: qs, h => by rw [List.length_cons, List.length_cons, h.2.len]
  | [], _ :: _, h => h.elim
  | _ :: _, [], h => h.elim
theorem DRows.foot {W : Wd} : ∀ {xs : List (List α)} {qs : List Addr}, DRows K xs qs W → ∀ q ∈ qs, W.G q = none ∧ W.H q ≠ none
  | [], [], _, q, hq => by cases hq
  | x :: xs, b :: qs, h, q, hq => by
    rcases List.mem_cons.mp hq with e | hq
    · subst e
      obtain ⟨g, vs, hh, _⟩ := h.1
      exact ⟨g, by rw [hh]; exact fun z => nomatch z⟩
    · exact h.2.foot q hq
  | [], _ :: _, h, _, _ => h.elim
  | _ :: _, [], h, _, _ => h.elim
theorem DRows.snoc {W : Wd} {y : List α} {b : Addr} (r : DRow K y b W) : ∀ {xs : List (List α)} {qs : List Addr}, DRows K xs qs W → DRows K (xs ++ [y]) (qs ++ [b]) W
  | [], [], _ => ⟨r, trivial⟩
  | x :: xs, q :: qs, h => ⟨h.1, DRows.snoc r h.2⟩
  | [], _ :: _, h => h.elim
  | _ :: _, [], h => h.elim
theorem DRows.get {W : Wd} : ∀ {xs : List (List α)} {qs : List Addr} {i : Nat} {x : List α}, DRows K xs qs W → xs[i]? = some x → ∃ q, qs[i]? = some q ∧ DRow K x q W
  | x :: xs, q :: qs, 0, y, h, e => by cases e; exact ⟨q, rfl, h.1⟩
  | x :: xs, q :: qs, i + 1, y, h, e => DRows.get (i := i) h.2 e
  | [], [], i, y, h, e => by simp at e
  | [], _ :: _, _, _, h, _ => h.elim
  | _ :: _, [], _, _, h, _ => h.elim
/-- one row is another one now, the others as they were -/
theorem DRows.put {W W' : Wd} {y : List α} {b : Addr} (r : DRow K y b W') (s : Inc W.G W'.G) (hk : ∀ q, q ≠ b → W.G q = none → W.H q ≠ none → W'.G q = none ∧ W'.H q = W.H q) : ∀ {xs : List (List α)} {qs : List Addr} {i : Nat}, DRows K xs qs W → qs[i]? = some b → qs.Nodup → DRows K (xs.set i y) qs W'
  | x :: xs, q :: qs, 0, h, e, nd => by
    cases e
    refine ⟨r, h.2.keep s (fun c hc => ?_) fun c hc => ?_⟩
    · exact (hk c (fun z => by rw [z] at hc; exact (List.nodup_cons.mp nd).1 hc) (h.2.foot c hc).1 (h.2.foot c hc).2).1
    · exact (hk c (fun z => by rw [z] at hc; exact (List.nodup_cons.mp nd).1 hc) (h.2.foot c hc).1 (h.2.foot c hc).2).2
  | x :: xs, q :: qs, i + 1, h, e, nd => by
    have hq : q ≠ b := fun z => by
      subst z
      exact (List.nodup_cons.mp nd).1 (List.mem_of_getElem? (i := i) e)
    have f : W.G q = none ∧ W.H q ≠ none := (show DRows K (x :: xs) (q :: qs) W from h).foot q (by simp)
    exact ⟨h.1.keep s (hk q hq f.1 f.2).1 (hk q hq f.1 f.2).2, DRows.put (i := i) r s hk h.2 e (List.nodup_cons.mp nd).2⟩
  | [], [], _, _, e, _ => by simp at e
  | [], _ :: _, _, h, _, _ => h.elim
  | _ :: _, [], _, h, _, _ => h.elim
theorem DRows.rep {W : Wd} {G : Hp} (s : Inc W.G G) : ∀ {xs : List (List α)} {qs : List Addr}, DRows K xs qs W → (∀ q ∈ qs, G q = W.H q) → Al (fun x v => Rp.rep K x v G) xs (qs.map V.ref)
  | [], [], _, _ => Al.nil
  | x :: xs, q :: qs, h, k => by
    obtain ⟨g, vs, hh, al, l⟩ := h.1
    exact (DRows.rep s h.2 fun b hb => k b (List.mem_cons_of_mem _ hb)).cons ⟨q, vs, rfl, (k q (by simp)).trans hh, al.imp fun _ _ r => Rp.mono s r, l⟩
  | [], _ :: _, h, _ => h.elim
  | _ :: _, [], h, _ => h.elim
instance : Rp (DL α) := ⟨fun K x v G => Rp.rep K x.l v G, fun s h => Rp.mono s h⟩
def ownDL (K : Frag) (x : DL α) (v : V) (f : List Addr) (W : Wd) : Prop := ∃ p qs, v = .ref p ∧ f = p :: qs ∧ (p :: qs).Nodup ∧ W.G p = none ∧ W.H p = some (.lst (qs.map V.ref)) ∧ DRows K x.l qs W ∧ x.l.length ≤ sizeLine
instance : Fz (DL α) where
  own := ownDL
  keep := fun {K x v f W W'} ⟨p, qs, e, ef, nd, g, h, r, l⟩ s n k => by
    subst ef
    exact ⟨p, qs, e, rfl, nd, n p (by simp), (k p (by simp)).trans h, r.keep s (fun q hq => n q (List.mem_cons_of_mem _ hq)) fun q hq => k q (List.mem_cons_of_mem _ hq), l⟩
  foot := fun {K x v f W} ⟨p, qs, e, ef, nd, g, h, r, l⟩ b hb => by
    subst ef
    rcases List.mem_cons.mp hb with z | hb
    · subst z
      exact ⟨g, by rw [h]; exact fun z => nomatch z⟩
    · exact r.foot b hb
  fz := fun {K x v f W} ⟨p, qs, e, ef, nd, g, h, r, l⟩ => by
    subst ef
    exact ⟨p, _, e, (Wd.fz_in (by simp)).trans h, r.rep Wd.fz_sub fun q hq => Wd.fz_in (List.mem_cons_of_mem _ hq), l⟩
variable {c : Cn} {W0 : Wd} {X : WX} {As : List Sl}
theorem e_dl {te : TE} {x : DL α} (h : Exp c W0 te As (kFr c.K x)) : Exp c W0 te As (kFr c.K x.l) := exp_w h fun _ _ _ p => p
theorem r_dl {te : TE} {m : R (DL α)} (h : Exr c W0 X te As m fun x => kFr c.K x) : Exr c W0 X te As (m.bind fun x => .ok x.l) fun x => kFr c.K x := fun σ W a => by
  have h' := h σ W a
  cases m with
  | no => trivial
  | ex e => exact h'
  | ok x => exact fun W1 e Q q => h' W1 e Q fun v W2 e2 p => q v W2 e2 p
theorem e_nilD : Exp c W0 (tLst tNil) As (kNw c.K (DL.mk ([] : List (List α)))) := fun σ W a W1 e Q q =>
  ⟨Nat.zero_le _, fun p hp => q _ (W1.no p _ hp) (Le.no hp) ⟨[p], ⟨p, [], rfl, rfl, by simp, W1.sub.nope hp, upd_same, trivial, Nat.zero_le _⟩, fun a ha => by rw [List.mem_singleton.mp ha]; exact hp⟩⟩
@[irreducible] def R.appD (x : DL α) (y : List α) : R (DL α) := if x.l.length < sizeLine then .ok ⟨x.l ++ [y]⟩ else .no
variable {J S ρ : Type} {kr : ρ → Kd} {Ls : List Sl} {Js : J → List Sl} {B : Bd} {Bs : S → List Sl}
/-- xss.append(a new list) -/
theorem d_appD {pin : Option V} {te : TE} {u : TS} {xs : DL α} {m : R (List α)} {k : DL α → Out S J ρ} (i : Nat) (hi : As[i]? = some (.ow pin xs)) (lx : Lx Ls As) (h : Exr c B.W0 X te As m fun x => kNw c.K x) (hk : ∀ ys : DL α, Den c X kr Ls Js B u (As.set i (.ow pin ys)) (k ys) Bs) :
    Den c X kr Ls Js B (tSeq (tDrop (tBM c.K "list" rAppend (tVar i) (tCons te tNil))) u) As (m.to fun y => (R.appD xs y).to k) Bs := fun D σ W a f => by
  have h' := h σ W a
  obtain ⟨w, fp, hw, rw_, n0, chg⟩ := a.chg (β := DL α) (y := ⟨xs.l ++ [match m with | .ok y => y | _ => []]⟩) hi
  obtain ⟨p, qs, ew, ef, nd, g, hh, dr, l⟩ := rw_
  subst ew ef
  refine ⟨_, hw, .inl ⟨rfl, _, .inl (.inl hh)⟩, ?_⟩
  cases m with
  | no => exact False.elim f
  | ex e => exact h' W (Le.refl _) _ fun cls d W2 e2 z => f cls d σ W2 (lx_at lx (a.mono e2)) z
  | ok y =>
    refine h' W (Le.refl _) _ fun v W2 e ⟨fq, ⟨q, vs, ev, efq, gq, hq, al, ly⟩, nq⟩ => ?_
    subst ev efq
    have f' : Fin c X kr Ls Js B Bs D (R.to (if xs.l.length < sizeLine then R.ok (DL.mk (xs.l ++ [y])) else R.no) k) := by
      have f2 : Fin c X kr Ls Js B Bs D ((R.appD xs y).to k) := f
      unfold R.appD at f2
      exact f2
    have hqW : W.H q = none := nq q (by simp)
    have fW : ∀ b ∈ p :: qs, W.G b = none ∧ W.H b ≠ none := fun b hb => by
      rcases List.mem_cons.mp hb with z | hb
      · subst z; exact ⟨g, by rw [hh]; exact fun z => nomatch z⟩
      · exact dr.foot b hb
    have g2 : W2.G p = none := e.o p g (fW p (by simp)).2
    have h2 : ∀ b ∈ p :: qs, W2.H b = W.H b := fun b hb => by
      cases z : W.H b with
      | none => exact absurd z (fW b hb).2
      | some o => exact e.h _ _ z
    have qn : q ∉ p :: qs := fun z => (fW q z).2 hqW
    by_cases cz : xs.l.length < sizeLine
    · rw [if_pos cz] at f'
      refine ⟨p, qs.map V.ref, .ref q, rfl, rfl, (h2 p (by simp)).trans hh, by rw [List.length_map, ← dr.len]; exact cz, ?_⟩
      have pq : q ≠ p := fun z => qn (by rw [z]; simp)
      have a3 := chg (W2.mt p (.lst (qs.map V.ref ++ [.ref q])) g2) (p :: (qs ++ [q])) e.g (fun b hb gb nb => e.o b gb nb)
        (fun b hb nb => by
          have : b ≠ p := fun z => hb (by rw [z]; simp)
          show upd W2.H p _ b = _
          rw [upd_ne this]
          cases z : W.H b with
          | none => exact absurd z nb
          | some o => exact e.h _ _ z)
        ⟨p, qs ++ [q], rfl, rfl, by
          rw [← List.cons_append, List.nodup_append]
          exact ⟨nd, by simp, fun b hb d hd z => qn (by rw [List.mem_singleton] at hd; subst hd; subst z; exact hb)⟩, g2, by
          show upd W2.H p _ p = _
          rw [upd_same, List.map_append]
          rfl, DRows.snoc (W := W2.mt p (.lst (qs.map V.ref ++ [.ref q])) g2) ⟨gq, vs, by show upd W2.H p _ q = _; rw [upd_ne pq]; exact hq, al, ly⟩
            (dr.keep (W' := W2.mt p (.lst (qs.map V.ref ++ [.ref q])) g2) e.g (fun b hb => e.o b (fW b (List.mem_cons_of_mem _ hb)).1 (fW b (List.mem_cons_of_mem _ hb)).2) fun b hb => by
              have : b ≠ p := fun z => by rw [z] at hb; exact (List.nodup_cons.mp nd).1 hb
              show upd W2.H p _ b = _
              rw [upd_ne this]
              exact h2 b (List.mem_cons_of_mem _ hb)), by simp; omega⟩
        (fun b hb => by
          rcases List.mem_cons.mp hb with z | hb
          · exact .inl (by rw [z]; simp)
          · rcases List.mem_append.mp hb with z | z
            · exact .inl (List.mem_cons_of_mem _ z)
            · rw [List.mem_singleton.mp z]; exact .inr hqW)
      exact hk _ D _ _ a3 f'
    · rw [if_neg cz] at f'
      exact False.elim f'
end
/-! ### an owned thing goes into another one -/
section
variable {K : Frag} {W0 W W' : Wd} {As : List Sl} {σ : St} {i j : Nat}
theorem At.mv {α β γ : Type} [Ob α] [Ob β] [Ob γ] {x : α} {y : β} {z : γ} {pin pin' : Option V} (h : At K W0 As σ W) (hi : As[i]? = some (.ow pin x)) (hj : As[j]? = some (.ow pin' y)) (ij : i ≠ j) :
    ∃ v f v' f', σ[i]? = some (some v) ∧ σ[j]? = some (some v') ∧ Ob.own K x v f W ∧ Ob.own K y v' f' W ∧ (∀ a ∈ f, a ∉ f') ∧ ∀ (W' : Wd) f'', Inc W.G W'.G → (∀ a, a ∉ f → a ∉ f' → W.G a = none → W.H a ≠ none → W'.G a = none) → (∀ a, a ∉ f → a ∉ f' → W.H a ≠ none → W'.H a = W.H a) →
      Ob.own K z v f'' W' → (∀ a ∈ f'', a ∈ f ∨ a ∈ f') → At K W0 ((As.set j .un).set i (.ow pin z)) σ W' := by
  obtain ⟨l, le, F, h1, h2, h3⟩ := h
  have hl : i < σ.length := l ▸ (List.getElem?_eq_some_iff.mp hi).1
  have hl' : j < σ.length := l ▸ (List.getElem?_eq_some_iff.mp hj).1
  obtain ⟨v, e, r, pn⟩ := h1 i _ _ hi (List.getElem?_eq_getElem hl)
  obtain ⟨v', e', r', _⟩ := h1 j _ _ hj (List.getElem?_eq_getElem hl')
  refine ⟨v, F i, v', F j, by rw [List.getElem?_eq_getElem hl, e], by rw [List.getElem?_eq_getElem hl', e'], r, r', fun a ha hb => h2 i j a ij ha hb, fun W' f'' sg so sh rz hf => ?_⟩
  have inF : ∀ a ∈ f'', ∃ m, (m = i ∨ m = j) ∧ a ∈ F m := fun a ha => by
    rcases hf a ha with q | q
    · exact ⟨i, .inl rfl, q⟩
    · exact ⟨j, .inr rfl, q⟩
  have z0 : ∀ a ∈ f'', W0.H a = none := fun a ha => by
    obtain ⟨m, _, q⟩ := inF a ha
    exact (h3 m a q).2.2
  have lw : Le W0 W' := ⟨le.g.trans sg, fun a o q => by
    have n0 : W0.H a ≠ none := by rw [q]; exact fun z => nomatch z
    have w := le.h a o q
    rw [sh a (fun ha => n0 ((h3 i a ha).2.2)) (fun ha => n0 ((h3 j a ha).2.2)) (by rw [w]; exact fun z => nomatch z)]
    exact w, fun a g n => so a (fun ha => n ((h3 i a ha).2.2)) (fun ha => n ((h3 j a ha).2.2)) (le.o a g n) (fun q => n (le.h.nope q))⟩
  refine ⟨by simp [l], lw, fun m => if m = i then f'' else if m = j then [] else F m, fun m B p a b => ?_, fun m k a n ha hb => ?_, fun m a ha => ?_⟩
  · by_cases q : i = m
    · subst q
      rw [get_set_eq a]
      rw [List.getElem?_eq_getElem hl, e] at b
      cases b
      simp only [if_true]
      exact ⟨v, rfl, rz, pn⟩
    · rw [get_set_ne q] at a
      by_cases q2 : j = m
      · subst q2
        rw [get_set_eq a]
        trivial
      · rw [get_set_ne q2] at a
        dsimp only
        rw [if_neg (Ne.symm q), if_neg (Ne.symm q2)]
        have hd := h1 m B p a b
        cases B with
        | un => trivial
        | fr x => obtain ⟨v, e1, r⟩ := hd; exact ⟨v, e1, Rp.mono sg r⟩
        | ow x =>
          obtain ⟨v, e1, r, pn⟩ := hd
          exact ⟨v, e1, Ob.keep r sg (fun a ha => so a (fun z => h2 m i a (Ne.symm q) ha z) (fun z => h2 m j a (Ne.symm q2) ha z) (h3 m a ha).1 (h3 m a ha).2.1) fun a ha => sh a (fun z => h2 m i a (Ne.symm q) ha z) (fun z => h2 m j a (Ne.symm q2) ha z) (h3 m a ha).2.1, pn⟩
  · have key : ∀ {m : Nat} {a : Addr}, a ∈ (if m = i then f'' else if m = j then [] else F m) → (m = i ∧ (a ∈ F i ∨ a ∈ F j)) ∨ (m ≠ i ∧ m ≠ j ∧ a ∈ F m) := fun {m a} ha => by
      split at ha
      · rename_i c; exact .inl ⟨c, hf a ha⟩
      · split at ha
        · cases ha
        · rename_i c d; exact .inr ⟨c, d, ha⟩
    rcases key ha with ⟨e1, q⟩ | ⟨n1, n2, q⟩
    · rcases key hb with ⟨e2, q2⟩ | ⟨m1, m2, q2⟩
      · exact n (e1.trans e2.symm)
      · rcases q with q | q
        · exact h2 i k a (Ne.symm m1) q q2
        · exact h2 j k a (Ne.symm m2) q q2
    · rcases key hb with ⟨e2, q2⟩ | ⟨m1, m2, q2⟩
      · rcases q2 with q2 | q2
        · exact h2 m i a n1 q q2
        · exact h2 m j a n2 q q2
      · exact h2 m k a n q q2
  · dsimp only at ha
    split at ha
    · exact ⟨(Ob.foot rz a ha).1, (Ob.foot rz a ha).2, z0 a ha⟩
    · split at ha
      · cases ha
      · rename_i c d
        obtain ⟨g, n, z⟩ := h3 m a ha
        refine ⟨so a (fun q => h2 m i a c ha q) (fun q => h2 m j a d ha q) g n, ?_, z⟩
        rw [sh a (fun q => h2 m i a c ha q) (fun q => h2 m j a d ha q) n]
        exact n
end
section
variable {α : Type} [Rp α] {c : Cn} {W0 : Wd} {X : WX} {As : List Sl}
variable {J S ρ : Type} {kr : ρ → Kd} {Ls : List Sl} {Js : J → List Sl} {B : Bd} {Bs : S → List Sl}
/-- xss.append(a list of one's own, by its name, not used any more) -/
theorem d_appDv {pin pin' : Option V} {u : TS} {xs : DL α} {y : List α} {k : DL α → Out S J ρ} (i j : Nat) (hi : As[i]? = some (.ow pin xs)) (hj : As[j]? = some (.ow pin' y)) (ij : i ≠ j) (hk : ∀ ys : DL α, Den c X kr Ls Js B u ((As.set j .un).set i (.ow pin ys)) (k ys) Bs) :
    Den c X kr Ls Js B (tSeq (tDrop (tBM c.K "list" rAppend (tVar i) (tCons (tVar j) tNil))) u) As ((R.appD xs y).to k) Bs := fun D σ W a f => by
  obtain ⟨v, fp, v', fq, hv, hv', ⟨p, qs, ew, ef, nd, g, hh, dr, l⟩, ⟨q, vs, ev, efq, gq, hq, al, ly⟩, dj, mv⟩ := a.mv (z := DL.mk (xs.l ++ [y])) hi hj ij
  subst ew ef ev efq
  refine ⟨_, hv, .inl ⟨rfl, _, .inl (.inl hh)⟩, ?_⟩
  refine ⟨_, hv', ?_⟩
  have f' : Fin c X kr Ls Js B Bs D (R.to (if xs.l.length < sizeLine then R.ok (DL.mk (xs.l ++ [y])) else R.no) k) := by
    have f2 : Fin c X kr Ls Js B Bs D ((R.appD xs y).to k) := f
    unfold R.appD at f2
    exact f2
  have qn : q ∉ p :: qs := fun z => dj q z (by simp)
  by_cases cz : xs.l.length < sizeLine
  · rw [if_pos cz] at f'
    refine ⟨p, qs.map V.ref, .ref q, rfl, rfl, hh, by rw [List.length_map, ← dr.len]; exact cz, ?_⟩
    have pq : q ≠ p := fun z => qn (by rw [z]; simp)
    have a3 := mv (W.mt p (.lst (qs.map V.ref ++ [.ref q])) g) (p :: (qs ++ [q])) (Inc.refl _) (fun b _ _ gb _ => gb)
      (fun b hb _ nb => by
        have : b ≠ p := fun z => hb (by rw [z]; simp)
        show upd W.H p _ b = _
        rw [upd_ne this])
      ⟨p, qs ++ [q], rfl, rfl, by
        rw [← List.cons_append, List.nodup_append]
        exact ⟨nd, by simp, fun b hb d hd z => qn (by rw [List.mem_singleton] at hd; subst hd; subst z; exact hb)⟩, g, by
        show upd W.H p _ p = _
        rw [upd_same, List.map_append]
        rfl, DRows.snoc (W := W.mt p (.lst (qs.map V.ref ++ [.ref q])) g) ⟨gq, vs, by show upd W.H p _ q = _; rw [upd_ne pq]; exact hq, al, ly⟩
          (dr.keep (W' := W.mt p (.lst (qs.map V.ref ++ [.ref q])) g) (Inc.refl _) (fun b hb => (dr.foot b hb).1) fun b hb => by
            have : b ≠ p := fun z => by rw [z] at hb; exact (List.nodup_cons.mp nd).1 hb
            show upd W.H p _ b = _
            rw [upd_ne this]), by simp; omega⟩
      (fun b hb => by
        rcases List.mem_cons.mp hb with z | hb
        · exact .inl (by rw [z]; simp)
        · rcases List.mem_append.mp hb with z | z
          · exact .inl (List.mem_cons_of_mem _ z)
          · exact .inr z)
    exact hk _ D _ _ a3 f'
  · rw [if_neg cz] at f'
    exact False.elim f'
/-- xss[i].append(x), i written -/
@[irreducible] def R.appAt (x : DL α) (n : Nat) (y : α) : R (DL α) := match x.l[n]? with
  | some r => if r.length < sizeLine then .ok ⟨x.l.set n (r ++ [y])⟩ else .no
  | none => .no
theorem atI_nat {β : Type} {xs : List β} {n : Nat} {x : β} (h : xs[n]? = some x) : atI xs (n : Int) = some x := by
  obtain ⟨hl, e⟩ := List.getElem?_eq_some_iff.mp h
  rw [ixN_at]
  unfold ixN
  rw [if_pos (by omega), if_pos (by omega)]
  simpa using h
@[irreducible] def R.has (x : DL α) (n : Nat) : R Unit := if n < x.l.length then .ok () else .no
theorem d_appAt {pin : Option V} {te : TE} {u : TS} {xs : DL α} {m : R α} {k : DL α → Out S J ρ} (i n : Nat) (hi : As[i]? = some (.ow pin xs)) (lx : Lx Ls As) (h : Exr c B.W0 X te As m fun x => kFr c.K x) (hk : ∀ ys : DL α, Den c X kr Ls Js B u (As.set i (.ow pin ys)) (k ys) Bs) :
    Den c X kr Ls Js B (tSeq (tDrop (tBM c.K "list" rAppend (tOp (rIxL c.K) (tVar i) (tC (.int (n : Nat)))) (tCons te tNil))) u) As ((R.has xs n).to fun _ => m.to fun y => (R.appAt xs n y).to k) Bs := fun D σ W a f => by
  have h' := h σ W a
  cases hx : xs.l[n]? with
  | none =>
    have e : R.has xs n = .no := by
      unfold R.has
      exact if_neg (by have := List.getElem?_eq_none_iff.mp hx; omega)
    rw [e] at f
    exact False.elim f
  | some r =>
    have e0 : R.has xs n = .ok () := by
      unfold R.has
      exact if_pos (List.getElem?_eq_some_iff.mp hx).1
    rw [e0] at f
    obtain ⟨w, fp, hw, ⟨p, qs, ew, ef, nd, g, hh, dr, l⟩, n0, _⟩ := a.chg (β := DL α) (y := xs) hi
    subst ew ef
    obtain ⟨q, hq, gq, vs, hvs, al, lr⟩ := dr.get hx
    refine ⟨_, hw, p, qs.map V.ref, n, .ref q, rfl, rfl, .inl (.inl hh), atI_nat (by rw [List.getElem?_map, hq]; rfl), .inl ⟨rfl, vs, .inl (.inl hvs)⟩, ?_⟩
    cases m with
    | no => exact False.elim f
    | ex e => exact h' W (Le.refl _) _ fun cls d W2 e2 z => f cls d σ W2 (lx_at lx (a.mono e2)) z
    | ok y =>
      refine h' W (Le.refl _) _ fun v W2 e rv => ?_
      have f' : Fin c X kr Ls Js B Bs D (R.to (if r.length < sizeLine then R.ok (DL.mk (xs.l.set n (r ++ [y]))) else R.no) k) := by
        have f2 : Fin c X kr Ls Js B Bs D ((R.appAt xs n y).to k) := f
        unfold R.appAt at f2
        rw [hx] at f2
        exact f2
      have gq2 : W2.G q = none := e.o q gq (by rw [hvs]; exact fun z => nomatch z)
      by_cases cz : r.length < sizeLine
      · rw [if_pos cz] at f'
        refine ⟨q, vs, v, rfl, rfl, e.h _ _ hvs, al.1 ▸ cz, ?_⟩
        obtain ⟨w', fp', hw', ⟨p', qs', ep, ef', nd', g', hh', dr', l'⟩, n0', chg'⟩ := (a.mono e).chg (β := DL α) (y := ⟨xs.l.set n (r ++ [y])⟩) hi
        rw [hw] at hw'
        cases hw'
        cases ep
        subst ef'
        have eqs : qs' = qs := by
          rw [e.h _ _ hh] at hh'
          have hh2 : qs.map V.ref = qs'.map V.ref := by
            injection hh' with hh'
            injection hh'
          have inj : ∀ a b : List Addr, a.map V.ref = b.map V.ref → a = b := fun a => by
            induction a with
            | nil => intro b h; cases b with
              | nil => rfl
              | cons => simp at h
            | cons x a ih => intro b h; cases b with
              | nil => simp at h
              | cons y b =>
                rw [List.map_cons, List.map_cons] at h
                injection h with h1 h2
                injection h1 with h1
                rw [h1, ih b h2]
          exact (inj _ _ hh2).symm
        subst eqs
        have pq : p ≠ q := fun z => (List.nodup_cons.mp nd').1 (by rw [z]; exact List.mem_of_getElem? hq)
        have a3 := chg' (W2.mt q (.lst (vs ++ [v])) gq2) (p :: qs') (Inc.refl _) (fun b _ hb _ => hb)
          (fun b hb nb => by
            have : b ≠ q := fun z => hb (by rw [z]; exact List.mem_cons_of_mem _ (List.mem_of_getElem? hq))
            show upd W2.H q _ b = _
            rw [upd_ne this])
          ⟨p, qs', rfl, rfl, nd', g', by
            show upd W2.H q _ p = _
            rw [upd_ne pq]
            exact hh', DRows.put (W := W2) (W' := W2.mt q (.lst (vs ++ [v])) gq2) ⟨gq2, vs ++ [v], upd_same, (al_mono al e.g).app (Al.one rv), by simp; omega⟩ (Inc.refl _) (fun b hb gb _ => ⟨gb, by show upd W2.H q _ b = _; rw [upd_ne hb]⟩) dr' hq (List.nodup_cons.mp nd').2, by rw [List.length_set]; exact l'⟩
          (fun b hb => .inl hb)
        exact hk _ D _ _ a3 f'
      · rw [if_neg cz] at f'
        exact False.elim f'
end
end Fw

namespace Fw
open PySem L2
section
variable {K : Frag} {W0 W : Wd} {As : List Sl} {σ : St} {i : Nat}
theorem At.repin {α : Type} [Ob α] {x : α} {pin pin' : Option V} {v : V} (h : At K W0 As σ W) (hi : As[i]? = some (.ow pin x)) (hv : σ[i]? = some (some v)) (hp : ∀ u, pin' = some u → v = u) : At K W0 (As.set i (.ow pin' x)) σ W := by
  obtain ⟨l, le, F, h1, h2, h3⟩ := h
  refine ⟨by simp [l], le, F, fun j B o a b => ?_, h2, h3⟩
  by_cases q : i = j
  · subst q
    rw [get_set_eq a]
    obtain ⟨w, e, r, _⟩ := h1 i _ o hi b
    rw [hv] at b
    cases b
    cases e
    exact ⟨v, rfl, r, hp⟩
  · rw [get_set_ne q] at a
    exact h1 j B o a b
end
section
variable {J S T ρ α : Type} {c : Cn} {X : WX} {kr : ρ → Kd} {Ls : List Sl} {Js : J → List Sl} {B : Bd} {As : List Sl} {Cs : T → List Sl} {Bs' : S → List Sl}
theorem d_unpin {β : Type} [Ob β] {pin : Option V} {x : β} {t : TS} {m : Out S J ρ} (i : Nat) (hi : As[i]? = some (.ow pin x)) (h : Den c X kr Ls Js B t (As.set i (.ow none x)) m Bs') : Den c X kr Ls Js B t As m Bs' := fun D σ W a f => by
  obtain ⟨v, fp, hv, _⟩ := a.varO hi
  exact h D σ W (a.repin hi hv fun u e => nomatch e) f
/-- for x in xs, xs one's own and left as it is -/
theorem d_forO [Rp α] {pin : Option V} {xs : List α} {g : TG} {tb u : TS} {s0 : S} {Bs : V → S → List Sl} {Ts : V → S → α → List Sl} {f : S → α → Out S S ρ} {kk : S → Out T J ρ} (i : Nat) (hi : As[i]? = some (.ow pin xs)) (hB : ∀ v s, (Bs v s)[i]? = some (.ow (some v) xs)) (w : ∀ v, Wk (As.set i (.ow (some v) xs)) (Bs v s0))
    (hg : ∀ v s (W1 : Wd), Tg c W1 g (Bs v s) (fun x : α => kFr c.K x) (Ts v s)) (hb : ∀ v s x B', Den c X kr Ls (Bs v) B' tb (Ts v s x) (f s x) (Bs v)) (hk : ∀ v s, Den c X kr Ls Js B u (Bs v s) (kk s) Cs) :
    Den c X kr Ls Js B (tSeq (tFor (iList c.K (tVar i)) g tb) u) As ((R.ok xs).to fun l => (forL l s0 f).bind kk) Cs := fun D σ W a fn => by
  obtain ⟨v, fp, hv, ⟨p, vs, ev, ef, gp, hp, al, l⟩, _⟩ := a.varO hi
  have ap : At c.K B.W0 (As.set i (.ow (some v) xs)) σ W := a.repin hi hv fun u e => (Option.some.inj e)
  have a2 : At c.K B.W0 (Bs v s0) σ W := ap.wk (w v)
  let Wb := B.W0.rb W a2.le
  have eb : Le B.W0 Wb := Le.rb0 a2.le
  have fin0 : Fin c X kr Ls Js B (Bs v) { D with nx := u D } (forL xs s0 f) := by
    have fn' : Fin c X kr Ls Js B Cs D ((forL xs s0 f).bind kk) := fn
    revert fn'
    generalize (forL xs s0 f : Out S J ρ) = o
    intro fn'
    cases o with
    | nx s => exact fun σ' W' a' => hk v s D σ' W' a' fn'
    | _ => exact fn'
  subst ev
  refine ⟨.ref p, hv, p, rfl, ⟨vs, .inl (.inl hp)⟩, ?_⟩
  refine ⟨fun i n σ H => ∃ (Wd' : Wd) (s : S), H = Wd'.H ∧ At c.K Wb (Bs (.ref p) s) σ Wd' ∧ n = xs.length - i ∧ i ≤ xs.length ∧ Fin c X kr Ls Js B (Bs (.ref p)) { D with nx := u D } (forL (xs.drop i) s f), ⟨xs.length, W, s0, rfl, a2.rb, by simp, Nat.zero_le _, fin0⟩, ?_⟩
  rintro j n σ H ⟨Wi, s, rfl, ai, rfl, il, fi⟩
  obtain ⟨v', fp', hv', ⟨p', vs', ev', ef', gp', hp', al', l'⟩, pn'⟩ := ai.varO (hB (.ref p) s)
  have e1 := pn'.1 _ rfl
  rw [ev'] at e1
  cases e1
  have hs : SqL c.K Wi.H p vs' := .inl (.inl hp')
  by_cases ci : j = xs.length
  · refine .inl ⟨⟨vs', hs, by rw [← al'.1]; omega⟩, ?_⟩
    rw [ci, List.drop_length] at fi
    exact fi σ Wi (ai.re eb)
  · have hx : xs[j]? = some (xs[j]'(by omega)) := List.getElem?_eq_getElem (by omega)
    obtain ⟨y, hy, ry⟩ := al'.get hx
    rw [drop_cons hx] at fi
    refine .inr ⟨⟨vs', y, hs, hy⟩, fun σ' H' => ∃ (Wd' : Wd) (s : S), H' = Wd'.H ∧ At c.K Wb (Bs (.ref p) s) σ' Wd' ∧ Fin c X kr Ls Js B (Bs (.ref p)) { D with nx := u D } (forL (xs.drop (j + 1)) s f), fun σ' H' ⟨W', s', e1, e2', e3⟩ => ⟨xs.length - (j + 1), by omega, W', s', e1, e2', rfl, by omega, e3⟩, fun v2 H' ⟨eh, kv⟩ => ?_⟩
    subst eh
    have e5 := kv vs' hs
    rw [hy] at e5
    cases e5
    refine hg _ s Wb _ σ Wi Wi y ai ry _ fun σ2 a2' => ?_
    refine hb _ s _ (B.re Wb eb) _ σ2 Wi a2' ?_
    have fi' : Fin c X kr Ls Js B (Bs (.ref p)) { D with nx := u D } (match f s (xs[j]'(by omega)) with
      | .nx s' => forL (xs.drop (j + 1)) s' f
      | .ct s' => forL (xs.drop (j + 1)) s' f
      | .bk s' => .nx s'
      | .rt r => .rt r
      | .ex e => .ex e
      | .no => .no) := fi
    revert fi'
    generalize f s (xs[j]'(by omega)) = o
    intro fi'
    cases o with
    | nx s' => exact fun σ3 W3 a3 => ⟨W3, s', rfl, a3, fi'⟩
    | ct s' => exact fun σ3 W3 a3 => ⟨W3, s', rfl, a3, fi'⟩
    | bk s' => exact fun σ3 W3 a3 => fi' σ3 W3 (a3.re eb)
    | rt r => exact fun v W3 l p => fi' v W3 (eb.trans l) p
    | ex e => exact fi'
    | no => exact fi'
end
end Fw

namespace Fw
open PySem L2
section
variable {X : Cx} {o e : Expr} {to te : TE}
theorem pe_joinK {K : Frag} {apos pos : Pos} (hK : X.K = K) (ho : PE X o to) (he : PE X e te) (hs : starEach [e] X.env = [(false, eval e X.env)] := by rfl) (hbase : attributeBase o "join" X.env (eval o X.env) = eval o X.env := by rfl) (hline : (apos.endLine == pos.line) = true := by rfl) :
    PE X (.Call (.Attribute o "join" apos) [e] [] pos) (tM1 (rJoin K) to te) := by
  subst hK
  exact pe_join ho he hs hbase hline
end
end Fw

namespace Fw
open PySem L2
section
variable {α : Type} [Rp α] {c : Cn} {W0 : Wd} {X : WX} {As : List Sl} {K : Frag}
/-! ### t[a:b] of a tuple -/
theorem r_slTu {te : TE} {tl th : TO} {m : R (Tup α)} {a b : R (Option Int)} (h : Exr c W0 X te As m fun x => kFr c.K x) (ha : Opo c W0 X tl As a) (hb : Opo c W0 X th As b) :
    Exr c W0 X (tSl (rSlA c.K) te tl th) As (m.bind fun xs => a.bind fun lo => b.bind fun hi => .ok (Tup.mk (sl xs.l lo hi))) fun ys => kFr c.K ys := fun σ W at_ => by
  have h' := h σ W at_
  have ha' := ha σ W at_
  have hb' := hb σ W at_
  cases m with
  | no => trivial
  | ex e => exact fun W1 e1 Q q => h' W1 e1 _ q
  | ok xs =>
    cases a with
    | no => trivial
    | ex e => exact fun W1 e1 Q q => h' W1 e1 _ fun v W2 e2 p => ha' W2 (e1.trans e2) _ fun cls d W3 e3 z => q cls d W3 (e2.trans e3) z
    | ok lo =>
      cases b with
      | no => trivial
      | ex e => exact fun W1 e1 Q q => h' W1 e1 _ fun v W2 e2 p => ha' W2 (e1.trans e2) _ fun W3 e3 => hb' W3 (e1.trans (e2.trans e3)) _ fun cls d W4 e4 z => q cls d W4 (e2.trans (e3.trans e4)) z
      | ok hi =>
        refine fun W1 e1 Q q => h' W1 e1 _ fun v W2 e2 ⟨p, vs, ev, hs, al, l⟩ => ha' W2 (e1.trans e2) _ fun W3 e3 => hb' W3 (e1.trans (e2.trans e3)) _ fun W4 e4 => ⟨p, vs, ev, W4.sub.sqt ((e3.trans e4).g.sqt hs), fun hw => ?_, fun _ b hb => ?_⟩
        · subst ev
          refine q _ W4 (e2.trans (e3.trans e4)) ⟨p, vs, rfl, (e3.trans e4).g.sqt hs, ?_, Nat.le_trans (sl_len xs.l lo hi) l⟩
          have e : sl xs.l lo hi = xs.l := by
            unfold sl
            rw [al.1, hw.1, hw.2, List.drop_zero, Nat.sub_zero, List.take_of_length_le (by rw [al.1]; exact Nat.le_refl _)]
          dsimp only
          rw [e]
          exact al_mono al (e3.trans e4).g
        · refine q _ (W4.nf b _) ((e2.trans (e3.trans e4)).trans (Le.nf hb)) ⟨b, _, rfl, .inl (.inl upd_same), ?_, Nat.le_trans (sl_len xs.l lo hi) l⟩
          refine al_mono ?_ (Le.nf hb).g
          unfold sl cutV
          rw [← al.1]
          exact ((al_mono al (e3.trans e4).g).drop _).take _
/-! ### t + u -/
@[irreducible] def R.catT (x y : Tup α) : R (Tup α) := if x.l.length + y.l.length ≤ sizeLine then .ok ⟨x.l ++ y.l⟩ else .no
theorem o_catT : Op2 (rCatA K) (fun x : Tup α => kFr K x) (fun x : Tup α => kFr K x) R.catT (fun x : Tup α => kFr K x) := fun x y => by
  unfold R.catT
  by_cases hz : x.l.length + y.l.length ≤ sizeLine
  · rw [if_pos hz]
    intro W0 W v w ⟨p, vs, ev, hs, al, l⟩ ⟨p2, vs2, ev2, hs2, al2, l2⟩ Q q
    subst ev ev2
    refine ⟨p, p2, vs, vs2, rfl, rfl, W.sub.sqt hs, W.sub.sqt hs2, by rw [← al.1, ← al2.1]; exact hz, fun e => ?_, fun _ e => ?_, fun _ _ b hb => ?_⟩
    · refine q _ W (Le.refl _) ⟨p2, vs2, rfl, hs2, ?_, by rw [List.length_append]; exact hz⟩
      have : x.l = [] := List.eq_nil_of_length_eq_zero (by rw [al.1, e]; rfl)
      dsimp only
      rw [this]
      exact al2
    · refine q _ W (Le.refl _) ⟨p, vs, rfl, hs, ?_, by rw [List.length_append]; exact hz⟩
      have : y.l = [] := List.eq_nil_of_length_eq_zero (by rw [al2.1, e]; rfl)
      dsimp only
      rw [this, List.append_nil]
      exact al
    · exact q _ (W.nf b _) (Le.nf hb) ⟨b, _, rfl, .inl (.inl upd_same), al_mono (al.app al2) (Le.nf hb).g, by rw [List.length_append]; exact hz⟩
  · rw [if_neg hz]
    trivial
/-! ### tuple(range(n)) -/
theorem al_rg (n : Int) : Al (fun (x : Int) v => Rp.rep K x v (fun _ => none)) (rng 0 n) (rgV 0 n) := ⟨by rw [rng_len, rgV_length], fun i x v h1 h2 => by
  obtain ⟨h3, h4⟩ := rng_get h1
  unfold rgV at h2
  rw [List.getElem?_map, List.getElem?_range h3] at h2
  cases h2
  rw [h4]
  rfl⟩
theorem r_tupRg {te : TE} {m : R Int} (h : Exr c W0 X te As m fun x => kFr c.K x) : Exr c W0 X (tTupRg (tRg1 te)) As ((m.bind fun n => R.rng 0 n).bind fun l => .ok (Tup.mk l)) fun x => kFr c.K x := fun σ W a => by
  have h' := h σ W a
  cases m with
  | no => trivial
  | ex e => exact fun W1 e1 Q q => h' W1 e1 _ q
  | ok n =>
    show SatR ((R.rng 0 n).bind fun l => .ok (Tup.mk l)) _ _
    unfold R.rng
    split
    · rename_i z
      refine fun W1 e1 Q q => h' W1 e1 _ fun v W2 e2 r => ⟨n, (show v = .int n from r), ⟨by omega, by omega, by omega, by omega, by omega⟩, fun b hb => ?_⟩
      refine q _ (W2.nf b _) (e2.trans (Le.nf hb)) ⟨b, _, rfl, .inl (.inl upd_same), (al_rg (K := c.K) n).imp fun _ _ r => r, ?_⟩
      show (rng 0 n).length ≤ sizeLine
      rw [rng_len, sizeLine_eq]
      omega
    · trivial
/-! ### reversed(range(n)) -/
theorem i_revRg {te : TE} {m : R Int} (h : Exr c W0 X te As m fun x => kFr c.K x) : Ixr c W0 X (iRevR (tRg1 te)) As ((m.bind fun n => R.rng 0 n).bind fun l => .ok l.reverse) fun x => kFr c.K x := fun σ W a => by
  have h' := h σ W a
  cases m with
  | no => trivial
  | ex e => exact fun W1 e1 Q q => h' W1 e1 _ q
  | ok n =>
    show SatR ((R.rng 0 n).bind fun l => .ok l.reverse) _ _
    unfold R.rng
    split
    · rename_i z
      refine fun W1 e1 Q q => h' W1 e1 _ fun v W2 e2 r => ⟨n, (show v = .int n from r), by omega, by omega, by omega, by omega, q _ W2 e2 fun i W g => ?_⟩
      refine ⟨fun hi => by rw [List.length_reverse, rng_len] at hi; exact hi, fun x hx => ?_⟩
      have hi : i < (rng 0 n).length := by rw [← List.length_reverse]; exact (List.getElem?_eq_some_iff.mp hx).1
      rw [List.getElem?_reverse hi] at hx
      obtain ⟨h1, h2⟩ := rng_get hx
      rw [rng_len] at hi h2
      refine ⟨hi, fun v H' ⟨eh, ev⟩ => ⟨W, eh.symm, Le.refl _, ?_⟩⟩
      rw [ev, h2]
      show V.int _ = V.int _
      congr 1
      omega
    · trivial
end
section
variable {c : Cn} {W0 : Wd} {X : WX} {As : List Sl} {K : Frag}
/-! ### range(a, b, d), d written, above 0 -/
def rngC (lo hi d : Int) : List Int := (List.range ((hi - lo + d - 1) / d).toNat).map fun i => lo + (i : Nat) * d
@[irreducible] def R.rngC (lo hi d : Int) : R (List Int) := if 0 < d ∧ d ≤ 1000 ∧ 0 ≤ lo ∧ lo ≤ 16777216 ∧ 0 ≤ hi ∧ hi ≤ 16777216 then .ok (Fw.rngC lo hi d) else .no
end
end Fw

namespace Fw
open PySem L2
section
variable {K : Frag}
/-! ### great ints -/
instance : DecidableRel CDivW := fun i j => inferInstanceAs (Decidable (_ ∧ _))
instance : DecidableRel CMulW := fun i j => inferInstanceAs (Decidable (_ < _))
@[irreducible] def R.fdivW (x y : Int) : R Int := if 0 < y ∧ y.natAbs.log2 < 9000 then .ok (x / y) else .no
@[irreducible] def R.mulW (x y : Int) : R Int := if x.natAbs.log2 + y.natAbs.log2 < 1000000 then .ok (x * y) else .no
theorem o_fdivW : Op2 (rI CDivW fun i j => .int (i / j)) (fun x : Int => kFr K x) (fun x : Int => kFr K x) R.fdivW (fun z : Int => kFr K z) := o_of fun x y => by unfold R.fdivW; rfl
theorem o_mulW : Op2 (rI CMulW fun i j => .int (i * j)) (fun x : Int => kFr K x) (fun x : Int => kFr K x) R.mulW (fun z : Int => kFr K z) := o_of fun x y => by unfold R.mulW; rfl
end
end Fw

namespace Fw
open PySem L2
section
variable {c : Cn} {W0 : Wd} {X : WX} {As : List Sl} {K : Frag}
/-! ### range(a, b, d) -/
theorem gives_rngC (lo d : Int) (n : Nat) (G : Hp) : Gives (Itc lo d n) G ((List.range n).map fun i => lo + (i : Nat) * d) fun x => kFr c.K x := fun i W g => by
  refine ⟨fun hi' => (show n ≤ i by simpa using hi'), fun x hx => ?_⟩
  rw [List.getElem?_map] at hx
  by_cases q : i < n
  · rw [List.getElem?_range q] at hx
    refine ⟨q, fun v H' ⟨eh, ev⟩ => ⟨W, eh.symm, Le.refl _, ?_⟩⟩
    rw [← (Option.some.inj hx : lo + (i : Nat) * d = x)]
    exact ev
  · rw [List.getElem?_eq_none (by simp; omega)] at hx
    cases hx
theorem rgC_of {lo hi d : Int} (h : 0 < d ∧ d ≤ 1000 ∧ 0 ≤ lo ∧ lo ≤ 16777216 ∧ 0 ≤ hi ∧ hi ≤ 16777216) : RgC lo hi d ((hi - lo + d - 1) / d).toNat := by
  obtain ⟨h1, h2, h3, h4, h5, h6⟩ := h
  have sz : Builtin.Range.rangeSize lo hi d = ((hi - lo + d - 1) / d).toNat := by
    unfold Builtin.Range.rangeSize
    rw [if_pos h1]
    by_cases c : lo < hi
    · rw [if_pos c]
      have e : hi - lo + d - 1 = (hi - lo - 1) + d := by omega
      rw [e, Int.add_ediv_of_dvd_right (Int.dvd_refl d), Int.ediv_self (by omega)]
      have : 0 ≤ (hi - lo - 1) / d := Int.ediv_nonneg (by omega) (by omega)
      omega
    · rw [if_neg c]
      have : (hi - lo + d - 1) / d ≤ 0 := by
        have h := Int.ediv_le_ediv h1 (show hi - lo + d - 1 ≤ d - 1 by omega)
        rw [Int.ediv_eq_zero_of_lt (by omega : (0 : Int) ≤ d - 1) (by omega)] at h
        exact h
      omega
  have up : (hi - lo + d - 1) / d ≤ hi + d := by
    refine Int.le_trans (Int.ediv_le_ediv h1 (show hi - lo + d - 1 ≤ hi + d by omega)) ?_
    exact Int.ediv_le_self _ (by omega)
  refine ⟨by omega, by omega, ?_, sz⟩
  unfold Builtin.Range.small
  rw [sz]
  simp only [Builtin.Range.rangeFitsLong, Bool.and_eq_true, Bool.or_eq_true, decide_eq_true_eq, beq_iff_eq, show (d > 0) = True from eq_true h1, if_true]
  have q1 : (((hi - lo + d - 1) / d).toNat : Int) ≤ 16778216 := by omega
  have q2 : (0 : Int) ≤ (((hi - lo + d - 1) / d).toNat : Int) := by omega
  refine ⟨⟨⟨⟨?_, ?_⟩, ?_⟩, ?_⟩, ?_⟩ <;> first | omega | (right; omega) | trace_state
theorem i_rng3 {te tf tg : TE} {m n : R Int} {d : Int} (h : Exr c W0 X te As m fun x => kFr c.K x) (h2 : Exr c W0 X tf As n fun x => kFr c.K x) (h3 : Exp c W0 tg As (kFr c.K d)) : Ixr c W0 X (iRng3 (tCons te (tCons tf (tCons tg tNil)))) As (m.bind fun a => n.bind fun b => R.rngC a b d) fun x => kFr c.K x := fun σ W a => by
  have h' := h σ W a
  have h2' := h2 σ W a
  have h3' := h3 σ W a
  cases m with
  | no => trivial
  | ex e => exact fun W1 e1 Q q => h' W1 e1 _ q
  | ok lo =>
    cases n with
    | no => trivial
    | ex e => exact fun W1 e1 Q q => h' W1 e1 _ fun v W2 e2 r => h2' W2 (e1.trans e2) _ fun cls d W3 e3 z => q cls d W3 (e2.trans e3) z
    | ok hi =>
      show SatR (R.rngC lo hi d) _ _
      unfold R.rngC
      split
      · rename_i z
        refine fun W1 e1 Q q => h' W1 e1 _ fun v W2 e2 r => h2' W2 (e1.trans e2) _ fun u W3 e3 r2 => h3' W3 (e1.trans (e2.trans e3)) _ fun t W4 e4 r3 => ⟨lo, hi, d, _, by rw [show v = .int lo from r, show u = .int hi from r2, show t = .int d from r3], rgC_of z, q _ W4 (e2.trans (e3.trans e4)) (gives_rngC (c := c) lo d _ W4.G)⟩
      · trivial
/-! ### {k: v, ..}, the keys ints -/
def PrsI {α : Type} [Rp α] (c : Cn) (W0 : Wd) (trs : List (TE × TE)) (As : List Sl) (ks : List (Int × α)) : Prop := ∀ σ W, At c.K W0 As σ W → ∀ W1, Le W W1 → ∀ Q, (∀ ps q W2, Le W1 W2 → ps = q.map (fun kv : Int × V => (V.int kv.1, kv.2)) → DR c.K ks q W2.G → Q ps W2.H) → tPairs trs σ W1.H Q
theorem pr_nil {α : Type} [Rp α] : PrsI c W0 [] As ([] : List (Int × α)) := fun σ W a W1 e Q q => q [] [] W1 (Le.refl _) rfl trivial
theorem pr_cons {α : Type} [Rp α] {te tf : TE} {trs : List (TE × TE)} {k : Int} {v : α} {ks : List (Int × α)} (hk : Exp c W0 te As (kFr c.K k)) (hv : Exp c W0 tf As (kFr c.K v)) (t : PrsI c W0 trs As ks) : PrsI c W0 ((te, tf) :: trs) As ((k, v) :: ks) := fun σ W a W1 e Q q =>
  hk σ W a W1 e _ fun x W2 e2 r => hv σ W a W2 (e.trans e2) _ fun u W3 e3 r2 => t σ W a W3 (e.trans (e2.trans e3)) _ fun ps q' W4 e4 ep dr =>
    q _ ((k, u) :: q') W4 (e2.trans (e3.trans e4)) (by rw [ep, List.map_cons, show x = V.int k from r]) ⟨rfl, Rp.mono e4.g r2, dr⟩
theorem dr_merge {α : Type} [Rp α] {G : Hp} : ∀ {x : List (Int × α)} {q : List (Int × V)} {a : List (Int × α)} {b : List (Int × V)}, DR K x q G → DR K a b G → DR K (x.foldl (fun acc p => dput acc p.1 p.2) a) (q.foldl (fun acc p => putK acc p.1 p.2) b) G
  | [], [], _, _, _, h => h
  | p :: x, r :: q, _, _, h, h2 => by
    rw [List.foldl_cons, List.foldl_cons, ← h.1]
    exact dr_merge h.2.2 (h2.put h.2.1)
  | [], _ :: _, _, _, h, _ => h.elim
  | _ :: _, [], _, _, h, _ => h.elim
theorem mergeK_kI : ∀ (q acc : List (Int × V)), mergeK (acc.map fun p => (kI p.1, p.2)) (q.map fun p => (kI p.1, p.2)) = (q.foldl (fun acc p => putK acc p.1 p.2) acc).map fun p => (kI p.1, p.2)
  | [], acc => rfl
  | p :: q, acc => by
    rw [List.map_cons, List.foldl_cons]
    unfold mergeK
    rw [List.foldl_cons, putK_inj kI_inj]
    exact mergeK_kI q _
theorem e_dispI {α : Type} [Rp α] {trs : List (TE × TE)} {ks : List (Int × α)} (h : PrsI c W0 trs As ks) (l : ks.length ≤ 15) : Exp c W0 (tDisp trs) As (kNw c.K (Dk.mk (dmerge ks))) := fun σ W a W1 e Q q => fun p hp => by
  refine h σ W a (W1.no p _ hp) (e.trans (Le.no hp)) _ fun ps qs W2 e2 ep dr => ?_
  have hH : W2.H p = some (.dK []) := e2.h p _ upd_same
  have hG : W2.G p = none := e2.o p (W1.sub.nope hp) (by show upd _ _ _ _ ≠ none; rw [upd_same]; exact fun z => nomatch z)
  refine ⟨hH, qs.map fun p => (kI p.1, p.2), ?_, by rw [List.length_map, ← dr.len]; exact l, ?_⟩
  · rw [ep, List.map_map]; rfl
  · have em := mergeK_kI qs []
    rw [List.map_nil] at em
    rw [em]
    have d2 := dr_merge dr (show DR c.K ([] : List (Int × α)) [] W2.G from trivial)
    have lw : Le W1 (W2.mt p (DKy.ho (qs.foldl (fun acc p => putK acc p.1 p.2) [])) hG) := ((Le.no hp).trans e2).mt hG hp
    refine q _ _ lw ⟨[p], ⟨p, _, rfl, rfl, hG, upd_same, d2, ?_⟩, fun b hb => by rw [List.mem_singleton.mp hb]; exact hp⟩
    have := dmerge_len ks ([] : List (Int × α))
    have h15 : (15 : Nat) ≤ sizeLine := by rw [sizeLine_eq]; decide
    show (dmerge ks).length ≤ sizeLine
    unfold dmerge
    simp only [List.length_nil, Nat.zero_add] at this
    omega
end
/-! ### lengths of tuples of three and four -/
section
variable {K : Frag} {α β γ δ : Type} [Rp α] [Rp β] [Rp γ] [Rp δ]
theorem o_len3 : OpA (rLen K) (fun z : T3 α β γ × Unit => aCons (kFr K z.1) aNil) (fun z => .ok (3 : Int)) (fun n : Int => kFr K n) := fun z W0 W vs ⟨v, r, e, ⟨p, x1, x2, x3, ev, hs, _⟩, en⟩ Q q => by
  subst e ev en
  exact ⟨p, [x1, x2, x3], rfl, .inr (W.sub.sqt hs), q _ W (Le.refl _) rfl⟩
theorem o_len4 : OpA (rLen K) (fun z : T4 α β γ δ × Unit => aCons (kFr K z.1) aNil) (fun z => .ok (4 : Int)) (fun n : Int => kFr K n) := fun z W0 W vs ⟨v, r, e, ⟨p, x1, x2, x3, x4, ev, hs, _⟩, en⟩ Q q => by
  subst e ev en
  exact ⟨p, [x1, x2, x3, x4], rfl, .inr (W.sub.sqt hs), q _ W (Le.refl _) rfl⟩
theorem o_len2 : OpA (rLen K) (fun z : (α × β) × Unit => aCons (kFr K z.1) aNil) (fun z => .ok (2 : Int)) (fun n : Int => kFr K n) := fun z W0 W vs ⟨v, r, e, ⟨p, x1, x2, ev, hs, _⟩, en⟩ Q q => by
  subst e ev en
  exact ⟨p, [x1, x2], rfl, .inr (W.sub.sqt hs), q _ W (Le.refl _) rfl⟩
end
end Fw

namespace Fw
open PySem L2 PySem.Spec
open PyProof.Rows hiding St
/-! ### a caught exception that is kept -/
def exN (a C : Addr) (d : Option Addr) : HO := .ext fun h => ∃ (oe : Obj) (vs : Array Value), h.get? a = some oe ∧ oe.cls = .ref C ∧ oe.dict = d ∧ oe.data = .fields vs
theorem exN_ok {P : Program} {w : World} {H : Hp} {h : Heap} {a C : Addr} {d : Option Addr} {oe : Obj} {vs : Array Value} (he : h.get? a = some oe) (h1 : oe.cls = .ref C) (h2 : oe.dict = d) (h3 : oe.data = .fields vs) : ObjOk P w H h a (exN a C d) :=
  ⟨⟨oe, vs, he, h1, h2, h3⟩, ⟨_, he⟩, fun _ _ ⟨oe, vs, e, r⟩ k => ⟨oe, vs, k _ e, r⟩⟩
theorem exN_at {P : Program} {w : World} {H : Hp} {h : Heap} {a C : Addr} {d : Option Addr} (hok : HOk P w H h) (he : H a = some (exN a C d)) : ∃ (oe : Obj) (vs : Array Value), h.get? a = some oe ∧ oe.cls = .ref C ∧ oe.dict = d ∧ oe.data = .fields vs := by
  have x : ObjOk P w H h a (.ext fun h => ∃ (oe : Obj) (vs : Array Value), h.get? a = some oe ∧ oe.cls = .ref C ∧ oe.dict = d ∧ oe.data = .fields vs) := hok a _ he
  exact x.1
section
variable {X : Cx} {pins : List (Addr × Obj)} {σ : St} {H : Hp} {sI s s' : Shared} {B : Heap} {W : WX} {E : XK}
/-- back on the ground, the exception tracked from now on -/
theorem landedN (I : Inv X pins σ H sI) (nb : ∀ b o, sI.heap.get? b = some o → b ∉ frs X.stack → B.get? b = some o) (st : B.StaysIn s'.heap) (up : sI.heap.UpToSlots s'.heap) (os : s'.os = sI.os) (ag : AllBare s'.gens)
    {a C : Addr} {d : Option Addr} {oe : Obj} {vs : Array Value} (na : H a = none) (hn : B.get? a = none) (nf' : a ∉ frs X.stack) (he : s'.heap.get? a = some oe) (h1 : oe.cls = .ref C) (h2 : oe.dict = d) (h3 : oe.data = .fields vs) : Inv X pins σ (upd H a (exN a C d)) s' := by
  have nf : ∀ b ∈ frs X.stack, ∀ o, sI.heap.get? b = some o → ∃ sl, s'.heap.get? b = some { o with slots := sl } := fun b hb o e => by
    obtain ⟨_, o', e', hd⟩ := I.stack.mem hb
    rw [e] at e'; cases e'
    exact up b o e hd
  have nva : ∀ b o, sI.heap.get? b = some o → b ≠ a := fun b o e z => by
    subst z
    rw [nb b o e nf'] at hn
    cases hn
  have hok : HOk X.prog X.w (upd H a (exN a C d)) s'.heap := fun b o q => by
    by_cases hb : b = a
    · subst hb
      rw [upd_same] at q
      cases q
      exact exN_ok he h1 h2 h3
    · rw [upd_ne hb] at q
      exact ((I.inGround nb).kept st b o q).stay (fun _ _ _ z => z) (fun c hc => by rw [upd_ne (ne_of_none hc na)]; exact hc) (fun c xs hc => by rw [upd_ne (ne_of_none hc na)]; exact hc)
  have J := I.call (ch := []) (h' := s'.heap) (g' := s'.gens) (t' := s'.toks) (d' := s'.drawn) (H' := upd H a (exN a C d))
    ⟨fun b o e _ hb _ => st b o (nb b o e hb), fun b o e _ hb _ => nf b hb o e, fun b o e n _ => by rw [upd_ne (nva b o e)]; exact n, fun b o e _ => by
      by_cases hb : b ∈ frs X.stack
      · obtain ⟨sl, q⟩ := nf b hb o e
        exact ⟨_, q⟩
      · exact ⟨o, st b o (nb b o e hb)⟩, fun b xs e => by rw [upd_ne (ne_of_none e na)]; exact e, fun b o u e => by rw [upd_ne (ne_of_none e na)]; exact e, fun b ps e => ⟨#[], by rw [upd_ne (ne_of_none e na), e]; simp⟩⟩
    hok ag (fun _ z => nomatch z)
  obtain ⟨a1, a2, a3, a4, a5⟩ := s'
  have e5 : a5 = sI.os := os
  subst e5
  exact J
theorem toSuiteN (I : Inv X pins σ H s) (a : Addr) : Inv (X.suite a (X.pn ++ pins)) [] σ H s :=
  ⟨I.ok.suite _ _, I.os, I.bare, I.base, I.loc, I.cell, I.free, I.freeC, fun p hp => I.pin p (by rw [List.append_nil] at hp; exact hp), I.hok, I.len⟩
theorem ofSuiteN {a : Addr} {pn' : List (Addr × Obj)} (I : Inv (X.suite a (X.pn ++ pins)) pn' σ H s) (ok : X.Ok) : Inv X pins σ H s :=
  ⟨ok, I.os, I.bare, I.base, I.loc, I.cell, I.free, I.freeC, fun p hp => I.pin p (List.mem_append_left _ hp), I.hok, I.len⟩
end
/-- what 'except x as n' wishes, where all that comes is caught, and kept -/
def wKp (K : Frag) (c : Value) (i : Nat) (ts : TS) (D : Ends) : WX := fun cls d σ H =>
  ∃ C, cls = .ref C ∧ PySem.W.exmOne K cls c = some true ∧ ∀ a, H a = none → ts { nx := fun σ' H' => D.nx (σ'.set i none) H', rt := D.rt, bk := fun σ' H' => D.bk (σ'.set i none) H', ct := fun σ' H' => D.ct (σ'.set i none) H' } (σ.set i (some (.ref a))) (upd H a (exN a C d))
def tTryK (K : Frag) (c : Value) (i : Nat) (ts : TS) (tb : WX → TS) : TS := fun D σ H => tb (wKp K c i ts D) D σ H
section
variable {X : Cx} {x n : Str} {c : Value} {i : Nat} {body suite : List Stmt} {b₀ : Stmt} {np pos pos' : Pos} {tb : WX → TS} {ts : TS}
theorem ps_try_kept (hs : X.stack = X.env :: X.outer) (hf : X.env.frame = some X.env.locals) (hN : X.N.Nodup) (hi : X.N[i]? = some n) (hln : X.env.kindOf n = some .local) (hc : Names X x c)
    (hb : ∀ (W : WX) (pn : List (Addr × Obj)) (xe : Value → Shared → Prop), Takes (X.tr pn xe) W → PassesOwn (model X.prog X.w) X.A X.env xe → PSs (X.tr pn xe) body (tb W))
    (hsu : ∀ (a : Addr) (pn : List (Addr × Obj)), PSs (X.suite a pn) (b₀ :: suite) ts) :
    PS X (.Try body [.ExceptHandler (some (.Name x np)) (some n) (b₀ :: suite) pos'] [] [] pos) (tTryK X.K c i ts tb) := by
  refine ⟨fun pins s σ H D I h => ?_⟩
  have ok := I.ok
  have hfr : X.A.frames = some (X.env :: X.outer) := by rw [ok.frames, hs]
  have hloc : Loc X.env.scope n := .inl hln
  refine wpAny_Try_except ?_
  refine wpAny_mono ((hb (wKp X.K c i ts D) (X.pn ++ pins) (fun e s₁ => wpAny (model X.prog X.w) X.A (noteFrame e X.env) (fun _ s₂ => wpAny (model X.prog X.w) X.A (setFlight e none) (fun _ s₃ =>
    wpAny (model X.prog X.w) X.A (handleBy e X.env [.ExceptHandler (some (.Name x np)) (some n) (b₀ :: suite) pos']) (SP X pins D) X.xe s₃) X.xe s₂) X.xe s₁) (fun u s' xx => ?_) PassesOwn.looking).run [] s σ H D (I.toTry _) h) (fun f s1 hsp => ?_) (fun e s1 he => he)
  · -- the catch
    obtain ⟨a, B, sI, pins', σ', H', cls, d, rfl, J', nb, up, sky, na, os, ag, C, ecls, hb1, hyes⟩ := xx
    have J : Inv X pins σ' H' sI := J'.ofTry ok
    have sky' : Sky B (X.env :: X.outer) a (Zc cls d) X.env.locals s'.heap := by rw [← hs]; exact sky
    show wpAny (model X.prog X.w) X.A (noteFrame (.ref a) X.env) _ _ _
    refine Sky.land Zc.steady hfr hf sky' fun h3 fl3 up3 => ?_
    have J3 : Inv X pins σ' H' { s' with heap := h3 } := J.landed nb fl3.1 (up.trans up3) os ag
    obtain ⟨oe3, vs3, he3, hz3, hd3⟩ := fl3.there
    have notFr : ∀ {h : Heap} {o : Obj} {vs : Array Value}, h.FunFrames B (X.env :: X.outer) → h.get? a = some o → o.data = .fields vs → a ∉ frs (X.env :: X.outer) := fun {h o vs} ff e dd hm => by
      obtain ⟨_, o', e', hnf⟩ := ff.mem hm
      rw [e] at e'; cases e'
      exact hnf _ dd
    have nfr := notFr fl3.2.2.1 he3 hd3
    have nL : a ≠ X.env.locals := fun z => nfr (List.mem_filterMap.mpr ⟨X.env, List.mem_cons_self, by rw [hf, z]⟩)
    have nF : a ∉ X.fs := fun hm => by
      obtain ⟨e, he, q⟩ := List.mem_filterMap.mp hm
      exact nfr (List.mem_filterMap.mpr ⟨e, List.mem_cons_of_mem _ he, q⟩)
    have S3 := J3.suite he3 hd3 na nL nF
    refine wpAny_handleBy_cons (codeAny_handlers_test ?_) (by intro q; cases q)
    have LT : PySem.W.Looks (model X.prog X.w) h3 (typeOf (.ref a)) cls := fun A Q E s k q => wpAny_typeOf_ref (k _ _ he3) (by rw [hz3.1]; exact q)
    have LM := PySem.W.exm_one (M := model X.prog X.w) (J3.kIn) LT hb1
    have test : ∀ {Q : Value → Shared → Prop} {E : Value → Shared → Prop}, Q c { s' with heap := h3 } → wpAny (model X.prog X.w) (X.A.mark (some (.ref a))) (eval (.Name x np) X.env) Q E { s' with heap := h3 } := fun {Q E} q => by
      obtain ⟨hg, hdbg, hm | ⟨hm, hv, hnn⟩⟩ := hc
      · exact ld_glob (X := X.suite a ((a, oe3) :: (X.pn ++ pins))) S3 hg hm q hdbg
      · exact ld_blt (X := X.suite a ((a, oe3) :: (X.pn ++ pins))) S3 hg hm hv q hnn hdbg
    refine test (LM.here ?_)
    refine codeAny_handlers_suite_as ?_
    refine HandSPX.lands_againZ fl3 fun h4 fl4 up4 => ?_
    obtain ⟨oe4, vs4, he4, hz4, hd4⟩ := fl4.there
    have J4 : Inv X pins σ' (upd H' a (exN a C d)) { s' with heap := h4 } := landedN (s' := { s' with heap := h4 }) J nb fl4.1 ((up.trans up3).trans up4) os ag na fl4.2.1 (by rw [hs]; exact nfr) he4 (hz4.1.trans ecls) hz4.2 hd4
    have S4 := toSuiteN J4 a
    refine store_ok (X := X.suite a (X.pn ++ pins)) (v := .ref a) S4 hN hi hloc rfl (fun s5 S5 => ?_) (.inr hln)
    refine wpAny_mono ((hsu a (X.pn ++ pins)).run [] s5 _ _ _ S5 (hyes a na)) (fun f s6 hsp => ?_) (fun _ _ z => False.elim z)
    have end_ : ∀ {σ6 : St} {H6 : Hp} {Q : Shared → Prop}, Inv (X.suite a (X.pn ++ pins)) [] σ6 H6 s6 → (∀ s7, Inv X pins (σ6.set i none) H6 s7 → Q s7) →
        wpAny (model X.prog X.w) X.A (do bindName X.env n .none; unbindBehindTheSuite X.env n pos') (fun _ s7 => Q s7) X.xe s6 := fun {σ6 H6 Q} S6 hq => gone_ok (ofSuiteN S6 ok) hN hi hln hq
    cases f with
    | next =>
      obtain ⟨σ6, H6, S6, q6⟩ := hsp
      exact end_ S6 fun s7 J7 => ⟨_, _, J7, q6⟩
    | brk =>
      obtain ⟨σ6, H6, S6, q6⟩ := hsp
      exact end_ S6 fun s7 J7 => ⟨_, _, J7, q6⟩
    | cont =>
      obtain ⟨σ6, H6, S6, q6⟩ := hsp
      exact end_ S6 fun s7 J7 => ⟨_, _, J7, q6⟩
    | ret u =>
      obtain ⟨v6, σ6, H6, S6, r6, q6⟩ := hsp
      exact end_ S6 fun s7 J7 => ⟨_, _, _, J7, r6, q6⟩
  · cases f with
    | next =>
      obtain ⟨σ', H', J', q⟩ := hsp
      exact wpAny_execs_nil ⟨σ', H', J'.ofTry ok, q⟩
    | brk =>
      obtain ⟨σ', H', J', q⟩ := hsp
      exact ⟨σ', H', J'.ofTry ok, q⟩
    | cont =>
      obtain ⟨σ', H', J', q⟩ := hsp
      exact ⟨σ', H', J'.ofTry ok, q⟩
    | ret u =>
      obtain ⟨v, σ', H', J', r, q⟩ := hsp
      exact ⟨v, σ', H', J'.ofTry ok, r, q⟩
end
/-! ### isinstance of a kept exception, its fields -/
section
variable {prog : Program} {w : World} {A : Around} {E : Value → Shared → Prop} {s : Shared} {K : Frag} {x D : Addr} {ox : Obj} {od : Option Obj}
open PySem.W PySem.Calls
theorem findObj_dataO {C : Addr} {name : Str} {a g : Value} (hc : (clsIn K C).isSome = true) (ha : findIn K (.ref C) name = some (some a)) (hg : specialIn K a "__get__" = some (some g)) (ht : takesIn K a = some true) : findObj K C od name = some (.bind g a) := by
  obtain ⟨cd, hc⟩ := Option.isSome_iff_exists.mp hc
  unfold findObj
  rw [hc, Option.bind_some, ha, Option.bind_some]
  simp [hg, ht]
theorem kin_classO {Q : Option Value → Shared → Prop} (hga : findIn K (.ref D) "__getattribute__" = some (some (.builtin "BaseException.__getattribute__"))) (hgt : findIn K (.ref D) "__getattr__" = some none) (hsub : subIn K (.ref D) (.type "BaseException") = some true)
    (hdct : hasDictIn K D = true) (ha : findIn K (.ref D) "__class__" = some (some (.builtin "object.__class__")))
    (hn : specialIn K (.builtin "object.__class__") "__get__" = some (some (.builtin "getset_descriptor.__get__"))) (htk : takesIn K (.builtin "object.__class__") = some true) (hm : mroIn K D (.type "object") = some true)
    (X : K.In s.heap) (I : InstAt s.heap x ox D od) (h : Q (some (.ref D)) { s with toks := s.toks + 1 }) : wpAny (model prog w) A (getAttr? (.ref x) "__class__") Q E s := by
  have hf : findObj K D od "__class__" = some (.bind (.builtin "getset_descriptor.__get__") (.builtin "object.__class__")) := findObj_dataO (by obtain ⟨cd, hc, _⟩ := any_some hdct; rw [hc]; rfl) ha hn htk
  obtain ⟨hp, g, d, t, os⟩ := s
  have L0 := I.type (M := model prog w)
  have L1 := looks_findIn (M := model prog w) X hga
  have L2 := looks_findIn (M := model prog w) X hgt
  have L3 := looks_find (M := model prog w) X I hf
  have sub : Looks (model prog w) hp (isInstance (.ref x) (.type "BaseException")) true := L0.andThen (looks_subIn X hsub)
  have hx0 : (false && onTheHeap (Value.builtin "BaseException.__getattribute__")) = false := rfl
  have hx2 : (Value.builtin "BaseException.__getattribute__" == Value.builtin "object.__getattribute__") = false := by decide +kernel
  have hx1 : (onTheHeap (Value.ref D) && Value.builtin "BaseException.__getattribute__" == Value.builtin "object.__getattribute__") = false := by rw [hx2]; rfl
  unfold getAttr? getAttrBy? getAttrBy
  refine wpAny_bind (wpAny_mkText (wpAny_bind (wpAny_attempt (wpAny_holding (wpAny_bind (L0.at (wpAny_bind (L1.at ?_))))))))
  show wpAny _ _ (if (onTheHeap (Value.ref D) && Value.builtin "BaseException.__getattribute__" == Value.builtin "object.__getattribute__") = true then _ else _) _ _ _
  rw [hx1, if_neg Bool.false_ne_true]
  unfold getAttrByItsOwn hookBefore
  refine wpAny_bind ?_
  rw [if_pos (show onTheHeap (Value.ref D) = true from rfl)]
  refine L2.at ?_
  refine wpAny_bind (wpAny_attempt (wpAny_holding ?_))
  unfold callGetattribute
  rw [hx0, if_neg Bool.false_ne_true]
  unfold boundAndCalled
  rw [PySem.F.excAttr_ValueError.ga.bind (.ref x)]
  refine wpAny_bind (wpAny_pure ?_)
  show wpAny _ _ (call (.builtin "BaseException.__getattribute__") [.ref x, .str "__class__" t]) _ _ _
  refine wpAny_call (codeAny_call_builtin PySem.F.excAttr_ValueError.ga.plain PySem.F.entry_bexc_ga ?_)
  refine @check_slot (model prog w) _ _ ⟨hp, g, d, t + 1, os⟩ "BaseException.__getattribute__" "BaseException" "__getattribute__" (.ref x) [.str "__class__" t] [] _ (by decide +kernel) (by decide +kernel) sub (PySem.F.args_bexc_ga (.ref x) (.str "__class__" t)) ?_
  unfold Builtin.«object.__getattribute__»
  refine wpAny_bind (wpAny_of_eq (a := ((Value.ref x : Value), [Value.str "__class__" t])) (by first | rfl | (simp only [slotArgs]; rfl)) ?_)
  refine wpAny_bind (wpAny_pure (wpAny_bind (L0.at (wpAny_bind (L3.at ?_)))))
  show wpAny _ _ (holding [Value.builtin "object.__class__"] (call (.builtin "getset_descriptor.__get__") [.builtin "object.__class__", .ref x, .ref D]) >>= ret) _ _ _
  refine wpAny_bind (wpAny_holding (wpAny_call (class_get (s := ⟨hp, g, d, t + 1, os⟩) (ox := ox) (od := od) X I hm ?_)))
  refine wpAny_pure ?_
  show wpAny _ _ (handedOut (.ref D)) _ _ _
  rw [handedOut_of (v := .ref D) rfl]
  first
    | exact wpAny_pure (wpAny_pure h)
    | exact wpAny_pure h
    | exact wpAny_pure (wpAny_bind (wpAny_pure (wpAny_pure h)))
theorem kitx_excO (hga : findIn K (.ref D) "__getattribute__" = some (some (.builtin "BaseException.__getattribute__"))) (hgt : findIn K (.ref D) "__getattr__" = some none) (hsub : subIn K (.ref D) (.type "BaseException") = some true) (hdct : hasDictIn K D = true) (ha : findIn K (.ref D) "__class__" = some (some (.builtin "object.__class__")))
    (hn : specialIn K (.builtin "object.__class__") "__get__" = some (some (.builtin "getset_descriptor.__get__"))) (htk : takesIn K (.builtin "object.__class__") = some true) (hm : mroIn K D (.type "object") = some true) :
    KitX K (.ref x) (.ref D) (fun h => ∃ ox od, InstAt h x ox D od) where
  ty := fun _ _ _ ⟨_, _, I⟩ => I.type
  it := fun _ _ X _ => by
    obtain ⟨cdD, hcD, _⟩ := any_some hdct
    unfold clsIn at hcD
    split at hcD
    · rename_i c' d' cd' sl' ho
      intro A' Q' E' s' k q
      unfold isType loadHead
      exact wpAny_bind (wpAny_loadPart (k _ _ (X _ _ ho)) (wpAny_pure q))
    · cases hcD
  ne := fun h tp dd its n sl X htp => by
    obtain ⟨cdD, hcD, _⟩ := any_some hdct
    refine Bool.eq_false_iff.mpr fun q => ?_
    have e : D = tp := Value.ref.inj (beq_iff_eq.mp q)
    subst e
    unfold clsIn at hcD
    split at hcD
    · rename_i c' d' cd' sl' ho
      have z := (X _ _ ho).symm.trans htp
      cases z
    · cases hcD
  ca := fun X ⟨_, _, I⟩ k => kin_classO hga hgt hsub hdct ha hn htk hm X I k
end
/-- the object of a kept exception, with its dict -/
theorem inst_of {P : Program} {w : World} {H : Hp} {h : Heap} {a C : Addr} {d : Option Addr} (hok : HOk P w H h) (ha : H a = some (exN a C d)) (hd : d = none ∨ ∃ dd fs, d = some dd ∧ H dd = some (.xd fs)) : ∃ ox od, PySem.W.InstAt h a ox C od := by
  obtain ⟨oe, vs, he, h1, h2, h3⟩ := exN_at hok ha
  rcases hd with rfl | ⟨dd, fs, rfl, hdd⟩
  · exact ⟨oe, none, he, h1, by unfold PySem.W.notCls; rw [h3] <;> rfl, by rw [h2]; trivial⟩
  · have hx : ObjOk P w H h dd (.xd fs) := hok dd _ hdd
    obtain ⟨mA, hns, hr⟩ := hx
    obtain ⟨od, ho, hl⟩ := lookIn_ns hns
    exact ⟨oe, some od, he, h1, by unfold PySem.W.notCls; rw [h3] <;> rfl, by rw [h2]; exact ho⟩
/-- isinstance(e, c) -/
def rIsK (K : Frag) : List V → Hp → VK → Prop := fun xs H Q => ∃ (a D : Addr) (d : Option Addr) (c : V) (cv : Value) (b : Bool), xs = [.ref a, c] ∧ (∀ u, RelV c u → u = cv) ∧ H a = some (exN a D d) ∧ (d = none ∨ ∃ dd fs, d = some dd ∧ H dd = some (.xd fs)) ∧ ExcC K D ∧ PySem.W.kitOne K (.ref D) cv = some b ∧ Q (.bl b) H
theorem call_isK {X : Cx} : CallR X (.builtin "isinstance") (rIsK X.K) := by
  intro pins s σ H xs us Q I r h
  obtain ⟨a, D, d, c, cv, b, rfl, hcv, ha, hd, C, e, q⟩ := h
  cases r with
  | cons rx rr =>
    cases rr with
    | cons rt rr =>
      cases rr
      cases rx
      have ec := hcv _ rt
      subst ec
      exact PySem.W.kia_one (kitx_excO C.hg C.hk C.hs C.hd C.ha C.hn C.ht C.hm) I.kIn (inst_of I.hok ha hd) e (fun z => nomatch z) fun tk => ⟨.bl b, H, I.kept (t' := tk) fun _ _ z => z, rfl, q⟩
/-- e.f -/
def tXk (K : Frag) (f : Str) (te : TE) : TE := fun σ H Q => te σ H fun x H1 => ∃ (a C dd : Addr) (fs : List (Str × V)) (v : V), x = .ref a ∧ H1 a = some (exN a C (some dd)) ∧ XfC K C ∧ PySem.W.findIn K (.ref C) f = some none ∧ H1 dd = some (.xd fs) ∧ fs.lookup f = some v ∧ Q v H1
theorem pe_xk {X : Cx} {e : Expr} {te : TE} {pos : Pos} {n : Str} (he : PE X e te) (hb : attributeBase e n X.env (eval e X.env) = eval e X.env := by rfl) : PE X (.Attribute e n pos) (tXk X.K n te) := by
  refine ⟨fun pins s σ H Q I h => ?_⟩
  refine attr_of hb (thn (he.run pins s σ H _ I h) fun u s1 hh => ?_)
  obtain ⟨x, H1, I1, rx, a, C, dd, fs, v, ex, ha, T, hno, ed, l, q⟩ := hh
  subst ex
  obtain rfl : u = Value.ref a := rx
  obtain ⟨oe, vs, he, h1, h2, h3⟩ := exN_at I1.hok ha
  have hx : ObjOk X.prog X.w H1 s1.heap dd (.xd fs) := I1.hok dd _ ed
  obtain ⟨mA, hns, hr⟩ := hx
  obtain ⟨od, ho, hl⟩ := lookIn_ns hns
  obtain ⟨u, hu, ru⟩ := RelO.some_of (v := v) (o := mA n) (by rw [← l]; exact hr n)
  have J : PySem.W.InstAt s1.heap a oe C (some od) := ⟨he, h1, by unfold PySem.W.notCls; rw [h3] <;> rfl, by rw [h2]; exact ho⟩
  exact HandSPX.exc_get I1.kIn J T.ga T.gg T.exC (PySem.W.findObj_own T.hdC hno rfl (by rw [hl, hu])) (handed_of ru) ⟨v, H1, I1.tok _, ru, q⟩
/-! ### __init__ of an own class: B.__init__(self, ..), self.f = x -/
theorem pe_binit {X : Cx} {x : Str} {B : Addr} {e : Expr} {es : List Expr} {ta : TA} {p1 p2 pos : Pos} {pl : Sem Bool} (hg : Gl X x) (hm : X.mg x = some (.ref B)) (hsp : PySem.W.specialIn X.K (.ref B) "__getattribute__" = some (some (.builtin "type.__getattribute__")))
    (hr : PySem.W.readsIn X.K B (.type "type") = true) (hF : PySem.W.findCls X.K (.ref B) (.type "type") "__init__" = some (.val (.builtin "ValueError.__init__"))) (ha : PA X (e :: es) ta) (hdb : (x == ("__debug__" : Str)) = false := by decide)
    (hc : eval (.Call (.Attribute (.Name x p1) "__init__" p2) (e :: es) [] pos) X.env = (do
      let ov ← eval (.Name x p1) X.env
      standAt p2.atName
      let (f, first) ← holding [ov] (getMethod ov "__init__" pl)
      callWith pos f first (backTo pos (starEach (e :: es) X.env)) (backToKw pos (keywordEach [] X.env))) := by rfl)
    (he : starEach (e :: es) X.env = (false, eval e X.env) :: starEach es X.env := by rfl) (hpl : (backTo pos (starEach es X.env)).any (·.1) = false := by rfl) :
    PE X (.Call (.Attribute (.Name x p1) "__init__" p2) (e :: es) [] pos) (tVeI X.K ta) := by
  refine ⟨fun pins s σ H Q I h => ?_⟩
  refine PySem.W.methodCall_KW (ld_glob I hg hm ?_ hdb) hc
  refine PySem.W.method_cls I.kIn hsp (PySem.W.cls_value I.kIn hr hF rfl ?_)
  show wpAny _ _ (callWith pos (Value.builtin "ValueError.__init__") [] (backTo pos (starEach (e :: es) X.env)) []) _ _ _
  refine PyProof.Rows.callWith_method1 (thn (ha.run pos pins _ σ H _ (I.tok _) h) fun us s1 ⟨vs, H1, I1, r1, a, C, ws, ev, hl, T, ea, q⟩ => ?_) he hpl
  subst ev
  cases r1 with
  | @cons _ u0 _ ur ra rw' =>
    obtain rfl : u0 = Value.ref a := ra
    have hlen : ur.length ≤ sizeLine := by
      rw [← Paired.length rw', sizeLine_eq]
      omega
    exact oinit_ok T I1 ea hlen fun s' J => ⟨.non, H1, J, rfl, q⟩
end Fw

namespace Fw
open PySem L2
/-! ### exceptions of own classes -/
/-- the value of a name at the top -/
def mK (K : Frag) : Str → Value := fun n => match PySem.W.nsIn K mainGlobals n with
  | some (some v) => v
  | _ => .none
theorem mK_of {K : Frag} {n : Str} {v : Value} (h : PySem.W.nsIn K mainGlobals n = some (some v)) : mK K n = v := by
  unfold mK
  rw [h]
theorem ExD.mono {fs : List (Str × V)} {d : Option Addr} {G H : Hp} (s : Inc G H) (h : ExD fs d G) : ExD fs d H := by
  cases fs with
  | nil => exact h
  | cons p r =>
    obtain ⟨a, e, g⟩ := h
    exact ⟨a, e, s _ _ g⟩
instance : Rp Exc := ⟨fun K e v G => ∃ a C d, v = .ref a ∧ PySem.W.nsIn K mainGlobals e.cls = some (some (.ref C)) ∧ G a = some (exN a C d) ∧ ExD e.fs d G ∧ ∀ p ∈ e.fs, VOk p.2,
  fun s ⟨a, C, d, h1, h2, h3, h4, h5⟩ => ⟨a, C, d, h1, h2, s _ _ h3, h4.mono s, h5⟩⟩
/-- what may be a field -/
class Sv (α : Type) [Rp α] where
  toV : α → V
  ofV : V → R α
  rep : ∀ {K : Frag} {x : α} {v : V} {G : Hp}, Rp.rep K x v G → v = toV x ∧ VOk v
  back : ∀ {K : Frag} {x : α} {v : V} {G : Hp}, ofV v = .ok x → VOk v → Rp.rep K x v G
  nex : ∀ {v : V} {e : Exc}, ofV v ≠ .ex e
instance : Sv Int := ⟨fun x => .int x, fun v => match v with | .int x => .ok x | _ => .no, fun h => ⟨h, by rw [show _ = V.int _ from h]; trivial⟩, fun {K x v G} h _ => by
  cases v <;> first | (cases h; done) | (injection h with h; subst h; rfl), fun {v e} h => by cases v <;> cases h⟩
instance : Sv Str := ⟨fun x => .str x, fun v => match v with | .str x => .ok x | _ => .no, fun h => ⟨h.1, by rw [h.1]; exact h.2⟩, fun {K x v G} h o => by
  cases v <;> first | (cases h; done) | (injection h with h; subst h; exact ⟨rfl, o⟩), fun {v e} h => by cases v <;> cases h⟩
class Fv (τ : Type) [Args τ] where
  vs : τ → List V
  rep : ∀ {K : Frag} {x : τ} {ws : List V} {G : Hp}, Args.reps K x ws G → ws = vs x ∧ ∀ v ∈ ws, VOk v
instance : Fv Unit := ⟨fun _ => [], fun {K x ws G} h => by
  have h' : ws = [] := h
  subst h'
  exact ⟨rfl, fun v hv => absurd hv (by simp)⟩⟩
instance {α τ : Type} [Rp α] [Sv α] [Args τ] [Fv τ] : Fv (α × τ) := ⟨fun x => Sv.toV x.1 :: Fv.vs x.2, fun {K x ws G} ⟨v, r, e, h1, h2⟩ => by
  subst e
  obtain ⟨a, b⟩ := Fv.rep h2
  obtain ⟨c, d⟩ := Sv.rep h1
  exact ⟨by rw [a, c], fun u hu => by
    rcases List.mem_cons.mp hu with z | z
    · rw [z]; exact d
    · exact b u z⟩⟩
/-- the promise of an own class's __init__ that keeps its arguments as fields -/
def spI (C : Addr) (fs : List Str) : Sp := fun vs H Q E => ∃ a ws, vs = .ref a :: ws ∧ ws.length = fs.length ∧ H a = some (exo a C none) ∧ ∀ d H2, H d = none → d ≠ a → H2 = upd (upd H d (exd d (fs.zip ws).reverse)) a (exo a C (some d)) → Q .non H2
theorem spI_len {C : Addr} {fs : List Str} {n : Nat} (hn : n = fs.length + 1) (vs : List V) (H : Hp) (Q : VK) (E : XK) (h : spI C fs vs H Q E) : vs.length = n := by
  obtain ⟨a, ws, e, l, _⟩ := h
  rw [e, List.length_cons, l, hn]
/-- .. as it is found through its class -/
structure Ini (P : Program) (w : World) (K : Frag) (mg : Str → Option Value) (base : Heap) (C : Addr) (k : Nat) (ps : List Str) (sp : Sp) : Prop where
  ex : ∃ (f : Addr) (fd : FuncData), PySem.W.findIn K (.ref C) "__init__" = some (some (.ref f)) ∧ PySem.W.typeIn K (.ref f) = some (.type "function") ∧ Binds K fd ps [] ∧ FnOk P w K mg base (L2.CX P w) k f fd ps sp
section
variable {J S T U ρ α β γ τ : Type} {c : Cn} {X : WX} {kr : ρ → Kd} {Ls : List Sl} {Js : J → List Sl} {B : Bd} {As : List Sl} {Bs : S → List Sl} {K : Frag} {W0 : Wd}
/-- raise C(..) -/
def tRaiseI (X : WX) (C : Addr) (fs : List Str) (ta : TA) : TS := fun _ σ H => tMkO C (spI C fs) [] ta σ H fun cls d H' => X cls d σ H'
theorem d_raiseI [Args τ] [Fv τ] {ta : TA} {u : TS} {m : R τ} {n : Str} {C : Addr} (fs : List Str) (hM : c.M n = .ref C) (lx : Lx Ls As) (h : Axr c B.W0 X ta As m fun x => kAs c.K x) (hl : fs.length = Args.num τ) (h0 : 0 < fs.length) (h1 : fs.length ≤ 900) :
    Den c X kr Ls Js B (tSeq (tRaiseI X C fs ta) u) As (m.to fun x => .ex ⟨n, (fs.zip (Fv.vs x)).reverse⟩) Bs := fun D σ W a f => by
  have h' := h σ W a
  cases m with
  | no => exact False.elim f
  | ex e => exact h' W (Le.refl _) _ fun cls d W2 e2 z => f cls d σ W2 (lx_at lx (a.mono e2)) z
  | ok x =>
    refine h' W (Le.refl _) _ fun vs W2 e2 r => ?_
    obtain ⟨ev, hv⟩ := Fv.rep r
    have ln := Args.len r
    refine ⟨by omega, fun b hb => ⟨b, vs, by rw [List.append_nil], by omega, upd_same, fun d H2 hd hdb e => ?_⟩⟩
    have hd2 : W2.H d = none := by rw [upd_ne hdb] at hd; exact hd
    refine ⟨rfl, d, _, by rw [e]; exact upd_same, by rw [e, upd_ne hdb]; exact upd_same, hd2, ?_⟩
    have eH : upd (del H2 b) d (.xd (fs.zip vs).reverse) = (W2.nf d (.xd (fs.zip vs).reverse)).H := by
      funext q
      show _ = upd W2.H d _ q
      by_cases c1 : q = d
      · rw [c1, upd_same, upd_same]
      · rw [upd_ne c1, upd_ne c1]
        by_cases c2 : q = b
        · rw [c2, del_same, hb]
        · rw [del_ne c2, e, upd_ne c2, upd_ne c1, upd_ne c2]
    rw [eH]
    refine f _ _ σ (W2.nf d _) (lx_at lx (a.mono (e2.trans (Le.nf hd2)))) ⟨hM.symm, ?_, fun p hp => ?_⟩
    · rw [ev]
      have hne : (fs.zip (Fv.vs x)).reverse ≠ [] := fun z => by
        have := congrArg List.length z
        rw [List.length_reverse, List.length_zip, ← ev, List.length_nil] at this
        omega
      show ExD (fs.zip (Fv.vs x)).reverse (some d) _
      revert hne
      cases hq : (fs.zip (Fv.vs x)).reverse with
      | nil => exact fun z => absurd rfl z
      | cons p r => exact fun _ => ⟨d, rfl, upd_same⟩
    · have hp' : p ∈ (fs.zip (Fv.vs x)).reverse := hp
      rw [List.mem_reverse] at hp'
      rw [← ev] at hp'
      exact hv _ (List.of_mem_zip (a := p.1) (b := p.2) hp').2
/-- try -/
def Out.npx (m : Out S J ρ) : Out S J ρ := match m with
  | .ex _ => .no
  | o => o
@[simp] theorem Out.npx_nx (s : S) : (Out.nx s : Out S J ρ).npx = .nx s := rfl
@[simp] theorem Out.npx_rt (r : ρ) : (Out.rt r : Out S J ρ).npx = .rt r := rfl
def Out.tryE (m : Out S J ρ) (cat : List Str) (h : Exc → Out S J ρ) : Out S J ρ := match m with
  | .ex e => if e.cls ∈ cat then (h e).npx else .no
  | o => o
def Bd.tr (B : Bd) : Bd := ⟨B.W0, B.Wo, B.W0, B.le, Le.refl _⟩
theorem d_tryE {tb : WX → TS} {ts : TS} {cv : Value} {m : Out S J ρ} {h : Exc → Out S J ρ} {Cs : Exc → S → List Sl} (i : Nat) (cat : List Str) (hcat : ∀ n ∈ cat, ∃ C, c.M n = .ref C ∧ PySem.W.nsIn c.K mainGlobals n = some (some (.ref C)) ∧ PySem.W.exmOne c.K (.ref C) cv = some true)
    (hb : ∀ W, Den c W kr As Js B.tr (tb W) As m Bs) (hs : ∀ e : Exc, Den c (fun _ _ _ _ => False) kr (Js' : List Sl) Js B ts (As.set i (.fr e)) (h e) (Cs e))
    (hw : ∀ e s, Wk ((Cs e s).set i .un) (Bs s)) (hj : ∀ j σ W, At c.K B.W0 (Js j) σ W → At c.K B.W0 (Js j) (σ.set i none) W) :
    Den c X kr Ls Js B (tTryK c.K cv i ts tb) As (m.tryE cat h) Bs := fun D σ W a f => by
  refine hb (wKp c.K cv i ts D) D σ W a ?_
  cases m with
  | nx s => exact f
  | rt r => exact f
  | bk j => exact f
  | ct j => exact f
  | no => exact f
  | ex e =>
    intro cls d σ' W' a' ⟨ec, ed, ev⟩
    have f' : Fin c X kr Ls Js B Bs D (if e.cls ∈ cat then (h e).npx else .no) := f
    by_cases hc : e.cls ∈ cat
    · rw [if_pos hc] at f'
      obtain ⟨C, hM, hn, hm⟩ := hcat _ hc
      refine ⟨C, ec.trans hM, by rw [ec.trans hM]; exact hm, fun b hb => ?_⟩
      have r : Rp.rep c.K e (.ref b) (W'.nf b (exN b C d)).G := ⟨b, C, d, rfl, hn, upd_same, ed.mono (Le.nf hb).g, ev⟩
      refine hs e _ _ (W'.nf b (exN b C d)) ((a'.mono (Le.nf hb)).setF r) ?_
      revert f'
      cases h e with
      | nx s => exact fun f' σ2 W2 a2 => f' _ W2 ((a2.set (i := i) (A := .un) (o := none) trivial).wk (hw e s))
      | rt r => exact fun f' => f'
      | bk j => exact fun f' σ2 W2 a2 => f' _ W2 (hj j σ2 W2 a2)
      | ct j => exact fun f' σ2 W2 a2 => f' _ W2 (hj j σ2 W2 a2)
      | no => exact fun f' => f'
      | ex e2 => exact fun f' => f'.elim
    · rw [if_neg hc] at f'
      exact f'.elim
theorem j_nil {W0 : Wd} {i : Nat} : ∀ (j : J) (σ : St) (W : Wd), At c.K W0 ((fun _ : J => []) j) σ W → At c.K W0 ((fun _ : J => []) j) (σ.set i none) W := fun j σ W a => by
  have : σ = [] := List.length_eq_zero_iff.mp a.len
  subst this
  exact a
theorem j_un {W0 : Wd} {i : Nat} {Js : J → List Sl} (h : ∀ j, (Js j).set i .un = Js j) : ∀ (j : J) (σ : St) (W : Wd), At c.K W0 (Js j) σ W → At c.K W0 (Js j) (σ.set i none) W := fun j σ W a => by
  have := a.set (i := i) (A := .un) (o := none) trivial
  rw [h j] at this
  exact this
/-- a field of a caught exception -/
@[irreducible] def R.fld [Rp α] [Sv α] (e : Exc) (f : Str) : R α := match e.fs.lookup f with
  | some v => Sv.ofV v
  | none => .no
theorem lookup_mem {f : Str} {v : V} : ∀ {fs : List (Str × V)}, fs.lookup f = some v → (f, v) ∈ fs
  | [], h => by cases h
  | (g, y) :: fs, h => by
    rw [lookup_put] at h
    by_cases c : f = g
    · rw [if_pos c] at h
      cases h
      rw [c]
      exact List.mem_cons_self ..
    · rw [if_neg c] at h
      exact List.mem_cons_of_mem _ (lookup_mem h)
theorem r_fld [Rp α] [Sv α] {te : TE} {m : R Exc} (f : Str) (h : Exr c W0 X te As m fun x => kFr c.K x) (cat : List Str) (hcat : ∀ n ∈ cat, ∀ C, PySem.W.nsIn c.K mainGlobals n = some (some (.ref C)) → XfC c.K C ∧ PySem.W.findIn c.K (.ref C) f = some none) :
    Exr c W0 X (tXk c.K f te) As (m.bind fun e => if e.cls ∈ cat then R.fld e f else .no) fun x : α => kFr c.K x := fun σ W a => by
  have h' := h σ W a
  cases m with
  | no => trivial
  | ex e => exact fun W1 e1 Q q => h' W1 e1 _ q
  | ok e =>
    show SatR (if e.cls ∈ cat then R.fld e f else .no) _ _
    by_cases hc : e.cls ∈ cat
    · rw [if_pos hc]
      unfold R.fld
      cases hl : e.fs.lookup f with
      | none => trivial
      | some v =>
        dsimp only
        cases ho : (Sv.ofV v : R α) with
        | no => trivial
        | ex e => exact absurd ho Sv.nex
        | ok x =>
          refine fun W1 e1 Q q => h' W1 e1 _ fun u W2 e2 ⟨b, C, d, eu, hn, hg, hd, hv⟩ => ?_
          obtain ⟨xc, hno⟩ := hcat _ hc C hn
          have hm := lookup_mem hl
          cases hfs : e.fs with
          | nil => rw [hfs] at hm; cases hm
          | cons p r =>
            rw [hfs] at hd
            obtain ⟨dd, ed, gd⟩ := hd
            subst ed
            exact ⟨b, C, dd, p :: r, v, eu, W2.sub _ _ hg, xc, hno, W2.sub _ _ gd, by rw [← hfs]; exact hl, q v W2 e2 (Sv.back ho (hv _ hm))⟩
    · rw [if_neg hc]
      trivial
/-- isinstance of a caught exception -/
def R.isK (tb : List (Str × Bool)) (e : Exc) : R Bool := match tb.lookup e.cls with
  | some b => .ok b
  | none => .no
theorem lookup_mem' {β : Type} {f : Str} {v : β} : ∀ {fs : List (Str × β)}, fs.lookup f = some v → (f, v) ∈ fs
  | [], h => by cases h
  | (g, y) :: fs, h => by
    by_cases c : f = g
    · subst c
      simp [List.lookup] at h
      subst h
      exact List.mem_cons_self ..
    · have e : (f == g) = false := by simpa using c
      simp [List.lookup, e] at h
      exact List.mem_cons_of_mem _ (lookup_mem' h)
theorem o_isK {cv : V} {cV : Value} (tb : List (Str × Bool)) (hcv : ∀ u, RelV cv u → u = cV) (htb : ∀ p ∈ tb, ∀ C, PySem.W.nsIn K mainGlobals p.1 = some (some (.ref C)) → ExcC K C ∧ PySem.W.kitOne K (.ref C) cV = some p.2) :
    OpA (rIsK K) (fun z : Exc × Unit => aCons (kFr K z.1) (aCons (kV cv) aNil)) (fun z => R.isK tb z.1) (fun b : Bool => kFr K b) := fun z => by
  have hr : R.isK tb z.1 = match tb.lookup z.1.cls with | some b => R.ok b | none => R.no := rfl
  cases hl : tb.lookup z.1.cls with
  | none =>
    rw [hl] at hr
    dsimp only at hr ⊢
    rw [hr]
    trivial
  | some b =>
    rw [hl] at hr
    dsimp only at hr ⊢
    rw [hr]
    refine fun W0 W vs ⟨v, r, e, ⟨a, C, d, ev, hn, hg, hd, _⟩, w, r2, e2, ew, en⟩ Q q => ?_
    have ew' : w = cv := ew
    subst e e2 en ew' ev
    obtain ⟨xc, hk⟩ := htb _ (lookup_mem' hl) C hn
    refine ⟨a, C, d, w, cV, b, rfl, hcv, W.sub _ _ hg, ?_, xc, hk, q _ W (Le.refl _) rfl⟩
    cases hfs : z.1.fs with
    | nil => rw [hfs] at hd; exact .inl hd
    | cons p r =>
      rw [hfs] at hd
      obtain ⟨dd, ed, gd⟩ := hd
      exact .inr ⟨dd, _, ed, W.sub _ _ gd⟩
theorem e_ref (C : Addr) : Exp c W0 (tC (.ref C)) As (kV (.ref C)) := fun σ W a W1 e Q q => q _ W1 (Le.refl _) rfl
theorem ref_only {C : Addr} : ∀ u, RelV (.ref C) u → u = .ref C := fun u h => h
/-- a body that may raise, all of whose ways return -/
theorem fn_runX [Args τ] {f : τ → R ρ} {m : τ → Out Unit Unit ρ} {N : List Str} {n : Nat} {t : TS} {vs : List V} {H : Hp} {Q : VK} {E : XK} {Bs : Unit → List Sl} (h : spF c f kr vs H Q E) (hN : N.length = Args.num τ + n) (hm : ∀ x, f x = (m x).runX)
    (hd : ∀ (W : Wd) x, Den c (x0 E) kr (uns N.length) (fun _ : Unit => []) (bd0 W) t (Args.sl x ++ uns n) (m x) Bs) : t { nx := fun _ H' => Q .non H', rt := Q } (start N vs) H := by
  obtain ⟨W, x, eh, r, k⟩ := h
  subst eh
  have hl := Args.len r
  have a0 : At c.K W (Args.sl x ++ uns n) (start N vs) W := by
    unfold L2.start
    rw [hl, hN, Nat.add_sub_cancel_left]
    exact Args.at_ r (at_uns n)
  refine hd W x _ _ W a0 ?_
  rw [hm x] at k
  revert k
  generalize m x = o
  intro k
  cases o with
  | nx s => exact k.elim
  | rt r => exact fun v W' l p => k v W' l p
  | bk j => exact k.elim
  | ct j => exact k.elim
  | ex e => exact fun cls d σ' W' a z => k cls d W' a.le z
  | no => exact k.elim
end
/-! ### __init__: B.__init__(self, 'text'); self.f = x -/
section
variable {K : Frag} {C : Addr} {N : List Str} {vs : List V} {H : Hp} {Q : VK} {E : XK} {s : Str}
theorem ini1 {f : Str} (T : OexC K C) (hno : PySem.W.findIn K (.ref C) f = some none) (hN : N.length = 2) (h : spI C [f] vs H Q E) :
    tSeq (tDrop (tVeI K (tCons (tVar 0) (tCons (tC (.str s)) tNil)))) (tSeq (tOst K f (tVar 0) (tVar 1)) tNext) { nx := fun _ H' => Q .non H', rt := Q } (start N vs) H := by
  obtain ⟨a, ws, e, l, ha, k⟩ := h
  match ws, l with
  | [x], _ =>
    subst e
    have es : start N [V.ref a, x] = [some (.ref a), some x] := by unfold L2.start; simp [hN]
    rw [es]
    exact ⟨.ref a, rfl, a, C, [.str s], rfl, by simp, T, ha, x, rfl, .ref a, rfl, a, C, rfl, T, hno, .inl ⟨ha, fun dx hd hda => k dx _ hd hda rfl⟩⟩
theorem ini2 {f g : Str} (T : OexC K C) (hf : PySem.W.findIn K (.ref C) f = some none) (hg : PySem.W.findIn K (.ref C) g = some none) (hN : N.length = 3) (h : spI C [f, g] vs H Q E) :
    tSeq (tDrop (tVeI K (tCons (tVar 0) (tCons (tC (.str s)) tNil)))) (tSeq (tOst K f (tVar 0) (tVar 1)) (tSeq (tOst K g (tVar 0) (tVar 2)) tNext)) { nx := fun _ H' => Q .non H', rt := Q } (start N vs) H := by
  obtain ⟨a, ws, e, l, ha, k⟩ := h
  match ws, l with
  | [x, y], _ =>
    subst e
    have es : start N [V.ref a, x, y] = [some (.ref a), some x, some y] := by unfold L2.start; simp [hN]
    rw [es]
    refine ⟨.ref a, rfl, a, C, [.str s], rfl, by simp, T, ha, x, rfl, .ref a, rfl, a, C, rfl, T, hf, .inl ⟨ha, fun dx hd hda => ?_⟩⟩
    refine ⟨y, rfl, .ref a, rfl, a, C, rfl, T, hg, .inr ⟨dx, [(f, x)], upd_same, (upd_ne hda).trans upd_same, by simp, k dx _ hd hda ?_⟩⟩
    funext b
    by_cases c1 : b = dx
    · rw [c1, upd_same, upd_ne hda, upd_same]; rfl
    · rw [upd_ne c1]
      by_cases c2 : b = a
      · rw [c2, upd_same, upd_same]
      · rw [upd_ne c2, upd_ne c1, upd_ne c2, upd_ne c1]
theorem ini3 {f g i : Str} (T : OexC K C) (hf : PySem.W.findIn K (.ref C) f = some none) (hg : PySem.W.findIn K (.ref C) g = some none) (hi : PySem.W.findIn K (.ref C) i = some none) (hN : N.length = 4) (h : spI C [f, g, i] vs H Q E) :
    tSeq (tDrop (tVeI K (tCons (tVar 0) (tCons (tC (.str s)) tNil)))) (tSeq (tOst K f (tVar 0) (tVar 1)) (tSeq (tOst K g (tVar 0) (tVar 2)) (tSeq (tOst K i (tVar 0) (tVar 3)) tNext))) { nx := fun _ H' => Q .non H', rt := Q } (start N vs) H := by
  obtain ⟨a, ws, e, l, ha, k⟩ := h
  match ws, l with
  | [x, y, z], _ =>
    subst e
    have es : start N [V.ref a, x, y, z] = [some (.ref a), some x, some y, some z] := by unfold L2.start; simp [hN]
    rw [es]
    refine ⟨.ref a, rfl, a, C, [.str s], rfl, by simp, T, ha, x, rfl, .ref a, rfl, a, C, rfl, T, hf, .inl ⟨ha, fun dx hd hda => ?_⟩⟩
    refine ⟨y, rfl, .ref a, rfl, a, C, rfl, T, hg, .inr ⟨dx, [(f, x)], upd_same, (upd_ne hda).trans upd_same, by simp, ?_⟩⟩
    refine ⟨z, rfl, .ref a, rfl, a, C, rfl, T, hi, .inr ⟨dx, [(g, y), (f, x)], (upd_ne (Ne.symm hda)).trans upd_same, upd_same, by simp, k dx _ hd hda ?_⟩⟩
    funext b
    by_cases c1 : b = dx
    · rw [c1, upd_same, upd_ne hda, upd_same]; rfl
    · rw [upd_ne c1, upd_ne c1]
      by_cases c2 : b = a
      · rw [c2, upd_same, upd_same]
      · rw [upd_ne c2, upd_ne c1, upd_ne c2, upd_ne c1]
end
/-! ### the end of a law, with the classes -/
theorem walk_lawM {l : PySem.W.OpenLaw} {q : Program} {loose : List Str} {XP : (Str → Option Value) → Heap → Prop} {YP : World → Heap → Prop} {d : DefRec} {K : Params → PySem.W.Frag} {k : Nat} {x : Str} {f : Sq Int → R Bool}
    (H : ∀ ns : List Int, ns.length ≤ 63 → f ⟨ns⟩ = .ok true) (hn : l.most = some 63) (hdf : d.params.defaults = []) (hr : Room k callerA) (hY : ∀ (w : World) (h : Heap), YP w h → (K w.params).In h)
    (F : ∀ (w : World) (mg : Str → Option Value) (fa : Addr) (h : Heap), (K w.params).In h → h.Ns mainGlobals mg → mg d.name = some (.ref fa) →
      ∃ fd : FuncData, (∀ (s : Shared) (u : Value), BindsTo s fd ⟨[u], []⟩ [(x, u)]) ∧ ∀ base : Heap, (K w.params).In base → base.Ns mainGlobals mg → FnOk l.prog w (K w.params) mg base (L2.CX l.prog w) k fa fd [x] (spF ⟨K w.params, mK (K w.params)⟩ (fun x : Sq Int × Unit => f x.1) (fun x : Bool => kFr (K w.params) x))) :
    PySem.W.WalkO q loose XP YP l.row.toRowW d [] (fun f vs => PySem.call f vs) :=
  L2.walk_of (n := 63) (k := k) (x := x) (CX := fun w => L2.CX l.prog w) (sp := fun w => spF ⟨K w.params, mK (K w.params)⟩ (fun x : Sq Int × Unit => f x.1) (fun x : Bool => kFr (K w.params) x)) hn (by decide) hdf hr hY F (fun _ Hh a ns hl _ hS => law_end H Hh a ns hl hS) fun _ _ _ _ _ z => cx_never z
/-! ### classes -/
structure ExK (K : Frag) (n : Str) (C : Addr) : Prop where
  ns : PySem.W.nsIn K mainGlobals n = some (some (.ref C))
  o : OexC K C
  e : ExcC K C
  x : XfC K C
theorem exK_mk {K : Frag} {n : Str} {C N : Addr} {nm q : Str} {bs bm : List Value} {sn : List Str} {sub : List Value} {ab : Bool} {col : Option Bool} {dd : Option Addr} {k0 k1 k2 k3 k5 : Option Value}
    (ns : PySem.W.nsIn K mainGlobals n = some (some (.ref C))) (lk : K.lookup C = some (excClassObj nm q C N bs bm true sn sub ab col dd k0 k1 k2 k3 k5 "ValueError.__new__")) (rv : PySem.HandSPX.refsVE bm = true)
    (sa : PySem.W.findIn K (.ref C) "__setattr__" = some (some (.builtin "object.__setattr__"))) (exC : PySem.W.subIn K (.ref C) (.type "BaseException") = some true) (tyC : PySem.W.typeIn K (.ref C) = some (.type "type")) (kC : PySem.W.keepIn K (.ref C) = true)
    (ga : PySem.W.findIn K (.ref C) "__getattribute__" = some (some (.builtin "BaseException.__getattribute__"))) (gg : PySem.W.findIn K (.ref C) "__getattr__" = some none) (hd : PySem.W.hasDictIn K C = true)
    (ha : PySem.W.findIn K (.ref C) "__class__" = some (some (.builtin "object.__class__"))) (hn : PySem.W.specialIn K (.builtin "object.__class__") "__get__" = some (some (.builtin "getset_descriptor.__get__"))) (ht : PySem.W.takesIn K (.builtin "object.__class__") = some true)
    (hm : PySem.W.mroIn K C (.type "object") = some true) : ExK K n C :=
  ⟨ns, ⟨⟨nm, q, N, bs, bm, sn, sub, ab, col, dd, k0, k1, k2, k3, k5, lk, rv⟩, sa, exC, tyC, kC⟩, ⟨ga, gg, exC, hd, ha, hn, ht, hm⟩, ⟨ga, gg, exC, hd⟩⟩
theorem ExK.only {K : Frag} {n : Str} {C D : Addr} (h : ExK K n C) (e : PySem.W.nsIn K mainGlobals n = some (some (.ref D))) : D = C := by
  rw [h.ns] at e
  cases e
  rfl
theorem kit_self {K : Frag} {v : Value} : PySem.W.kitOne K v v = some true := by
  unfold PySem.W.kitOne
  rw [if_pos (beq_self_eq_true v)]
theorem kit_own {K : Frag} {C D : Addr} {b : Bool} (hne : (Value.ref C == Value.ref D) = false) (hd : PySem.W.hasDictIn K D = true) (ty : PySem.W.typeIn K (.ref D) = some (.type "type")) (hs : PySem.W.subIn K (.ref C) (.ref D) = some b) : PySem.W.kitOne K (.ref C) (.ref D) = some b := by
  obtain ⟨cd, hc, _⟩ := PySem.W.any_some hd
  unfold PySem.W.kitOne PySem.W.kitCls
  rw [hne, if_neg Bool.false_ne_true]
  dsimp only
  rw [hc, ty, if_pos (by rfl)]
  exact hs
theorem kit_tyE {K : Frag} {C : Addr} {b : Bool} {T : String} (hk : PySem.W.kitMeta T = true) (hs : PySem.W.subIn K (.ref C) (.type T) = some b) : PySem.W.kitOne K (.ref C) (.type T) = some b := by
  unfold PySem.W.kitOne PySem.W.kitCls
  rw [if_neg (by intro z; exact absurd (beq_iff_eq.mp z) (fun e => nomatch e))]
  dsimp only
  rw [if_pos hk]
  exact hs
/-! ### tables of the classes that are raised -/
def IsT (K : Frag) (tb : List (Str × Bool)) (cV : Value) : Prop := ∀ p ∈ tb, ∀ C, PySem.W.nsIn K mainGlobals p.1 = some (some (.ref C)) → ExcC K C ∧ PySem.W.kitOne K (.ref C) cV = some p.2
theorem isT_nil {K : Frag} {cV : Value} : IsT K [] cV := fun p hp => absurd hp (by simp)
theorem isT_cons {K : Frag} {cV : Value} {n : Str} {C : Addr} {b : Bool} {tb : List (Str × Bool)} (h : ExK K n C) (k : PySem.W.kitOne K (.ref C) cV = some b) (t : IsT K tb cV) : IsT K ((n, b) :: tb) cV := fun p hp D hD => by
  rcases List.mem_cons.mp hp with z | z
  · subst z
    rw [h.only hD]
    exact ⟨h.e, k⟩
  · exact t p z D hD
def FlT (K : Frag) (cat : List Str) (f : Str) : Prop := ∀ n ∈ cat, ∀ C, PySem.W.nsIn K mainGlobals n = some (some (.ref C)) → XfC K C ∧ PySem.W.findIn K (.ref C) f = some none
theorem flT_nil {K : Frag} {f : Str} : FlT K [] f := fun p hp => absurd hp (by simp)
theorem flT_cons {K : Frag} {f n : Str} {C : Addr} {cat : List Str} (h : ExK K n C) (k : PySem.W.findIn K (.ref C) f = some none) (t : FlT K cat f) : FlT K (n :: cat) f := fun p hp D hD => by
  rcases List.mem_cons.mp hp with z | z
  · subst z
    rw [h.only hD]
    exact ⟨h.x, k⟩
  · exact t p z D hD
def CatT (K : Frag) (M : Str → Value) (cat : List Str) (cv : Value) : Prop := ∀ n ∈ cat, ∃ C, M n = .ref C ∧ PySem.W.nsIn K mainGlobals n = some (some (.ref C)) ∧ PySem.W.exmOne K (.ref C) cv = some true
theorem catT_nil {K : Frag} {M : Str → Value} {cv : Value} : CatT K M [] cv := fun p hp => absurd hp (by simp)
theorem catT_cons {K : Frag} {n : Str} {C : Addr} {cat : List Str} {cv : Value} (h : ExK K n C) (k : PySem.W.exmOne K (.ref C) cv = some true) (t : CatT K (mK K) cat cv) : CatT K (mK K) (n :: cat) cv := fun p hp => by
  rcases List.mem_cons.mp hp with z | z
  · subst z
    exact ⟨C, mK_of h.ns, h.ns, k⟩
  · exact t p z
/-- the first suite of a class -/
def inCls (s : Stmt) (j : Nat) : Stmt := match s with
  | .ClassDef _ _ _ body .. => body.getD j s
  | _ => s
end Fw

namespace Fw
open PySem L2 PySem.Spec
open PyProof.Rows hiding St
/-! ### isinstance(e, (C, D, ..)) -/
def rIsKT (K : Frag) : List V → Hp → VK → Prop := fun xs H Q => ∃ (a D p : Addr) (d : Option Addr) (cs : List Addr) (b : Bool), xs = [.ref a, .ref p] ∧ H a = some (exN a D d) ∧ (d = none ∨ ∃ dd fs, d = some dd ∧ H dd = some (.xd fs)) ∧ H p = some (.tup (cs.map V.ref)) ∧ ExcC K D ∧ PySem.W.kitAny K (.ref D) (cs.map Value.ref) = some b ∧ Q (.bl b) H
theorem vals_refs : ∀ {cs : List Addr} {us : List Value}, Vals (cs.map V.ref) us → us = cs.map Value.ref
  | [], _, .nil => rfl
  | c :: cs, _, .cons h t => by
    rw [vals_refs t, List.map_cons]
    exact congrArg (· :: _) h
theorem call_isKT {X : Cx} : CallR X (.builtin "isinstance") (rIsKT X.K) := by
  intro pins s σ H xs us Q I r h
  obtain ⟨a, D, p, d, cs, b, rfl, ha, hd, hp, C, e, q⟩ := h
  cases r with
  | cons rx rr =>
    cases rr with
    | cons rt rr =>
      cases rr
      cases rx
      cases rt
      have x : ObjOk X.prog X.w H s.heap p (.tup (cs.map V.ref)) := I.hok p _ hp
      obtain ⟨_, its, vi, o, ho, hc, n, hdt⟩ := x
      have ei := vals_refs vi
      subst ei
      obtain ⟨oc, od, oda, osl⟩ := o
      dsimp only at hc hdt
      subst hc hdt
      exact PySem.W.kia_tup (kitx_excO C.hg C.hk C.hs C.hd C.ha C.hn C.ht C.hm) I.kIn (inst_of I.hok ha hd) ho e (fun z => nomatch z) fun tk => ⟨.bl b, H, I.kept (t' := tk) fun _ _ z => z, rfl, q⟩
/-- a tuple of classes -/
def kRfs (cs : List Addr) : Kd := ⟨fun _ v W => ∃ p, v = .ref p ∧ W.G p = some (.tup (cs.map V.ref)), fun ⟨p, e, h⟩ z => ⟨p, e, z.g _ _ h⟩, fun _ h => h⟩
section
variable {c : Cn} {W0 : Wd} {X : WX} {As : List Sl} {K : Frag}
def Rfs (c : Cn) (W0 : Wd) (ta : TA) (As : List Sl) (cs : List Addr) : Prop := Axp c W0 ta As ⟨fun _ vs _ => vs = cs.map V.ref, fun h _ => h, fun _ h => h⟩
theorem rfs_nil : Rfs c W0 tNil As [] := fun σ W a W1 e Q q => q [] W1 (Le.refl _) rfl
theorem rfs_cons {te : TE} {ta : TA} {C : Addr} {cs : List Addr} (h : Exp c W0 te As (kV (.ref C))) (t : Rfs c W0 ta As cs) : Rfs c W0 (tCons te ta) As (C :: cs) := fun σ W a W1 e Q q =>
  h σ W a W1 e _ fun v W2 e2 p => t σ W a W2 (e.trans e2) _ fun vs W3 e3 ps => q _ W3 (e2.trans e3) (by rw [show v = V.ref C from p, show vs = cs.map V.ref from ps]; rfl)
theorem e_rfs {ta : TA} {cs : List Addr} (h : Rfs c W0 ta As cs) (l : cs.length ≤ 100) : Exp c W0 (tTup ta) As (kRfs cs) := fun σ W a W1 e Q q =>
  h σ W a W1 e _ fun vs W2 e2 ps => by
    have ps' : vs = cs.map V.ref := ps
    subst ps'
    have h100 : (100 : Nat) ≤ sizeLine := by rw [sizeLine_eq]; decide
    exact ⟨by rw [List.length_map]; omega, fun p hp => q _ (W2.nf p _) (e2.trans (Le.nf hp)) ⟨p, rfl, upd_same⟩⟩
theorem o_isKT {cs : List Addr} (tb : List (Str × Bool)) (htb : ∀ p ∈ tb, ∀ C, PySem.W.nsIn K mainGlobals p.1 = some (some (.ref C)) → ExcC K C ∧ PySem.W.kitAny K (.ref C) (cs.map Value.ref) = some p.2) :
    OpA (rIsKT K) (fun z : Exc × Unit => aCons (kFr K z.1) (aCons (kRfs cs) aNil)) (fun z => R.isK tb z.1) (fun b : Bool => kFr K b) := fun z => by
  have hr : R.isK tb z.1 = match tb.lookup z.1.cls with | some b => R.ok b | none => R.no := rfl
  cases hl : tb.lookup z.1.cls with
  | none =>
    rw [hl] at hr
    dsimp only at hr ⊢
    rw [hr]
    trivial
  | some b =>
    rw [hl] at hr
    dsimp only at hr ⊢
    rw [hr]
    refine fun W0 W vs ⟨v, r, e, ⟨a, C, d, ev, hn, hg, hd, _⟩, w, r2, e2, ⟨p, ew, hp⟩, en⟩ Q q => ?_
    subst e e2 en ew ev
    obtain ⟨xc, hk⟩ := htb _ (lookup_mem' hl) C hn
    refine ⟨a, C, p, d, cs, b, rfl, W.sub _ _ hg, ?_, W.sub _ _ hp, xc, hk, q _ W (Le.refl _) rfl⟩
    cases hfs : z.1.fs with
    | nil => rw [hfs] at hd; exact .inl hd
    | cons p r =>
      rw [hfs] at hd
      obtain ⟨dd, ed, gd⟩ := hd
      exact .inr ⟨dd, _, ed, W.sub _ _ gd⟩
end
def IsTT (K : Frag) (tb : List (Str × Bool)) (cs : List Addr) : Prop := ∀ p ∈ tb, ∀ C, PySem.W.nsIn K mainGlobals p.1 = some (some (.ref C)) → ExcC K C ∧ PySem.W.kitAny K (.ref C) (cs.map Value.ref) = some p.2
theorem isTT_nil {K : Frag} {cs : List Addr} : IsTT K [] cs := fun p hp => absurd hp (by simp)
theorem isTT_cons {K : Frag} {cs : List Addr} {n : Str} {C : Addr} {b : Bool} {tb : List (Str × Bool)} (h : ExK K n C) (k : PySem.W.kitAny K (.ref C) (cs.map Value.ref) = some b) (t : IsTT K tb cs) : IsTT K ((n, b) :: tb) cs := fun p hp D hD => by
  rcases List.mem_cons.mp hp with z | z
  · subst z
    rw [h.only hD]
    exact ⟨h.e, k⟩
  · exact t p z D hD
theorem any_nil {K : Frag} {t : Value} : PySem.W.kitAny K t (([] : List Addr).map Value.ref) = some false := rfl
theorem any_no {K : Frag} {t : Value} {C : Addr} {cs : List Addr} {b : Bool} (h : PySem.W.kitOne K t (.ref C) = some false) (r : PySem.W.kitAny K t (cs.map Value.ref) = some b) : PySem.W.kitAny K t ((C :: cs).map Value.ref) = some b := by
  rw [List.map_cons]
  unfold PySem.W.kitAny
  rw [h]
  exact r
theorem any_yes {K : Frag} {t : Value} {C : Addr} {cs : List Addr} (h : PySem.W.kitOne K t (.ref C) = some true) : PySem.W.kitAny K t ((C :: cs).map Value.ref) = some true := by
  rw [List.map_cons]
  unfold PySem.W.kitAny
  rw [h]
section
variable {K : Frag}
theorem o_intI : OpA (fun xs H Q => (∃ i, xs = [V.int i] ∧ Q (V.int i) H) ∨ ∃ k, xs = [V.bl k] ∧ Q (V.int (if k then 1 else 0)) H) (fun z : Int × Unit => aCons (kFr K z.1) aNil) (fun z => .ok z.1) (fun n : Int => kFr K n) := fun z W0 W vs ⟨v, r, e, ev, en⟩ Q q => by
  subst e en
  exact .inl ⟨z.1, by rw [show v = V.int z.1 from ev], q _ W (Le.refl _) rfl⟩
theorem o_intB : OpA (fun xs H Q => (∃ i, xs = [V.int i] ∧ Q (V.int i) H) ∨ ∃ k, xs = [V.bl k] ∧ Q (V.int (if k then 1 else 0)) H) (fun z : Bool × Unit => aCons (kFr K z.1) aNil) (fun z => .ok (if z.1 then (1 : Int) else 0)) (fun n : Int => kFr K n) := fun z W0 W vs ⟨v, r, e, ev, en⟩ Q q => by
  subst e en
  exact .inr ⟨z.1, by rw [show v = V.bl z.1 from ev], q _ W (Le.refl _) rfl⟩
end
theorem pe_xkK {X : Cx} {K : Frag} (hk : X.K = K) {e : Expr} {te : TE} {pos : Pos} {n : Str} (he : PE X e te) (hb : attributeBase e n X.env (eval e X.env) = eval e X.env := by rfl) : PE X (.Attribute e n pos) (tXk K n te) := by
  subst hk
  exact pe_xk he hb
instance : NN Exc := ⟨fun ⟨_, _, _, e, _⟩ => by rw [e]; exact fun z => nomatch z⟩
end Fw

namespace Fw
open PySem L2
section
variable {J S T U ρ α β γ δ : Type} {c : Cn} {X : WX} {kr : ρ → Kd} {Ls : List Sl} {Js : J → List Sl} {B : Bd} {As : List Sl} {Bs : S → List Sl} {K : Frag}
/-! ### a, b, c = e -/
def lt3 (x : T3 α β γ) (k : α → β → γ → Out S J ρ) : Out S J ρ := k x.a x.b x.c
def R.to3 (m : R (T3 α β γ)) (k : α → β → γ → Out S J ρ) : Out S J ρ := m.to fun x => k x.a x.b x.c
@[simp] theorem R.to3_ok (x : T3 α β γ) (k : α → β → γ → Out S J ρ) : R.to3 (R.ok x) k = k x.a x.b x.c := rfl
theorem d_let3 [Rp α] [Rp β] [Rp γ] {te : TE} {u : TS} {x : T3 α β γ} {k : α → β → γ → Out S J ρ} (i1 i2 i3 : Nat) (h : Exp c B.W0 te As (kFr c.K x)) (hk : ∀ y z w, Den c X kr Ls Js B u (((As.set i1 (.fr y)).set i2 (.fr z)).set i3 (.fr w)) (k y z w) Bs) :
    Den c X kr Ls Js B (tSeq (tAsg te (gTup c.K 3 (gCons (gName i1) (gCons (gName i2) (gCons (gName i3) gNil))))) u) As (lt3 x k) Bs := fun D σ W a f =>
  h σ W a W (Le.refl _) _ fun v W2 e ⟨p, va, vb, vc, ev, hp, r1, r2, r3⟩ => ⟨p, [va, vb, vc], ev, W2.sub.sqt hp, rfl, va, [vb, vc], rfl, vb, [vc], rfl, vc, [], rfl, rfl, hk x.a x.b x.c D _ W2 ((((a.mono e).setF r1).setF r2).setF r3) f⟩
theorem d_get3 [Rp α] [Rp β] [Rp γ] {te : TE} {u : TS} {m : R (T3 α β γ)} {k : α → β → γ → Out S J ρ} (i1 i2 i3 : Nat) (lx : Lx Ls As) (h : Exr c B.W0 X te As m fun x => kFr c.K x) (hk : ∀ y z w, Den c X kr Ls Js B u (((As.set i1 (.fr y)).set i2 (.fr z)).set i3 (.fr w)) (k y z w) Bs) :
    Den c X kr Ls Js B (tSeq (tAsg te (gTup c.K 3 (gCons (gName i1) (gCons (gName i2) (gCons (gName i3) gNil))))) u) As (R.to3 m k) Bs := fun D σ W a f => by
  have h' := h σ W a
  cases m with
  | no => exact False.elim f
  | ex e => exact h' W (Le.refl _) _ fun cls d W2 e2 z => f cls d σ W2 (lx_at lx (a.mono e2)) z
  | ok x => exact h' W (Le.refl _) _ fun v W2 e ⟨p, va, vb, vc, ev, hp, r1, r2, r3⟩ => ⟨p, [va, vb, vc], ev, W2.sub.sqt hp, rfl, va, [vb, vc], rfl, vb, [vc], rfl, vc, [], rfl, rfl, hk x.a x.b x.c D _ W2 ((((a.mono e).setF r1).setF r2).setF r3) f⟩
/-! ### partition -/
@[irreducible] def R.part (x y : Str) : R (T3 Str Str Str) := if (y.length == 0) = false ∧ x.length ≤ sizeLine ∧ SOk (Txt.partition x y).1 ∧ SOk (Txt.partition x y).2.1 ∧ SOk (Txt.partition x y).2.2 then .ok ⟨(Txt.partition x y).1, (Txt.partition x y).2.1, (Txt.partition x y).2.2⟩ else .no
theorem o_part : Op2 (fun x y H Q => (fun (x : V) (xs : List V) (H : Hp) (Q : VK) => ∃ a b, x = V.str a ∧ xs = [V.str b] ∧ (b.length == 0) = false ∧ a.length ≤ sizeLine ∧
      ∀ p, H p = none → Q (V.ref p) (upd H p (.tup [V.str (Txt.partition a b).1, V.str (Txt.partition a b).2.1, V.str (Txt.partition a b).2.2]))) x [y] H Q) (fun x : Str => kFr K x) (fun x : Str => kFr K x) R.part (fun z : T3 Str Str Str => kFr K z) := fun x y => by
  unfold R.part
  by_cases h : (y.length == 0) = false ∧ x.length ≤ sizeLine ∧ SOk (Txt.partition x y).1 ∧ SOk (Txt.partition x y).2.1 ∧ SOk (Txt.partition x y).2.2
  · rw [if_pos h]
    intro W0 W v w hv hw Q q
    have ev : v = .str x := hv.1
    have ew : w = .str y := hw.1
    subst ev ew
    exact ⟨x, y, rfl, rfl, h.1, h.2.1, fun p hp => q _ (W.nf p _) (Le.nf hp) ⟨p, _, _, _, rfl, .inl (.inl upd_same), ⟨rfl, h.2.2.1⟩, ⟨rfl, h.2.2.2.1⟩, ⟨rfl, h.2.2.2.2⟩⟩⟩
  · rw [if_neg h]
    trivial
end
instance {α : Type} [Rp α] : NN (DL α) := ⟨fun {K x v G} h => by
  obtain ⟨p, vs, e, _⟩ := (show Rp.rep K x.l v G from h)
  rw [e]
  exact fun z => nomatch z⟩
end Fw

namespace Fw
open PySem L2
/-! ### sorted -/
/-- two lists in order of the same things are one -/
theorem sorted_uniq {α : Type} {le : α → α → Prop} (anti : ∀ a b, le a b → le b a → a = b) : ∀ {l m : List α}, l.Perm m → l.Pairwise le → m.Pairwise le → l = m
  | [], m, p, _, _ => (List.nil_perm.mp p).symm
  | a :: l, [], p, _, _ => absurd p.length_eq (by simp)
  | a :: l, b :: m, p, h, k => by
    obtain ⟨h1, h2⟩ := List.pairwise_cons.mp h
    obtain ⟨k1, k2⟩ := List.pairwise_cons.mp k
    have e : a = b := by
      have ma : a ∈ b :: m := p.mem_iff.mp List.mem_cons_self
      have mb : b ∈ a :: l := p.mem_iff.mpr List.mem_cons_self
      rcases List.mem_cons.mp ma with e | ma
      · exact e
      · rcases List.mem_cons.mp mb with e | mb
        · exact e.symm
        · exact anti _ _ (h1 _ mb) (k1 _ ma)
    subst e
    exact congrArg (a :: ·) (sorted_uniq anti (List.Perm.cons_inv p) h2 k2)
def leS (a b : Str) : Bool := !decide (b.cps.toList < a.cps.toList)
def sortS (xs : List Str) : List Str := xs.mergeSort leS
def sortI (xs : List Int) : List Int := xs.mergeSort (fun a b => decide (a ≤ b))
theorem nlt {a b : List Nat} : ¬ a < b ↔ b ≤ a := List.not_lt
theorem leS_le {a b : Str} : leS a b = true ↔ a.cps.toList ≤ b.cps.toList := by
  unfold leS
  rw [Bool.not_eq_true', decide_eq_false_iff_not]
  exact nlt
theorem leS_trans (a b c : Str) (h : leS a b = true) (k : leS b c = true) : leS a c = true := by
  rw [leS_le] at *
  exact List.le_trans h k
theorem leS_total (a b : Str) : (leS a b || leS b a) = true := by
  rw [Bool.or_eq_true, leS_le, leS_le]
  exact List.le_total _ _
theorem leS_anti (a b : Str) (h : leS a b = true) (k : leS b a = true) : a = b := by
  rw [leS_le] at *
  exact PySem.W.str_of_cps (List.le_antisymm h k)
theorem sortS_pw (xs : List Str) : (sortS xs).Pairwise (fun a b => leS a b = true) := List.pairwise_mergeSort leS_trans leS_total xs
theorem sortS_perm (xs : List Str) : (sortS xs).Perm xs := List.mergeSort_perm xs leS
theorem sortI_pw (xs : List Int) : (sortI xs).Pairwise (· ≤ ·) := (List.pairwise_mergeSort (le := fun a b : Int => decide (a ≤ b)) (fun a b c h k => by simp at *; omega) (fun a b => by simp; omega) xs).imp fun h => by simpa using h
theorem sortI_perm (xs : List Int) : (sortI xs).Perm xs := List.mergeSort_perm xs _
theorem sortI_of {ys xs : List Int} (p : ys.Perm xs) (h : ys.Pairwise (· ≤ ·)) : ys = sortI xs :=
  sorted_uniq (fun a b h k => by omega) (p.trans (sortI_perm xs).symm) h (sortI_pw xs)

theorem rs_pw {p : Str} : ∀ {l : List Str} {p : Str}, PyProof.Rows.risingS p l = true → (p :: l).Pairwise (fun a b => leS a b = true)
  | [], p, _ => List.pairwise_singleton _ _
  | x :: r, p, h => by
    unfold PyProof.Rows.risingS at h
    rw [Bool.and_eq_true] at h
    have h1 : leS p x = true := by
      unfold leS
      rw [← h.1]
      exact PyProof.Rows.le_meets p x
    have t := rs_pw h.2 (p := x)
    refine List.pairwise_cons.mpr ⟨fun y hy => ?_, t⟩
    rcases List.mem_cons.mp hy with e | hy
    · exact e ▸ h1
    · exact leS_trans _ _ _ h1 ((List.pairwise_cons.mp t).1 y hy)
theorem sortS_of {ys xs : List Str} (p : ys.Perm xs) (h : PyProof.Rows.sortedS ys = true) : ys = sortS xs := by
  refine sorted_uniq (fun a b h k => leS_anti a b h k) (p.trans (sortS_perm xs).symm) ?_ (sortS_pw xs)
  cases ys with
  | nil => exact List.Pairwise.nil
  | cons x r => exact rs_pw h (p := x)
section
variable {K : Frag}
theorem al_strsV {G : Hp} {xs : List Str} {vs : List V} (h : Al (fun x v => Rp.rep K x v G) xs vs) : vs = xs.map V.str := by
  refine List.ext_getElem? fun i => ?_
  rw [List.getElem?_map]
  cases e : xs[i]? with
  | none =>
    have : vs[i]? = none := by
      rw [List.getElem?_eq_none_iff] at e ⊢
      rw [← h.1]; exact e
    rw [this]; rfl
  | some x =>
    obtain ⟨v, ev, r⟩ := h.get e
    rw [ev]
    exact congrArg some r.1
theorem strs_ok {G : Hp} {xs : List Str} {vs : List V} (h : Al (fun x v => Rp.rep K x v G) xs vs) : ∀ x ∈ xs, SOk x := fun x hx => by
  obtain ⟨i, hi, e⟩ := List.getElem_of_mem hx
  obtain ⟨v, _, r⟩ := h.get (List.getElem?_eq_some_iff.mpr ⟨hi, e⟩)
  exact r.2
theorem al_of_strs {G : Hp} {xs : List Str} (h : ∀ x ∈ xs, SOk x) : Al (fun x v => Rp.rep K x v G) xs (xs.map V.str) := ⟨by simp, fun i x v a b => by
  rw [List.getElem?_map, a] at b
  cases b
  exact ⟨rfl, h x (List.mem_of_getElem? a)⟩⟩
theorem al_of_ints {G : Hp} {xs : List Int} : Al (fun x v => Rp.rep K x v G) xs (xs.map V.int) := ⟨by simp, fun i x v a b => by
  rw [List.getElem?_map, a] at b
  cases b
  rfl⟩
theorem nw_list [Rp α] {W : Wd} {A : Wd} {p : Addr} {xs : List α} {vs : List V} (e : Le A W) (hp : W.H p = none) (al : Al (fun x v => Rp.rep K x v W.G) xs vs) (l : xs.length ≤ sizeLine) : (kNw K xs).p A (.ref p) (W.no p (.lst vs) hp) :=
  ⟨[p], ⟨p, vs, rfl, rfl, W.sub.nope hp, upd_same, al, l⟩, fun b hb => by rw [List.mem_singleton.mp hb]; exact e.fr hp⟩
@[irreducible] def R.sortS (xs : List Str) : R (List Str) := if xs.length < 64 then .ok (Fw.sortS xs) else .no
@[irreducible] def R.sortI (xs : List Int) : R (List Int) := if xs.length < 64 then .ok (Fw.sortI xs) else .no
theorem o_sortS : OpA (rSortedS K) (fun z : List Str × Unit => aCons (kSh K z.1) aNil) (fun z => R.sortS z.1) (fun x : List Str => kNw K x) := fun z => by
  unfold R.sortS
  dsimp only
  by_cases h : z.1.length < 64
  · rw [if_pos h]
    intro W0 W vs ⟨v, r, e, ⟨p, ls, ev, hs, al, l⟩, en⟩ Q q
    subst e en ev
    have e1 := al_strsV al
    subst e1
    refine ⟨p, z.1, rfl, hs, h, fun ys a pm so hn => ?_⟩
    have e2 := sortS_of pm so
    subst e2
    have hl : (Fw.sortS z.1).length = z.1.length := (sortS_perm z.1).length_eq
    exact q _ (W.no a _ hn) (Le.no hn) (nw_list (Le.refl _) hn (al_of_strs fun x hx => strs_ok al x ((sortS_perm z.1).mem_iff.mp hx)) (by rw [hl]; exact l))
  · rw [if_neg h]; trivial
theorem o_sortI : OpA (rSorted K) (fun z : List Int × Unit => aCons (kSh K z.1) aNil) (fun z => R.sortI z.1) (fun x : List Int => kNw K x) := fun z => by
  unfold R.sortI
  dsimp only
  by_cases h : z.1.length < 64
  · rw [if_pos h]
    intro W0 W vs ⟨v, r, e, ⟨p, ls, ev, hs, al, l⟩, en⟩ Q q
    subst e en ev
    have e1 := al_ints al
    subst e1
    refine ⟨p, z.1, rfl, hs, h, fun ys a pm so hn => ?_⟩
    have e2 := sortI_of pm so
    subst e2
    have hl : (Fw.sortI z.1).length = z.1.length := (sortI_perm z.1).length_eq
    exact q _ (W.no a _ hn) (Le.no hn) (nw_list (Le.refl _) hn al_of_ints (by rw [hl]; exact l))
  · rw [if_neg h]; trivial
/-- sorted(d), its keys texts -/
def rSortedDS : List V → Hp → VK → Prop := fun xs H Q => ∃ (a : Addr) (kvs : List (Key × V)) (ks : List Str), xs = [.ref a] ∧ Rd H a (.dK kvs) ∧ kvs.map (·.1) = ks.map Sum.inr ∧ ks.length < 64 ∧
    ∀ ys p, ys.Perm ks → PyProof.Rows.sortedS ys = true → H p = none → Q (.ref p) (upd H p (.lst (ys.map V.str)))
end
section
variable {K : Frag} {α : Type} [Rp α]
def sortD (x : Dk Str α) : List Str := Fw.sortS (x.l.map (·.1))
@[irreducible] def R.sortD (x : Dk Str α) : R (List Str) := if x.l.length < 64 ∧ ∀ p ∈ x.l, SOk p.1 then .ok (Fw.sortD x) else .no
theorem dr_keys {G : Hp} : ∀ {x : List (Str × α)} {q : List (Str × V)}, DR K x q G → q.map (·.1) = x.map (·.1)
  | [], [], _ => rfl
  | a :: x, b :: q, h => by
    rw [List.map_cons, List.map_cons, dr_keys h.2.2, h.1]
  | [], _ :: _, h => h.elim
  | _ :: _, [], h => h.elim
theorem o_sortD : OpA rSortedDS (fun z : Dk Str α × Unit => aCons (kDs K z.1) aNil) (fun z => R.sortD z.1) (fun x : List Str => kNw K x) := fun z => by
  unfold R.sortD
  dsimp only
  by_cases h : z.1.l.length < 64 ∧ ∀ p ∈ z.1.l, SOk p.1
  · rw [if_pos h]
    intro W0 W vs ⟨v, r, e, ⟨p, kv, ev, hs, al, l⟩, en⟩ Q q
    subst e en ev
    refine ⟨p, _, z.1.l.map (·.1), rfl, hs, ?_, by rw [List.length_map]; exact h.1, fun ys a pm so hn => ?_⟩
    · show (kv.map fun p => (kS p.1, p.2)).map (·.1) = _
      rw [List.map_map, ← dr_keys al, List.map_map]
      rfl
    have e2 := sortS_of pm so
    subst e2
    have hp := sortS_perm (z.1.l.map (·.1))
    refine q _ (W.no a _ hn) (Le.no hn) (nw_list (Le.refl _) hn (al_of_strs fun x hx => ?_) ?_)
    · obtain ⟨y, hy, e⟩ := List.mem_map.mp (hp.mem_iff.mp hx)
      exact e ▸ h.2 y hy
    · show (Fw.sortS (z.1.l.map (·.1))).length ≤ _
      rw [hp.length_eq, List.length_map]; exact l
  · rw [if_neg h]; trivial
end
end Fw

namespace Fw
open PySem L2 PyProof.Rows PySem.Calls
/-! ### sorted(xs, key=f) -/
/-- untracked records of ours have changed -/
theorem turnedL {X : Cx} {pins : List (Addr × Obj)} {σ : L2.St} {H : Hp} {s : Shared} {h' : Heap} {t' : Nat} (ch : List Addr) (I : Inv X pins σ H s) (k : ∀ b o, b ∉ ch → s.heap.get? b = some o → h'.get? b = some o)
    (f : ∀ b ∈ ch, FpOk X pins H b) : Inv X pins σ H { s with heap := h', toks := t' } := by
  have nit : ∀ b u, H b = some u → b ∉ ch := fun b u e z => by rw [(f b z).1] at e; cases e
  have hL : X.env.locals ∉ ch := fun z => (f _ z).2.1 rfl
  refine I.step (g' := s.gens) (d' := s.drawn) (ch := ch) (fun b hb => ?_) (fun b o _ _ hc e _ => k b o hc e) (fun b o _ _ hc e _ => ⟨o.slots, k b o hc e⟩) (fun _ _ _ _ n => n)
    (fun b o hc e => ⟨o, k b o hc e⟩) (fun _ _ e => e) (fun _ _ _ e => e) (fun b ps e => ⟨#[], by rw [e]; simp⟩) (fun m hm => ?_) (fun b u e => ?_) I.bare
  · obtain ⟨_, h0, _, h1, h2, h3⟩ := f b hb
    exact ⟨h1, h0, h2, h3⟩
  · obtain ⟨o, es, ep, ho, r⟩ := hm
    exact ⟨o, es, ep, k _ o hL ho, r⟩
  · refine (I.hok b u e).stay (fun c v hc q => k c v ?_ q) (fun _ q => q) fun _ _ q => q
    rcases hc with z | z
    · rw [z]; exact nit b u e
    · exact nit c _ z
theorem fp_weak {X : Cx} {pins pins' : List (Addr × Obj)} {H : Hp} {b : Addr} (f : FpOk X pins H b) (h : ∀ p ∈ pins', p ∈ pins ∨ p.1 ≠ b) : FpOk X pins' H b :=
  ⟨f.1, f.2.1, f.2.2.1, f.2.2.2.1, f.2.2.2.2.1, fun p hp => (List.mem_append.mp hp).elim (fun z => f.2.2.2.2.2 p (List.mem_append_left _ z)) fun z => (h p z).elim (fun z => f.2.2.2.2.2 p (List.mem_append_right _ z)) id⟩
theorem fp_at {X : Cx} {pins : List (Addr × Obj)} {H H' : Hp} {b : Addr} (f : FpOk X pins H b) (h : H' b = none) : FpOk X pins H' b := ⟨h, f.2⟩
/-- a record of ours is pinned -/
theorem pinL {X : Cx} {pins : List (Addr × Obj)} {σ : L2.St} {H : Hp} {s : Shared} {b : Addr} {o : Obj} (I : Inv X pins σ H s) (f : FpOk X pins H b) (e : s.heap.get? b = some o) (hd : ∀ v, o.data ≠ .cell v) : Inv X ((b, o) :: pins) σ H s :=
  I.pins_of fun p hp => by
    rcases List.mem_cons.mp hp with z | z
    · subst z; exact ⟨e, f.1, f.2.1, f.2.2.1, hd⟩
    · exact I.pin p (List.mem_append_right _ z)
theorem unpinL {X : Cx} {pins : List (Addr × Obj)} {σ : L2.St} {H : Hp} {s : Shared} {p : Addr × Obj} (I : Inv X (p :: pins) σ H s) : Inv X pins σ H s := I.pins_of fun r hr => I.pin r (List.mem_append_right _ (List.mem_cons_of_mem _ hr))
theorem lst_nc {xs : Array Value} {n : Nat} : ∀ v, (seqObj "list" xs n).data ≠ .cell v := fun v z => by cases z
/-- the datum d is read of v, wherever what is tracked stands -/
def RdD (K : Frag) (d : PyData) (v : V) (H : Hp) : Prop := ∀ (P : Program) (w : World) (h : Heap) (u : Value), K.In h → HOk P w H h → RelV v u → Reads h u d []
theorem each_of {α β : Type} {R : α → β → Prop} : ∀ {as : List α} {bs : List β}, as.length = bs.length → (∀ (i : Nat) a b, as[i]? = some a → bs[i]? = some b → R a b) → PySem.W.EachIs R as bs
  | [], [], _, _ => .nil
  | a :: as, b :: bs, l, h => .cons (h 0 a b rfl rfl) (each_of (by simpa using l) fun i x y e1 e2 => h (i + 1) x y (by simpa using e1) (by simpa using e2))
  | [], _ :: _, l, _ => by simp at l
  | _ :: _, [], l, _ => by simp at l
theorem each_at {α β : Type} {R : α → β → Prop} : ∀ {as : List α} {bs : List β}, PySem.W.EachIs R as bs → ∀ (i : Nat) a b, as[i]? = some a → bs[i]? = some b → R a b
  | _, _, .nil, i, a, b, e1, _ => by simp at e1
  | _, _, .cons h t, 0, a, b, e1, e2 => by
    cases e1; cases e2; exact h
  | _, _, .cons h t, i + 1, a, b, e1, e2 => each_at t i a b (by simpa using e1) (by simpa using e2)

theorem each_vals {β : Type} : ∀ {out : List Value} {m : List (V × β)}, PySem.W.EachIs (fun u b => RelV b.1 u) out m → Vals (m.map Prod.fst) out
  | _, _, .nil => .nil
  | _, _, .cons h t => .cons h (each_vals t)
section
variable {X : Cx} {k : Nat} {f : Addr} {fd : FuncData} {ps : List Str} {sp : Sp} {A : Around} {pins : List (Addr × Obj)} {σ : L2.St} {H : Hp} {s : Shared} {a kS : Addr} {e1 : Nat} {xs : List V} {vs : List Value} {kz : List PyData} {E : Value → Shared → Prop} {R : PySem.Fin → Shared → Prop} {P : Nat → List V → Hp → Prop}
theorem key_turn (hA : A.frames = some X.stack) (hr : Room k A) (F : FnOk X.prog X.w X.K X.mg X.base (L2.CX X.prog X.w) k f fd ps sp) (hb : Binds X.K fd ps []) (I : Inv X pins σ H s) {x : V} {u : Value} (r : RelV x u) {Q : VK} (h : sp [x] H Q (fun _ _ _ => False)) :
    wpAny (model X.prog X.w) A (call (.ref f) [u]) (EP X pins σ Q) (fun _ _ => False) s := by
  have e0 := I.env0
  have e : Env0 X.prog X.w X.K X.mg X.base A X.stack s H := ⟨hA, e0.mod, e0.bs, e0.bsz, e0.funs, e0.frf, e0.hok, e0.bare⟩
  have r2 : Vals [x] [u] := .cons r .nil
  have hl : ([u] ++ ([] : List Value)).length = ps.length := by rw [List.append_nil, ← r2.length]; exact F.len _ _ _ _ h
  have hb' := hb s [u] I.kIn hl
  rw [List.append_nil] at hb'
  refine wpAny_call (codeAny_mono (F.run A X.stack s H ⟨[u], []⟩ [u] [x] Q _ hr e hb' r2 h) fun r s' hq => ?_)
  cases r with
  | error e => exact cx_never hq
  | ok fl =>
    cases fl with
    | ret u => exact I.after hq
    | next => exact False.elim hq
    | brk => exact False.elim hq
    | cont => exact False.elim hq

theorem keyL_rest (hA : A.frames = some X.stack) (hr : Room k A) (F : FnOk X.prog X.w X.K X.mg X.base (L2.CX X.prog X.w) k f fd ps sp) (hb : Binds X.K fd ps []) (rv : Vals xs vs) (hlen : kz.length = vs.length) (hZ : vs.length ≤ sizeLine)
    (hal : PySem.W.AllAlike kz) (hsk : PySem.W.Sortable kz) (hu : ∀ d, d ∈ kz → A.units + d.depth < cLine) (hka : kS ≠ a)
    (I : Inv X ((kS, seqObj "list" #[] 0) :: (a, seqObj "list" #[] e1) :: pins) σ H s) (fk : FpOk X pins H kS) (fa : FpOk X pins H a) (p0 : P 0 [] H)
    (turn : ∀ (i : Nat) x H1 ks, xs[i]? = some x → P i ks H1 → sp [x] H1 (fun v H2 => P (i + 1) (ks ++ [v]) H2) (fun _ _ _ => False))
    (rd : ∀ ks H1, P vs.length ks H1 → Al (fun d v => RdD X.K d v H1) kz ks)
    (h : ∀ s' H1 ks out c, Inv X ((a, seqObj "list" (List.toArray out) c) :: pins) σ H1 s' → FpOk X pins H1 a → P vs.length ks H1 → PySem.W.KeyedOut false kz vs out → R (.done (.ret .none)) s') :
    wpAny (model X.prog X.w) A (ksk_rest a (.ref f) false vs.toArray e1 (.ref kS)) R E s := by
  unfold ksk_rest
  refine wpAny_bind (wpAny_rule ?_)
  first
    | rw [List.forIn_toArray]
    | (rw [← Array.forIn_toList]; simp only [List.toList_toArray])
    | rw [← Array.forIn_toList]
  refine wpAny_bind (ksk_fold (fun i s' => ∃ H1 kA e ks, Inv X ((kS, seqObj "list" kA e) :: (a, seqObj "list" #[] e1) :: pins) σ H1 s' ∧ Vals ks kA.toList ∧ kA.size = i ∧ P i ks H1) vs 0 s ⟨H, #[], 0, [], I, .nil, rfl, p0⟩ ?step ?done)
  case step =>
    rintro j x s' hx ⟨H1, kA, e, ks, I1, rk, hsz, p1⟩
    simp only [Nat.zero_add] at hsz p1 ⊢
    have hj : j < vs.length := (List.getElem?_eq_some_iff.mp hx).1
    have hj' : j < xs.length := by rw [rv.length]; exact hj
    obtain ⟨u, hu1, ru⟩ := rv.get (List.getElem?_eq_getElem hj')
    have eu : u = x := by rw [hx] at hu1; exact (Option.some.inj hu1).symm
    subst eu
    refine wpAny_bind (wpAny_attempt (wpAny_mono (key_turn hA hr F hb I1 ru (turn j _ H1 ks (List.getElem?_eq_getElem hj') p1)) (fun v s'' he => ?_) fun _ _ hF => hF.elim))
    obtain ⟨y, H2, I2, ry, p2⟩ := he
    try dsimp only
    have nk2 := (I2.pin (kS, seqObj "list" kA e) (List.mem_append_right _ List.mem_cons_self))
    have na2 := (I2.pin (a, seqObj "list" #[] e1) (List.mem_append_right _ (List.mem_cons_of_mem _ List.mem_cons_self)))
    have s1 := Heap.SameBut.update s''.heap kS (Obj.mapSeq (·.push v))
    obtain ⟨c2, hc2⟩ : ∃ c2, (s''.heap.update kS (Obj.mapSeq (·.push v))).get? kS = some (seqObj "list" (kA.push v) c2) := ⟨_, get?_update_seq nk2.1 (·.push v)⟩
    have hz : kA.size ≤ vs.length := by omega
    refine wpAny_bind (listUpdate_at nk2.1 rfl ?_ (Nat.le_trans hz hZ) (Nat.le_trans (Nat.le_of_eq (Array.size_push ..)) (Nat.succ_le_succ (Nat.le_trans hz hZ))))
    have fk2 : FpOk X ((a, seqObj "list" #[] e1) :: pins) H2 kS := fp_weak (fp_at fk nk2.2.1) fun p hp => by
      rcases List.mem_cons.mp hp with z | z
      · subst z; exact .inr hka.symm
      · exact .inl z
    refine wpAny_pure ⟨rfl, H2, kA.push v, c2, ks ++ [y], ?_, ?_, by rw [Array.size_push, hsz], p2⟩
    · refine pinL (turnedL (t' := s''.toks) [kS] (unpinL I2) (fun b o hb e => (s1.2 b (fun z => hb (by simp [z]))).trans e) fun b hb => ?_) fk2 hc2 lst_nc
      rw [List.mem_singleton.mp hb]
      exact fk2
    · have ea : (kA.push v).toList = kA.toList ++ [v] := by simp
      rw [ea]
      exact rk.append (.cons ry .nil)
  case done =>
    rintro s' ⟨H1, kA, e, ks, I1, rk, hsz, p1⟩
    rw [Nat.zero_add] at hsz p1
    have nk := (I1.pin (kS, seqObj "list" kA e) (List.mem_append_right _ List.mem_cons_self))
    have na := (I1.pin (a, seqObj "list" #[] e1) (List.mem_append_right _ (List.mem_cons_of_mem _ List.mem_cons_self)))
    have al := rd ks H1 p1
    have hk' : PySem.W.EachIs (fun v k => ∃ as, Reads s'.heap v k as) kA.toList kz := each_of (by rw [← rk.length, al.1]) fun i v d ev ed => by
      obtain ⟨y, ey, r⟩ := al.get ed
      obtain ⟨u, eu, ru⟩ := rk.get ey
      have : u = v := by rw [ev] at eu; exact (Option.some.inj eu).symm
      subst this
      exact ⟨[], r _ _ _ _ I1.kIn I1.hok ru⟩
    try dsimp only
    refine wpAny_bind (listItems_at nk.1 rfl ?_)
    obtain ⟨h₁, e1', e2'⟩ : ∃ h₁ : Heap, h₁.get? kS = none ∧ ∀ b, b ≠ kS → h₁.get? b = s'.heap.get? b := by
      refine ⟨s'.heap.update kS fun o => { o with data := .freed }, ?_, fun b hb => (Heap.SameBut.update s'.heap kS _).2 b hb⟩
      have q := nk.1
      unfold Heap.get? at q ⊢
      unfold Heap.update
      dsimp only
      rw [Array.getElem?_modify]
      simp only [if_true]
      cases hq : s'.heap.objs[kS]? with
      | none => rfl
      | some o => rfl
    refine PySem.W.keyH_end (κ := PySem.W.dataKind s'.heap kz) (h₁ := h₁) (fun b o hb q => ?_) e1' nk.1 na.1 hka (PySem.W.SortsAt.data (s := s') hk' hal hsk hu) hsz hZ fun h3 tk3 c k3 n3 => ?_
    · by_cases hbk : b = kS
      · rw [hbk, e1'] at q; cases q
      · rw [← e2' b hbk]; exact q
    · have fk2 : FpOk X pins H1 kS := fp_at fk nk.2.1
      have fa2 : FpOk X pins H1 a := fp_at fa na.2.1
      refine h _ H1 ks _ c (pinL (turnedL (t' := tk3) [kS, a] (unpinL (unpinL I1)) (fun b o hb e => ?_) fun b hb => ?_) fa2 n3 lst_nc) fa2 p1 ⟨s'.heap, kA.toList, hal, rfl, hk'⟩
      · have hb1 : b ≠ kS := fun z => hb (by simp [z])
        have hb2 : b ≠ a := fun z => hb (by simp [z])
        exact k3 b o hb2 ((e2' b hb1).trans e)
      · rcases List.mem_cons.mp hb with z | z
        · rw [z]; exact fk2
        · rw [List.mem_singleton.mp z]; exact fa2

theorem keyL_tree {n : Nat} (hA : A.frames = some X.stack) (hr : Room k A) (F : FnOk X.prog X.w X.K X.mg X.base (L2.CX X.prog X.w) k f fd ps sp) (hb : Binds X.K fd ps []) (rv : Vals xs vs) (hlen : kz.length = vs.length) (hZ : vs.length ≤ sizeLine)
    (hal : PySem.W.AllAlike kz) (hsk : PySem.W.Sortable kz) (hu : ∀ d, d ∈ kz → A.units + d.depth < cLine)
    (I : Inv X pins σ H s) (fa : FpOk X pins H a) (ho : s.heap.get? a = some (seqObj "list" vs.toArray n)) (p0 : P 0 [] H)
    (turn : ∀ (i : Nat) x H1 ks, xs[i]? = some x → P i ks H1 → sp [x] H1 (fun v H2 => P (i + 1) (ks ++ [v]) H2) (fun _ _ _ => False))
    (rd : ∀ ks H1, P vs.length ks H1 → Al (fun d v => RdD X.K d v H1) kz ks)
    (h : ∀ s' H1 ks out c, Inv X ((a, seqObj "list" (List.toArray out) c) :: pins) σ H1 s' → FpOk X pins H1 a → P vs.length ks H1 → PySem.W.KeyedOut false kz vs out → R (.done (.ret .none)) s') :
    wpAny (model X.prog X.w) A (ksk_tree a (.ref f) false) R E s := by
  have ha : a < s.heap.objs.size := Heap.lt_size ho
  obtain ⟨e1, ho1⟩ : ∃ e1, (s.heap.update a (Obj.mapSeq fun _ => (#[] : Array Value))).get? a = some (seqObj "list" #[] e1) := ⟨_, get?_update_seq ho fun _ => #[]⟩
  have hkS : ((s.heap.update a (Obj.mapSeq fun _ => (#[] : Array Value))).push (seqObj "tuple" vs.toArray 0)).objs.size = s.heap.objs.size + 1 := by rw [size_push', Heap.size_update]
  unfold ksk_tree
  refine wpAny_bind (listItems_at ho rfl ?_)
  refine wpAny_bind (listUpdate_at ho rfl ?_ (by rw [List.size_toArray]; exact hZ) (Nat.zero_le _))
  refine wpAny_bind (seqEpoch_at ho1 rfl ?_)
  refine wpAny_bind (wpAny_newTuple ?_ (by show vs.length ≤ _; exact hZ))
  refine wpAny_bind (wpAny_newList ?_ (Nat.zero_le _))
  refine wpAny_holding ?_
  have hka : ((s.heap.update a (Obj.mapSeq fun _ => (#[] : Array Value))).push (seqObj "tuple" vs.toArray 0)).objs.size ≠ a := by rw [hkS]; exact Nat.ne_of_gt (Nat.lt_succ_of_lt ha)
  have fk : FpOk X pins H ((s.heap.update a (Obj.mapSeq fun _ => (#[] : Array Value))).push (seqObj "tuple" vs.toArray 0)).objs.size := I.fpOk (by rw [hkS]; exact Nat.le_succ _) (I.hok.fresh (by rw [hkS]; exact Nat.le_succ _))
  have I1 : Inv X pins σ H { s with heap := ((s.heap.update a (Obj.mapSeq fun _ => (#[] : Array Value))).push (seqObj "tuple" vs.toArray 0)).push (seqObj "list" #[] 0) } :=
    turnedL (t' := s.toks) [a] I (fun b o hb e => PySem.W.sortingHeap_old (fun z => hb (by simp [z])) e) fun b hb => by rw [List.mem_singleton.mp hb]; exact fa
  have I2 := pinL I1 fa (Heap.get?_push_of_some _ (Heap.get?_push_of_some _ ho1)) lst_nc
  have I3 := pinL I2 (fp_weak fk fun p hp => by
    rcases List.mem_cons.mp hp with z | z
    · subst z; exact .inr hka.symm
    · exact .inl z) (Heap.get?_push_size _ rfl) lst_nc
  exact keyL_rest hA hr F hb rv hlen hZ hal hsk hu hka I3 fk fa p0 turn rd h
/-- sorted(xs, key=f) -/
def rSortF (K : Frag) (f : Addr) (sp : Sp) : List V → List V → Hp → VK → Prop := fun vs zs H Q => ∃ (a : Addr) (xs : List V) (kz : List PyData) (P : Nat → List V → Hp → Prop), vs = [V.ref a] ∧ zs = [V.ref f] ∧ SqL K H a xs ∧
  kz.length = xs.length ∧ PySem.W.AllAlike kz ∧ PySem.W.Sortable kz ∧ (∀ d ∈ kz, d.depth ≤ 8) ∧ P 0 [] H ∧
  (∀ (i : Nat) x H1 ks, xs[i]? = some x → P i ks H1 → sp [x] H1 (fun v H2 => P (i + 1) (ks ++ [v]) H2) (fun _ _ _ => False)) ∧
  (∀ ks H1, P xs.length ks H1 → Al (fun d v => RdD K d v H1) kz ks) ∧
  ∀ ks H1 p, P xs.length ks H1 → H1 p = none → Q (.ref p) (upd H1 p (.lst (((xs.zip kz).mergeSort (PySem.W.dataLe false Prod.snd)).map Prod.fst)))
theorem cr_sortF (hr : Room (k + 2) X.A) (F : FnOk X.prog X.w X.K X.mg X.base (L2.CX X.prog X.w) k f fd ps sp) (hb : Binds X.K fd ps []) : CallRK X (.builtin "sorted") [Str.ofString "key"] (rSortF X.K f sp) := by
  intro pins s σ H us zs vs ws Q I r rz h
  obtain ⟨a, xs, kz, P, rfl, rfl, hs, hlen, hal, hsk, hd, p0, turn, rd, q⟩ := h
  obtain ⟨its, rv, hl, hz⟩ := I.list hs
  rw [Vals.ref1 r, Vals.ref1 rz]
  have hl2 : its.length = xs.length := rv.length.symm
  have fresh : s.heap.objs.size ≤ s.heap.objs.size + 1 := Nat.le_succ _
  have fa : FpOk X pins H (s.heap.objs.size + 1) := I.fpOk fresh (I.hok.fresh fresh)
  refine PySem.W.sorted_of_sort hl.isList (by rw [hl2]; exact hz) (ksk_s1 _ _) (fun _ => ksk_l1 _ _) fun E' => ?_
  show wpAny _ _ (Builtin.«list.sort» ⟨[.ref _], [(Str.ofString "key", .ref f)]⟩) _ _ _
  rw [ksk_t1]
  have hr2 : Room k X.A.in1.in1 := (Room.in1 (Room.in1 (k := k + 1) hr))
  refine keyL_tree (s := { s with heap := PySem.W.copyHeap s.heap its }) (a := s.heap.objs.size + 1) (H := H) (σ := σ) (pins := pins) (P := P) (n := 0) I.ok.frames hr2 F hb rv (by rw [hlen, hl2]) (by rw [hl2]; exact hz) hal hsk (fun d hd' => ?_)
    (I.kept (t' := s.toks) fun b u e => PySem.W.copyHeap_old e) fa (PySem.W.copyHeap_at s.heap its) p0 turn (fun ks H1 p => rd ks H1 (by rw [← hl2]; exact p)) fun s' H1 ks out c I1 fa1 p1 ko => ⟨rfl, ?_⟩
  · have := hr2.un
    have := hd d hd'
    omega
  · have hp := I1.pin (s.heap.objs.size + 1, seqObj "list" (List.toArray out) c) (List.mem_append_right _ List.mem_cons_self)
    have each : PySem.W.EachIs (fun u (b : V × PyData) => RelV b.1 u) its (xs.zip kz) := each_of (by rw [List.length_zip, hl2, hlen, Nat.min_self]) fun i u b eu eb => by
      obtain ⟨x, d⟩ := b
      rw [List.getElem?_zip_eq_some] at eb
      obtain ⟨u', eu', ru⟩ := rv.get eb.1
      have : u' = u := by rw [eu] at eu'; exact (Option.some.inj eu').symm
      subst this
      exact ru
    have hkz : (xs.zip kz).map Prod.snd = kz := List.map_snd_zip (by rw [hlen]; exact Nat.le_refl _)
    have eo := PySem.W.keyedOut_each (k := Prod.snd) (bs := xs.zip kz) (by rw [hkz]; exact ko) each
    have vo : Vals (((xs.zip kz).mergeSort (PySem.W.dataLe false Prod.snd)).map Prod.fst) out := each_vals eo
    have hlo : (((xs.zip kz).mergeSort (PySem.W.dataLe false Prod.snd)).map Prod.fst).length = xs.length := by
      rw [List.length_map, List.length_mergeSort, List.length_zip, hlen, Nat.min_self]
    exact ⟨.ref (s.heap.objs.size + 1), upd H1 (s.heap.objs.size + 1) (.lst (((xs.zip kz).mergeSort (PySem.W.dataLe false Prod.snd)).map Prod.fst)), Inv.take (h' := s'.heap) (t' := s'.toks) (unpinL I1) (fun b ob _ e => e) fa1 ⟨by rw [hlo]; exact hz, out, c, vo, hp.1⟩, rfl, q ks H1 _ (by rw [← hl2]; exact p1) fa1.1⟩
end

/-! the keys: a whole number and a tuple of such -/
abbrev KeyT := Int × Tup Int
def keyD (x : KeyT) : PyData := .tuple [.int x.1, .tuple (x.2.l.map .int)]
def keyLe (x y : KeyT) : Bool := decide (x.1 < y.1 ∨ (x.1 = y.1 ∧ x.2.l ≤ y.2.l))
theorem keyLe_eq {β : Type} (k : β → KeyT) : PySem.W.dataLe false (fun b => keyD (k b)) = fun a b => keyLe (k a) (k b) := by
  funext a b
  show (!PySem.W.dataLt (keyD (k b)) (keyD (k a))) = _
  unfold keyD keyLe
  have al : ∀ x y : List Int, PySem.W.alike (.tuple (x.map .int)) (.tuple (y.map .int)) = true := by
    intro x y
    unfold PySem.W.alike
    induction x generalizing y with
    | nil => unfold PySem.W.alikeAll; rfl
    | cons a x ih =>
      cases y with
      | nil => rfl
      | cons b y =>
        rw [List.map_cons, List.map_cons]
        unfold PySem.W.alikeAll
        rw [ih y]
        simp [PySem.W.alike]
  have ev : ∀ x y : List Int, PyData.eqv (.tuple (x.map .int)) (.tuple (y.map .int)) = decide (x = y) := by
    intro x y
    unfold PyData.eqv
    induction x generalizing y with
    | nil =>
      cases y with
      | nil => simp [PyData.eqvAll]
      | cons b y => simp [PyData.eqvAll]
    | cons a x ih =>
      cases y with
      | nil => simp [PyData.eqvAll]
      | cons b y =>
        rw [List.map_cons, List.map_cons]
        unfold PyData.eqvAll
        rw [ih y]
        by_cases h : a = b <;> simp [PyData.eqv, h]
  rw [PySem.W.dataLt_pair (by simp [PySem.W.alike]) (al _ _), PySem.W.dataLt_int, ev]
  have el : ∀ x y : List Int, PySem.W.dataLt (.tuple (x.map .int)) (.tuple (y.map .int)) = decide (x < y) := fun x y => by
    rw [PySem.W.dataLt_tuple]
    exact PySem.W.dataLt_ints x y
  rw [el]
  simp only [PyData.eqv, beq_iff_eq, decide_eq_true_eq]
  by_cases h1 : (k b).1 = (k a).1
  · rw [if_pos h1]
    by_cases h2 : (k b).2.l = (k a).2.l
    · rw [if_pos h2]
      simp [h1, h2]
    · rw [if_neg h2]
      by_cases h3 : (k b).2.l < (k a).2.l
      · have : ¬ (k a).2.l ≤ (k b).2.l := List.not_le.mpr h3
        simp [h3, h1, this]
      · have : (k a).2.l ≤ (k b).2.l := List.not_lt.mp h3
        simp [h3, h1, this]
  · rw [if_neg h1]
    by_cases h3 : (k b).1 < (k a).1
    · have h4 : ¬ ((k a).1 < (k b).1 ∨ ((k a).1 = (k b).1 ∧ (k a).2.l ≤ (k b).2.l)) := by
        rintro (h | ⟨h, _⟩) <;> omega
      simp [h3, h4]
    · have h4 : (k a).1 < (k b).1 := by omega
      simp [h3, h4]
theorem rd_int {K : Frag} {H : Hp} (i : Int) : RdD K (.int i) (.int i) H := fun P w h u _ _ ⟨t, e⟩ => by
  rw [e]; exact .int i t
theorem reads_all {K : Frag} {H : Hp} {P : Program} {w : World} {h : Heap} (hk : K.In h) (ok : HOk P w H h) : ∀ {ds : List PyData} {vs : List V} {us : List Value}, Al (fun d v => RdD K d v H) ds vs → Vals vs us → ReadsAll h us ds []
  | [], [], _, _, .nil => .nil
  | d :: ds, v :: vs, _, a, .cons (b := u) r t => by
    have h1 := a.2 0 d v rfl rfl _ _ _ u hk ok r
    have h2 := reads_all hk ok (ds := ds) (vs := vs) ⟨by have := a.1; simpa using this, fun i x y e1 e2 => a.2 (i + 1) x y (by simpa using e1) (by simpa using e2)⟩ t
    exact ReadsAll.cons h1 h2
  | [], _ :: _, _, a, _ => absurd a.1 (by simp)
  | _ :: _, [], _, a, _ => absurd a.1 (by simp)
theorem rd_tup {K : Frag} {H : Hp} {p : Addr} {vs : List V} {ds : List PyData} (hp : SqT K H p vs) (al : Al (fun d v => RdD K d v H) ds vs) : RdD K (.tuple ds) (.ref p) H := fun P w h u hk ok e => by
  obtain rfl : u = .ref p := e
  rcases hp with r | ⟨o, its, n, hl, hc, hd, hz, rv⟩
  · obtain ⟨z, its, rv, o, ho, hc, n, hd⟩ := r.ok ok
    exact Reads.tuple ho hc hd (by simpa using reads_all hk ok al rv)
  · exact Reads.tuple (hk p o hl) hc hd (reads_all hk ok al rv)
theorem rd_key {K : Frag} {G H : Hp} {x : KeyT} {v : V} (s : Inc G H) (h : Rp.rep K x v G) : RdD K (keyD x) v H := by
  obtain ⟨p, a, b, e, hp, ra, q, vs, eb, hq, al, l⟩ := h
  have ra' : a = .int x.1 := ra
  subst e ra' eb
  refine rd_tup (s.sqt hp) (Al.cons (rd_int x.1) (Al.one (rd_tup (s.sqt hq) ?_)))
  have e1 := al_ints al
  subst e1
  exact ⟨by simp, fun i d v ed ev => by
    rw [List.getElem?_map] at ed ev
    cases e : x.2.l[i]? with
    | none => rw [e] at ed; cases ed
    | some y =>
      rw [e] at ed ev
      cases ed; cases ev
      exact rd_int y⟩
def keyOf (g : Tup Int → R KeyT) (x : Tup Int) : KeyT := match g x with
  | .ok k => k
  | _ => (0, ⟨[]⟩)
def isOk {α : Type} (m : R α) : Bool := match m with
  | .ok _ => true
  | _ => false
@[irreducible] def R.sortF (g : Tup Int → R KeyT) (xs : List (Tup Int)) : R (List (Tup Int)) := if xs.all (fun x => isOk (g x)) then .ok (xs.mergeSort fun a b => keyLe (keyOf g a) (keyOf g b)) else .no
section
variable {c : Cn} {W0 : Wd} {X : WX} {As : List Sl} {f : Addr}
theorem r_sortF {g : Tup Int → R KeyT} {te tf : TE} {m : R (List (Tup Int))} (h : Exr c W0 X te As m fun x => kSh c.K x) (hf : Exp c W0 tf As (kV (.ref f))) :
    Exr c W0 X (tCKw (rSortF c.K f (spF c (fun x : Tup Int × Unit => g x.1) (fun x : KeyT => kFr c.K x))) (tCons te tNil) (tCons tf tNil)) As (m.bind fun xs => R.sortF g xs) (fun x => kNw c.K x) := fun σ W a => by
  have h1 := h σ W a
  have h2 := hf σ W a
  cases m with
  | no => trivial
  | ex e => exact fun W1 e1 Q q => h1 W1 e1 _ q
  | ok zs =>
    show SatR (R.sortF g zs) _ _
    unfold R.sortF
    by_cases hk : zs.all (fun x => isOk (g x)) = true
    · rw [if_pos hk]
      intro W1 e1 Q q
      refine h1 W1 e1 _ fun v W2 e2 ⟨p, vs, ev, hs, al, l⟩ => ?_
      subst ev
      refine h2 W2 (e1.trans e2) _ fun u W3 e3 pu => ?_
      have pu' : u = .ref f := pu
      subst pu'
      have hs3 : SqL c.K W3.H p vs := e3.h.sql hs
      have al3 : Al (fun x v => Rp.rep c.K x v W3.G) zs vs := al.imp fun _ _ r => Rp.mono e3.g r
      have hkey : ∀ x ∈ zs, g x = .ok (keyOf g x) := fun x hx => by
        have := List.all_eq_true.mp hk x hx
        unfold isOk at this
        unfold keyOf
        cases hg : g x with
        | ok y => rfl
        | no => rw [hg] at this; cases this
        | ex e => rw [hg] at this; cases this
      refine ⟨p, vs, zs.map fun x => keyD (keyOf g x), fun i ks H1 => ∃ W', Le W3 W' ∧ W'.H = H1 ∧ Al (fun x v => Rp.rep c.K (keyOf g x) v W'.G) (zs.take i) ks, rfl, rfl, hs3, by rw [List.length_map, al3.1], ?_, ?_, ?_,
        ⟨W3, Le.refl _, rfl, Al.nil⟩, ?_, ?_, ?_⟩
      · refine PySem.W.AllAlike.of fun b b' => ?_
        unfold keyD
        unfold PySem.W.alike PySem.W.alikeAll
        simp only [PySem.W.alike, PySem.W.alikeAll, Bool.true_and, Bool.and_true]
        generalize (keyOf g b).2.l = x
        generalize (keyOf g b').2.l = y
        induction x generalizing y with
        | nil => rfl
        | cons a x ih =>
          cases y with
          | nil => rfl
          | cons b y =>
            rw [List.map_cons, List.map_cons]
            unfold PySem.W.alikeAll
            rw [ih y]
            simp [PySem.W.alike]
      · exact PySem.W.Sortable.tuples fun b => ⟨_, _, rfl⟩
      · intro d hd
        obtain ⟨x, _, rfl⟩ := List.mem_map.mp hd
        have : ∀ l : List Int, PyData.depthAll (l.map .int) ≤ 1 := fun l => by
          induction l with
          | nil => simp [PyData.depthAll]
          | cons a l ih =>
            rw [List.map_cons]
            simp only [PyData.depthAll, PyData.depth]
            omega
        unfold keyD
        have h3 := this (keyOf g x).2.l
        simp only [PyData.depth, PyData.depthAll]
        omega
      · rintro i x H1 ks hx ⟨W4, e4, rfl, al4⟩
        obtain ⟨z, hz, rz⟩ := al3.getV hx
        refine ⟨W4, (z, ()), rfl, ⟨x, [], rfl, Rp.mono e4.g rz, rfl⟩, ?_⟩
        dsimp only
        rw [hkey z (List.mem_of_getElem? hz)]
        intro v W5 e5 r5
        refine ⟨W5, e4.trans e5, rfl, ?_⟩
        rw [List.take_add_one, hz]
        exact Al.app (al4.imp fun _ _ r => Rp.mono e5.g r) (Al.one r5)
      · rintro ks H1 ⟨W4, e4, rfl, al4⟩
        rw [List.take_of_length_le (by rw [al3.1]; exact Nat.le_refl _)] at al4
        exact ⟨by rw [List.length_map]; exact al4.1, fun i d v ed ev => by
          rw [List.getElem?_map] at ed
          cases e : zs[i]? with
          | none => rw [e] at ed; cases ed
          | some y =>
            rw [e] at ed
            cases ed
            exact rd_key W4.sub (al4.2 i y v e ev)⟩
      · rintro ks H1 b ⟨W4, e4, rfl, _⟩ hn
        have al4 : Al (fun x v => Rp.rep c.K x v W4.G) zs vs := al3.imp fun _ _ r => Rp.mono e4.g r
        let T := zs.zip vs
        have eT1 : T.map Prod.fst = zs := List.map_fst_zip (by rw [al3.1]; exact Nat.le_refl _)
        have eT2 : T.map Prod.snd = vs := List.map_snd_zip (by rw [al3.1]; exact Nat.le_refl _)
        have ez : vs.zip (zs.map fun x => keyD (keyOf g x)) = T.map fun t => (t.2, keyD (keyOf g t.1)) := by
          refine List.ext_getElem? fun i => ?_
          show _ = ((zs.zip vs).map _)[i]?
          rw [List.getElem?_map]
          cases e : zs[i]? with
          | none =>
            have : vs[i]? = none := by
              rw [List.getElem?_eq_none_iff] at e ⊢
              rw [← al3.1]; exact e
            have h1 : (vs.zip (zs.map fun x => keyD (keyOf g x)))[i]? = none := by
              rw [List.getElem?_eq_none_iff] at this ⊢
              rw [List.length_zip]; omega
            have h2 : (zs.zip vs)[i]? = none := by
              rw [List.getElem?_eq_none_iff] at this ⊢
              rw [List.length_zip]; omega
            rw [h1, h2]; rfl
          | some y =>
            obtain ⟨v, ev, _⟩ := al3.get e
            have h1 : (vs.zip (zs.map fun x => keyD (keyOf g x)))[i]? = some (v, keyD (keyOf g y)) := by
              rw [List.getElem?_zip_eq_some]
              exact ⟨ev, by rw [List.getElem?_map, e]; rfl⟩
            have h2 : (zs.zip vs)[i]? = some (y, v) := by
              rw [List.getElem?_zip_eq_some]
              exact ⟨e, ev⟩
            rw [h1, h2]; rfl
        have es : (vs.zip (zs.map fun x => keyD (keyOf g x))).mergeSort (PySem.W.dataLe false Prod.snd) = (T.mergeSort fun s t => keyLe (keyOf g s.1) (keyOf g t.1)).map fun t => (t.2, keyD (keyOf g t.1)) := by
          rw [ez]
          refine (List.map_mergeSort fun s _ t _ => ?_).symm
          have := congrFun (congrFun (keyLe_eq (fun t : Tup Int × V => keyOf g t.1)) s) t
          exact this.symm
        have e1 : zs.mergeSort (fun a b => keyLe (keyOf g a) (keyOf g b)) = (T.mergeSort fun s t => keyLe (keyOf g s.1) (keyOf g t.1)).map Prod.fst := by
          rw [List.map_mergeSort (s := fun a b => keyLe (keyOf g a) (keyOf g b)) fun s _ t _ => rfl, eT1]
        rw [es, List.map_map]
        refine q _ (W4.no b _ hn) (e2.trans (e3.trans (e4.trans (Le.no hn)))) ?_
        rw [e1]
        refine nw_list (e2.trans (e3.trans e4)) hn ⟨by simp, fun i x v ex ev => ?_⟩ ?_
        · rw [List.getElem?_map] at ex ev
          cases e : (T.mergeSort fun s t => keyLe (keyOf g s.1) (keyOf g t.1))[i]? with
          | none => rw [e] at ex; cases ex
          | some t =>
            rw [e] at ex ev
            cases ex; cases ev
            have : t ∈ T := (List.mergeSort_perm T _).mem_iff.mp (List.mem_of_getElem? e)
            obtain ⟨j, hj, ej⟩ := List.getElem_of_mem this
            have e' : T[j]? = some t := List.getElem?_eq_some_iff.mpr ⟨hj, ej⟩
            have e'' := List.getElem?_zip_eq_some.mp (show (zs.zip vs)[j]? = some (t.1, t.2) from e')
            exact al4.2 j _ _ e''.1 e''.2
        · rw [← e1, List.length_mergeSort]; exact l
    · rw [if_neg hk]; trivial
end
end Fw

namespace Fw
open PySem L2
/-! ### a dict is locked for good where it is frozen -/
/-- what the expression made is locked -/
def tLkE (t : TE) : TE := fun σ H Q => t σ H fun v H1 => ∃ d u, v = .ref d ∧ H1 d = some u ∧ Mut (some u) ∧ ∀ od, Q v (upd H1 d (.frz od u))
def tLkS (t : TS) : TS := fun D σ H => ∃ d u, H d = some u ∧ Mut (some u) ∧ ∀ od, t D σ (upd H d (.frz od u))
section
variable {X : Cx}
theorem pe_lk {e : Expr} {t : TE} (h : PE X e t) : PE X e (tLkE t) := by
  refine ⟨fun pins s σ H Q I hw => ?_⟩
  refine thn (h.run pins s σ H _ I hw) fun v s1 ⟨x, H1, I1, r, d, u, ex, hd, mu, q⟩ => ?_
  obtain ⟨od, I2⟩ := I1.lock hd mu
  exact ⟨x, _, I2, r, q od⟩
theorem pss_lk {b : List Stmt} {t : TS} (h : PSs X b t) : PSs X b (tLkS t) := by
  refine ⟨fun pins s σ H D I ⟨d, u, hd, mu, hw⟩ => ?_⟩
  obtain ⟨od, I1⟩ := I.lock hd mu
  exact h.run pins s σ _ D I1 (hw od)
end
theorem Le.lk {A W : Wd} {p : Addr} {o : HO} (e : Le A W) (hg : W.G p = none) (hn : A.H p = none) : Le A (W.nf p o) :=
  ⟨e.g.trans (Inc.new hg), fun b u q => by
    show upd W.H p o b = _
    rw [upd_ne (ne_of_none q hn)]; exact e.h b u q, fun a g n => by
    show upd W.G p o a = none
    rw [upd_ne (fun q => n (by rw [q]; exact hn))]; exact e.o a g n⟩
section
variable {K : Frag} {W0 W : Wd} {As : List Sl} {σ : St} {i : Nat}
theorem At.lk {α : Type} [Rp α] [Ob α] {x : α} {pin : Option V} (h : At K W0 As σ W) (hi : As[i]? = some (.ow pin x)) : ∃ v f, σ[i]? = some (some v) ∧ Ob.own K x v f W ∧
    ∀ p o, f = [p] → Rp.rep K x v (W.nf p o).G → At K W0 (As.set i (.fr x)) σ (W.nf p o) := by
  obtain ⟨l, le, F, h1, h2, h3⟩ := h
  have hl : i < σ.length := l ▸ (List.getElem?_eq_some_iff.mp hi).1
  obtain ⟨v, e, r, _⟩ := h1 i _ _ hi (List.getElem?_eq_getElem hl)
  refine ⟨v, F i, by rw [List.getElem?_eq_getElem hl, e], r, fun p o hf rr => ?_⟩
  have hp : p ∈ F i := by rw [hf]; exact List.mem_singleton.mpr rfl
  have gp := (h3 i p hp).1
  have sb : Inc W.G (W.nf p o).G := Inc.new gp
  refine ⟨by simp [l], le.lk gp (h3 i p hp).2.2, fun j => if j = i then [] else F j, fun j B pp a b => ?_, fun j k a n ha hb => ?_, fun j a ha => ?_⟩
  · by_cases q : i = j
    · subst q
      rw [get_set_eq a]
      rw [List.getElem?_eq_getElem hl, e] at b
      cases b
      exact ⟨v, rfl, rr⟩
    · rw [get_set_ne q] at a
      dsimp only
      rw [if_neg (Ne.symm q)]
      have hd := h1 j B pp a b
      cases B with
      | un => trivial
      | fr x => obtain ⟨v, e1, r⟩ := hd; exact ⟨v, e1, Rp.mono sb r⟩
      | ow x =>
        obtain ⟨v, e1, r, pn⟩ := hd
        have ne : ∀ a ∈ F j, a ≠ p := fun a ha z => h2 j i a (Ne.symm q) ha (by rw [z]; exact hp)
        refine ⟨v, e1, Ob.keep r sb (fun a ha => ?_) (fun a ha => ?_), pn⟩
        · show upd W.G p o a = none
          rw [upd_ne (ne a ha)]
          exact (h3 j a ha).1
        · show upd W.H p o a = W.H a
          exact upd_ne (ne a ha)
  · dsimp only at ha hb
    split at ha
    · cases ha
    · split at hb
      · cases hb
      · exact h2 j k a n ha hb
  · dsimp only at ha
    split at ha
    · cases ha
    · rename_i c
      obtain ⟨g, n, z⟩ := h3 j a ha
      have ne : a ≠ p := fun z => h2 j i a c ha (by rw [z]; exact hp)
      refine ⟨?_, ?_, z⟩
      · show upd W.G p o a = none
        rw [upd_ne ne]; exact g
      · show upd W.H p o a ≠ none
        rw [upd_ne ne]; exact n
end
section
variable {κ α : Type} [DecidableEq κ] [Rp κ] [DKy κ] [Rp α] {c : Cn} {W0 : Wd} {X : WX} {As : List Sl}
theorem e_fzD {te : TE} {x : Dk κ α} (h : Exp c W0 te As (kNw c.K x)) : Exp c W0 (tLkE te) As (kFr c.K x) := fun σ W a W1 e Q qq => h σ W a W1 e _ fun v W2 e2 ⟨f, ow, n⟩ => by
  obtain ⟨p, q, ev, ef, g, hh, d, l⟩ := ow
  subst ef
  exact ⟨p, _, ev, hh, DKy.mu q, fun od => qq v (W2.nf p (.frz od (DKy.ho q))) (e2.lk g (n p (List.mem_singleton.mpr rfl))) ⟨p, q, od, ev, upd_same, d.mono (Inc.new g), l⟩⟩
theorem r_fzD {te : TE} {m : R (Dk κ α)} (h : Exr c W0 X te As m fun x => kNw c.K x) : Exr c W0 X (tLkE te) As m fun x => kFr c.K x := fun σ W a => by
  have h' := h σ W a
  cases m with
  | ok x => exact e_fzD (fun σ W a => by exact h σ W a) σ W a
  | ex e => exact fun W1 e1 Q q => h' W1 e1 _ q
  | no => trivial
variable {J S ρ : Type} {kr : ρ → Kd} {Ls : List Sl} {Js : J → List Sl} {B : Bd} {Bs : S → List Sl}
theorem d_lkD {pin : Option V} {t : TS} {m : Out S J ρ} {x : Dk κ α} (i : Nat) (hi : As[i]? = some (.ow pin x)) (h : Den c X kr Ls Js B t (As.set i (.fr x)) m Bs) : Den c X kr Ls Js B (tLkS t) As m Bs := fun D σ W a f => by
  obtain ⟨v, fp, hv, ⟨p, q, ev, ef, g, hh, d, l⟩, k⟩ := a.lk hi
  exact ⟨p, _, hh, DKy.mu q, fun od => h D σ (W.nf p (.frz od (DKy.ho q))) (k p _ ef ⟨p, q, od, ev, upd_same, d.mono (Inc.new g), l⟩) f⟩
end
/-! ### the keys of a dict, walked -/
section
variable {c : Cn} {W0 : Wd} {X : WX} {As : List Sl} {α : Type} [Rp α]
@[irreducible] def R.dkeys (x : Dk Str α) : R (List Str) := if ∀ p ∈ x.l, SOk p.1 then .ok (x.l.map (·.1)) else .no
theorem i_keysS {te : TE} {m : R (Dk Str α)} (h : Exr c W0 X te As m fun x => kFr c.K x) : Ixr c W0 X (iKeys te) As (m.bind R.dkeys) fun x => kFr c.K x := fun σ W a => by
  have h' := h σ W a
  cases m with
  | no => trivial
  | ex e => exact fun W1 e1 Q q => h' W1 e1 _ q
  | ok x =>
    show SatR (R.dkeys x) _ _
    unfold R.dkeys
    by_cases ok : ∀ p ∈ x.l, SOk p.1
    · rw [if_pos ok]
      refine fun W1 e1 Q q => h' W1 e1 _ fun v W2 e2 ⟨p, kv, o, ev, hp, al, l⟩ => ?_
      have hk : kv.map (·.1) = x.l.map (·.1) := dr_keys al
      refine ⟨p, o, ev, .inl ⟨_, W2.sub _ _ hp, q _ W2 e2 fun i W g => ?_⟩⟩
      have hs : W.H p = some (.frz o (.dK (kv.map fun p => (kS p.1, p.2)))) := W.sub _ _ (g _ _ hp)
      have hlen : (kv.map fun p => (kS p.1, p.2)).length = (x.l.map (·.1)).length := by rw [← hk]; simp
      refine ⟨fun hi => ⟨hs, by rw [hlen]; exact hi⟩, fun y hy => ?_⟩
      refine ⟨⟨hs, by rw [hlen]; exact (List.getElem?_eq_some_iff.mp hy).1⟩, fun v H' ⟨eh, k, w, e3, e4⟩ => ⟨W, eh.symm, Le.refl _, ?_⟩⟩
      rw [← hk, List.getElem?_map] at hy
      rw [List.getElem?_map] at e3
      cases e5 : kv[i]? with
      | none => rw [e5] at hy; cases hy
      | some z =>
        rw [e5] at hy e3
        cases hy
        cases e3
        refine ⟨e4, ?_⟩
        have : z.1 ∈ kv.map (·.1) := List.mem_map_of_mem (List.mem_of_getElem? e5)
        rw [hk] at this
        obtain ⟨t, ht, e6⟩ := List.mem_map.mp this
        have o2 := ok t ht
        rw [e6] at o2
        exact o2
    · rw [if_neg ok]; trivial
end
end Fw

namespace Fw
open PySem PySem.Spec PyProof.Rows L2
/-! ### sets of texts: what they are, how they grow -/
abbrev txK (P : Program) (w : World) := PySem.strKind P w
theorem txK_is (P : Program) (w : World) (k : Str) (t : Tok) : (txK P w).is k (.str k t) = true := strKind_is _ _ _ _
def keyT (e : Int × Value) : Str := match e.2 with | .str k _ => k | _ => Str.empty
def GoodT (w : World) (e : Int × Value) : Prop := ∃ k tk, e.2 = Value.str k tk ∧ e.1 = hashStr w k
def SetT (w : World) (h : Heap) (a : Addr) (S : Str → Bool) (n : Nat) : Prop :=
  ∃ o es ep t, h.get? a = some o ∧ o.ExactSet ∧ o.data = .set es ep t ∧ (∀ e ∈ es.toList, GoodT w e) ∧ (es.toList.map keyT).Nodup ∧ (∀ k, S k = true ↔ k ∈ es.toList.map keyT) ∧
    es.size < scanBound ∧ t.fits es.size = true ∧ es.size = n ∧ Ris t.place.toList ∧ (w.params.followText "set-order" = true ∨ t.led = true)
section
variable {P : Program} {w : World} {h h' : Heap} {a : Addr} {S : Str → Bool} {n : Nat}
theorem SetT.at (R : SetT w h a S n) (k : ∀ o, h.get? a = some o → h'.get? a = some o) : SetT w h' a S n := by
  obtain ⟨o, es, ep, t, ho, r⟩ := R
  exact ⟨o, es, ep, t, k o ho, r⟩
theorem SetT.congr {S' : Str → Bool} (R : SetT w h a S n) (e : ∀ k, S' k = S k) : SetT w h a S' n := by
  have q : S' = S := funext e
  rw [q]; exact R
theorem goodT_elems {l : List (Int × Value)} (g : ∀ e ∈ l, GoodT w e) : ElemsOf (txK P w) l := fun e he => by
  obtain ⟨k, tk, h1, h2⟩ := g e he
  exact ⟨⟨k, by rw [h1]; exact txK_is P w k tk, h2⟩, by rw [h1] <;> rfl⟩
theorem goodT_is {e : Int × Value} (g : GoodT w e) (k : Str) : (txK P w).is k e.2 = true ↔ keyT e = k := by
  obtain ⟨k0, tk, h1, _⟩ := g
  unfold keyT
  rw [h1]
  constructor
  · intro q
    obtain ⟨t, e⟩ := Value.isStrOf_shape (show Value.isStrOf k (.str k0 tk) = true from q)
    injection e
  · intro q
    have q' : k0 = k := q
    rw [q']
    exact txK_is P w k tk
theorem goodT_mem {l : List (Int × Value)} (g : ∀ e ∈ l, GoodT w e) (k : Str) : k ∈ l.map keyT ↔ ∃ e ∈ l, (txK P w).is k e.2 = true := by
  rw [List.mem_map]
  constructor
  · rintro ⟨e, he, q⟩
    exact ⟨e, he, (goodT_is (g e he) k).2 q⟩
  · rintro ⟨e, he, q⟩
    exact ⟨e, he, (goodT_is (g e he) k).1 q⟩
end
section
variable {P : Program} {w : World} {A : Around} {E : Value → Shared → Prop} {s : Shared} {a : Addr} {S : Str → Bool} {n : Nat}
theorem setT_tail {g : Bool → Sem Unit} (hg : ∀ (b : Bool) (s₁ : Shared) (Q' : Unit → Shared → Prop), Q' () s₁ → wpAny (model P w) A (g b) Q' E s₁)
    {o : Obj} {es : Array (Int × Value)} {ep : Nat} {t : SetTable} (ho : s.heap.get? a = some o) (hex : o.ExactSet) (hd : o.data = .set es ep t)
    {es1 : Array (Int × Value)} {t2 : SetTable} {S' : Str → Bool} (g1 : ∀ e ∈ es1.toList, GoodT w e) (nd1 : (es1.toList.map keyT).Nodup) (m1 : ∀ k, S' k = true ↔ k ∈ es1.toList.map keyT)
    (hb1 : es1.size < scanBound) (hf2 : t2.fits es1.size = true) (hr : Ris t2.place.toList) (hl : w.params.followText "set-order" = true ∨ t2.led = true) {wasDummy : Bool} {R : Option Bool → Shared → Prop}
    (hR : ∀ h', Heap.SameBut a s.heap h' → SetT w h' a S' es1.size → R (some true) { s with heap := h' }) :
    wpAny (model P w) A (do
        storeSet a es1 t2
        if (!wasDummy && t2.tooFull) = true then do
            g (relayAll t2 es1 (SetTable.grown es1.size)).2.2
            storeSet a (relayAll t2 es1 (SetTable.grown es1.size)).1 (relayAll t2 es1 (SetTable.grown es1.size)).2.1
            pure (some true)
          else pure (some true)) R E s := by
  refine wpAny_bind (wpAny_storeSet_of ho hd ?_ (fits_of_scanBound hb1))
  have ho1 := store_at (es' := es1) (t' := t2) ho hd
  have sb1 := Heap.SameBut.update s.heap a (Obj.putSet es1 t2)
  split
  · have pm := relayAll_perm t2 es1 (SetTable.grown es1.size)
    have hf3 := relayAll_fits t2 es1 (SetTable.grown es1.size)
    have hr3 := relayAll_ris t2 es1 (SetTable.grown es1.size)
    have hl3 := relayAll_led t2 es1 (SetTable.grown es1.size)
    generalize relayAll t2 es1 (SetTable.grown es1.size) = Z at pm hf3 hr3 hl3 ⊢
    obtain ⟨es2, t3, gave⟩ := Z
    dsimp only at pm hf3 hr3 hl3 ⊢
    have hsz : es2.size = es1.size := by rw [← Array.length_toList, pm.length_eq, Array.length_toList]
    have hb2 : es2.size < scanBound := by rw [hsz]; exact hb1
    refine wpAny_bind (hg _ _ _ ?_)
    refine wpAny_bind (wpAny_storeSet_of ho1 rfl ?_ (fits_of_scanBound hb2))
    have ho2 := store_at (es' := es2) (t' := t3) ho1 rfl
    refine wpAny_pure (hR _ (sb1.trans (Heap.SameBut.update _ a _)) ?_)
    exact ⟨_, es2, _, t3, ho2, hex, rfl, fun e he => g1 e (pm.mem_iff.mp he), (pm.map keyT).nodup_iff.mpr nd1, fun k => (m1 k).trans (pm.map keyT).mem_iff.symm, hb2, hf3, hsz, hr3,
      hl.imp id fun z => by rw [hl3]; exact z⟩
  · exact wpAny_pure (hR _ sb1 ⟨_, es1, _, t2, ho1, hex, rfl, g1, nd1, m1, hb1, hf2, rfl, hr, hl⟩)
theorem setT_add {k : Str} {tk : Tok} {Q : Bool → Shared → Prop} (R : SetT w s.heap a S n) (room : n + 1 < scanBound)
    (hQ : ∀ h', Heap.SameBut a s.heap h' → SetT w h' a (fun j => S j || decide (j = k)) (if S k = true then n else n + 1) → Q (!S k) { s with heap := h' }) :
    wpAny (model P w) A (setAddHashed a (.str k tk) ((txK P w).hash k)) Q E s := by
  obtain ⟨o, es, ep, t, ho, hex, hd, g, nd, hm, hb, hf, hn, hr, hl⟩ := R
  have hkey : (txK P w).is k (.str k tk) = true := txK_is P w k tk
  have hsc : (Value.str k tk).scannable = true := rfl
  have hel : ElemsOf (txK P w) es.toList := goodT_elems g
  unfold setAddHashed setAddHashedIn
  refine wpAny_holding (wpAny_bind (wpAny_setState_of ho hd hf ?_))
  dsimp only
  rw [byScan_of hsc hb hel]
  simp only [↓reduceIte]
  unfold setAddByScan
  refine wpAny_bind ?_
  refine wpAny_bind (wpAny_rule ?_)
  refine wpAny_bind (wpAny_setScan_of hkey ho hd hf hel ?_)
  cases hfi : List.findIdx? (fun e => (txK P w).is k e.2) es.toList with
  | some j =>
    dsimp only
    obtain ⟨hj, pj, _⟩ := List.findIdx?_eq_some_iff_getElem.mp hfi
    have hSk : S k = true := (hm k).2 ((goodT_mem (P := P) (w := w) g k).2 ⟨es.toList[j], List.getElem_mem hj, pj⟩)
    refine wpAny_pure (wpAny_pure ?_)
    have q := hQ s.heap (Heap.SameBut.refl a s.heap) ⟨o, es, ep, t, ho, hex, hd, g, nd, fun i => by
      rw [Bool.or_eq_true, decide_eq_true_eq, ← hm i]
      exact ⟨fun z => z.elim id (fun e => e ▸ hSk), .inl⟩, hb, hf, by rw [if_pos hSk]; exact hn, hr, hl⟩
    rw [hSk] at q
    exact q
  | none =>
    dsimp only
    have hnk : k ∉ es.toList.map keyT := fun z => by
      obtain ⟨e, he, q⟩ := (goodT_mem (P := P) (w := w) g k).1 z
      have c := List.findIdx?_eq_none_iff.mp hfi e he
      rw [q] at c
      cases c
    have hSk : S k = false := by
      cases q : S k with
      | false => rfl
      | true => exact absurd ((hm k).1 q) hnk
    have hgw : ∀ (b : Bool) {s₁ : Shared} {Q' : Unit → Shared → Prop}, Q' () s₁ → wpAny (model P w) A (match b with | true => rule "set.scan.the-table-gave-way" | false => pure ()) Q' E s₁ :=
      fun b s₁ Q' q => by cases b <;> first | exact wpAny_pure q | exact wpAny_rule q
    have pm := layNew_perm t es ((txK P w).hash k) (.str k tk)
    have hf1 := layNew_fits t es ((txK P w).hash k) (.str k tk)
    have hr1 := layNew_ris t es ((txK P w).hash k) (.str k tk) hr
    have hl1 := layNew_led t es ((txK P w).hash k) (.str k tk)
    generalize layNew t es ((txK P w).hash k) (.str k tk) = Z at pm hf1 hr1 hl1 ⊢
    obtain ⟨es1, t1, wasDummy, gave⟩ := Z
    dsimp only at pm hf1 hr1 hl1 ⊢
    rw [Array.toList_push] at pm
    have pc : es1.toList.Perm (((txK P w).hash k, Value.str k tk) :: es.toList) := pm.trans (List.perm_append_singleton _ _)
    have pk : (es1.toList.map keyT).Perm (k :: es.toList.map keyT) := pc.map keyT
    have g1 : ∀ e ∈ es1.toList, GoodT w e := fun e he => by
      rcases List.mem_cons.mp (pc.mem_iff.mp he) with z | z
      · rw [z]; exact ⟨k, tk, rfl, rfl⟩
      · exact g e z
    have nd1 : (es1.toList.map keyT).Nodup := pk.nodup_iff.mpr (List.nodup_cons.mpr ⟨hnk, nd⟩)
    have m1 : ∀ i, (S i || decide (i = k)) = true ↔ i ∈ es1.toList.map keyT := fun i => by
      rw [Bool.or_eq_true, decide_eq_true_eq, hm i, pk.mem_iff, List.mem_cons]
      exact Or.comm
    have hsz : es1.size = n + 1 := by rw [← Array.length_toList, pc.length_eq, List.length_cons, Array.length_toList, hn]
    have hb1 : es1.size < scanBound := by rw [hsz]; exact room
    have hled : w.params.followText "set-order" = true ∨ t1.led = true := hl.imp id fun z => by rw [hl1]; exact z
    have fin : ∀ h', Heap.SameBut a s.heap h' → SetT w h' a (fun j => S j || decide (j = k)) es1.size → Q true { s with heap := h' } := fun h' sb r => by
      have q := hQ h' sb
      rw [hSk] at q
      rw [hsz] at r
      exact q r
    refine wpAny_bind (hgw _ ?_)
    split
    · refine wpAny_bind ?_
      rw [hashByValue_scannable 8 hsc]
      refine wpAny_pure ?_
      refine setT_tail ?_ ho hex hd g1 nd1 m1 hb1 ?_ ?_ ?_ ?_
      · intro b s₁ Q' q; cases b <;> first | exact wpAny_pure q | exact wpAny_rule q
      · first | (split <;> first | exact hf1 | exact SetTable.fits_plain_off hf1) | exact hf1
      · first | (split <;> exact hr1) | exact hr1
      · first | (split <;> exact hled) | exact hled
      · intro h' sb r; dsimp only; exact wpAny_pure (fin h' sb r)
    · refine wpAny_bind (wpAny_pure ?_)
      simp only [↓reduceIte]
      refine setT_tail ?_ ho hex hd g1 nd1 m1 hb1 hf1 hr1 hled ?_
      · intro b s₁ Q' q; cases b <;> first | exact wpAny_pure q | exact wpAny_rule q
      · intro h' sb r; dsimp only; exact wpAny_pure (fin h' sb r)
end
section
variable {P : Program} {w : World} {A : Around} {E : Value → Shared → Prop} {s : Shared}
theorem setT_new {w : World} {h : Heap} {a : Addr} {xs : List Str} (ho : h.get? a = some { cls := .type "set", dict := none, data := .set #[] 0 (.fresh 0 0 (!w.params.followText "set-order")) }) : SetT w h a (fun j => decide (j ∈ xs.take 0)) 0 :=
  ⟨_, #[], 0, _, ho, ⟨rfl, rfl, rfl⟩, rfl, (fun e he => by simp at he), (by simp), (fun k => by simp), (by decide), (by rfl), rfl, List.Pairwise.nil, by
    show _ ∨ (!w.params.followText "set-order") = true
    cases w.params.followText "set-order"
    · exact .inr rfl
    · exact .inl rfl⟩
theorem set_update_texts {I : Addr} {fp wr : List Addr} {G : Array GenState → Array GenState → Prop} {n : Nat} {Pv : Nat → Value → Prop} {St : Nat → Shared → Prop} {R : Result → Shared → Prop}
    (W : WalksS P w A.in1 I fp wr G n Pv St) (S : Addr) (hSf : S ∉ fp) (xs : List Str) (hn : n = xs.length) (hb : xs.length + 1 < scanBound) (hval : ∀ i v, Pv i v → ∃ k t, xs[i]? = some k ∧ v = .str k t) :
    ∀ (k i : Nat) (s : Shared), n - i = k → i ≤ n → St i s → (∃ c, c ≤ i ∧ SetT w s.heap S (fun j => decide (j ∈ xs.take i)) c) →
      (∀ s' c, Moved (S :: wr) G s s' → c ≤ n → SetT w s'.heap S (fun j => decide (j ∈ xs)) c → R (.ok (.ret .none)) s') →
      codeAny (model P w) A (.builtin "set.update.loop" ⟨[.ref S, .ref I], []⟩) R s := by
  have hSw : S ∉ wr := fun h => hSf (W.sub _ h)
  have hsub : ∀ b ∈ wr, b ∈ S :: wr := fun b hb => List.mem_cons_of_mem _ hb
  intro k
  induction k with
  | zero =>
    intro i s hk' hi hst ⟨c, hc, hS⟩ hR
    have hin : i = n := by omega
    subst hin
    refine codeAny_builtin PyProof.Rows.F.entry_set_update_loop ?_
    rw [Around.under_plainId PyProof.Rows.F.plain_set_update_loop _]
    show wpAny _ A.in1 (pyNext (.ref I) >>= _) _ _ s
    refine wpAny_bind (W.done s _ _ hst fun s' hm => ?_)
    show wpAny _ A.in1 (ret Value.none) _ _ s'
    have e : xs.take i = xs := List.take_of_length_le (by omega)
    rw [e] at hS
    exact wpAny_pure (hR s' c (hm.mono hsub) hc (hS.at fun o e => hm.heap S o hSw e))
  | succ k ih =>
    intro i s hk' hi hst ⟨c, hc, hS⟩ hR
    have hlt : i < n := by omega
    refine codeAny_builtin PyProof.Rows.F.entry_set_update_loop ?_
    rw [Around.under_plainId PyProof.Rows.F.plain_set_update_loop _]
    show wpAny _ A.in1 (pyNext (.ref I) >>= _) _ _ s
    refine wpAny_bind (W.item i s _ _ hlt hst fun v s' hP hst' hm => ?_)
    obtain ⟨z, t, hz, rfl⟩ := hval i v hP
    have hS' : SetT w s'.heap S (fun j => decide (j ∈ xs.take i)) c := hS.at fun o e => hm.heap S o hSw e
    show wpAny _ A.in1 (holding [Value.str z t] (setAdd S (.str z t)) >>= _) _ _ s'
    refine wpAny_bind (wpAny_holding ?_)
    unfold setAdd
    refine wpAny_holding ?_
    refine wpAny_bind ((txK P w).pyHash (k := z) (txK_is _ _ _ _) ?_)
    refine setT_add (s := { s' with toks := s'.toks + 1 }) hS' (by omega) fun h' hsb hS2 => ?_
    have hS3 : SetT w h' S (fun j => decide (j ∈ xs.take (i + 1))) (if decide (z ∈ xs.take i) = true then c else c + 1) := hS2.congr fun j => by
      rw [List.take_add_one, hz]
      simp [List.mem_append]
    have hc3 : (if decide (z ∈ xs.take i) = true then c else c + 1) ≤ i + 1 := by
      split <;> omega
    refine wpAny_pure ⟨plainId_quiet PyProof.Rows.F.plain_set_update_loop _, ih (i + 1) _ (by omega) hlt (W.frame _ s' _ _ hst' (Nat.le_succ _) fun b hb o e => ?_) ⟨_, hc3, hS3⟩ fun s'' c2 hm'' hc'' hS'' => ?_⟩
    · rw [hsb.2 b (fun h : b = S => hSf (by rw [← h]; exact hb))]; exact e
    · refine hR s'' c2 (Moved.trans W.gtrans ((hm.mono hsub).then_heap (Nat.le_succ _) fun b o hb e => ?_) hm'') hc'' hS''
      rw [hsb.2 b (fun h : b = S => hb (by rw [h]; exact List.mem_cons_self))]; exact e
theorem strs_at' {us : List Value} {xs : List Str} (h : StrsAre us xs) (i : Nat) (v : Value) (e : us[i]? = some v) : ∃ k t, xs[i]? = some k ∧ v = .str k t := by
  induction h generalizing i with
  | nil => simp at e
  | cons n t hr ih =>
    cases i with
    | zero => simp at e; exact ⟨n, t, rfl, e.symm⟩
    | succ i => simp only [List.getElem?_cons_succ] at e ⊢; exact ih i e
/-- set(xs), xs a list of texts -/
theorem call_set_texts {l : Addr} {items : Array Value} (xs : List Str) {Q : Value → Shared → Prop} (hh : A.handled = none) (hl : s.heap.IsList l items) (hit : StrsAre items.toList xs) (hb : xs.length + 1 < scanBound)
    (h : ∀ (h' : Heap) (tk c : Nat), SetT w h' s.heap.objs.size (fun j => decide (j ∈ xs)) c → c ≤ xs.length → (∀ b o, s.heap.get? b = some o → h'.get? b = some o) → Q (.ref s.heap.objs.size) { s with heap := h', toks := tk }) :
    wpAny (model P w) A (call (.type "set") [.ref l]) Q E s := by
  have hisz : items.size = xs.length := by
    have q := hit.length
    rw [Array.length_toList] at q
    exact q
  obtain ⟨c, tl, hmro⟩ := PySem.F.called_set.mro
  have hmade := PySem.F.called_set.made
  have hsub := PySem.F.called_set.sub
  refine wpAny_call (codeAny_of_tree ?_)
  show wpAny _ _ (callAny (.type "set") _) _ _ _
  refine wpAny_pure ⟨Code.quiet_builtin _ (by decide +kernel), codeAny_builtin PySem.F.entry_type_call ?_⟩
  rw [Around.under_plain (weight_type_call_type "set" [.ref l] []) rfl]
  have h1 := PySem.F.called_set.notType
  have h2 := PySem.F.called_set.canCreate
  have hct := PySem.F.typeCall_set_1 (.ref l)
  repeat (any_goals (first | assumption | wp_step))
  refine codeAny_mono (code_set_led1 (.ref l) (E := E) (Q₁ := fun obj s₁ => obj = .ref s.heap.objs.size ∧ s₁ = { s with heap := s.heap.push { cls := .type "set", dict := none, data := .set #[] 0 (.fresh 0 0 (!w.params.followText "set-order")) } }) ⟨rfl, rfl⟩) fun r s₁ hr => ?_
  cases r with
  | error e => exact hr
  | ok fl =>
    cases fl with
    | ret obj =>
      obtain ⟨rfl, rfl⟩ := hr
      have hS : (s.heap.push { cls := .type "set", dict := none, data := .set #[] 0 (.fresh 0 0 (!w.params.followText "set-order")) }).get? s.heap.objs.size = some { cls := .type "set", dict := none, data := .set #[] 0 (.fresh 0 0 (!w.params.followText "set-order")) } := Heap.get?_push_size _ rfl
      have hT : Shared.TypeIs { s with heap := s.heap.push { cls := .type "set", dict := none, data := .set #[] 0 (.fresh 0 0 (!w.params.followText "set-order")) } } (.ref s.heap.objs.size) "set" := ⟨_, hS, rfl⟩
      have hli := PySem.F.called_set.init.lookup
      have hbi := PySem.F.called_set.init.bind (.ref s.heap.objs.size)
      repeat (any_goals (first | assumption | wp_step))
      refine codeAny_mono (codeAny_call_builtin (R := wants (fun r s₂ => r = .none ∧ ∃ h' tk c, s₂ = { s with heap := h', toks := tk } ∧ SetT w h' s.heap.objs.size (fun j => decide (j ∈ xs)) c ∧ c ≤ xs.length ∧
          (∀ b o, s.heap.get? b = some o → h'.get? b = some o)) E) PySem.F.called_set.init.plain PySem.F.entry_set_init (check_set_init_1 hT ?_)) fun r₂ s₂ hr₂ => ?_
      · obtain ⟨ol, hol, hcl, nl, hdl⟩ := hl
        obtain ⟨ocls, odict, odata, oslots⟩ := ol
        simp only at hcl hdl
        subst hcl; subst hdl
        have hol' : (s.heap.push { cls := .type "set", dict := none, data := .set #[] 0 (.fresh 0 0 (!w.params.followText "set-order")) }).get? l = some { cls := .type "list", dict := odict, data := .seq items nl, slots := oslots } := Heap.get?_push_of_some _ hol
        have hsls := PySem.F.sub_list_set
        have hslf := PySem.F.sub_list_frozenset
        have hne : (Value.type "list" == Value.type "dict") = false := by decide
        have hl1 : (s.heap.push { cls := .type "set", dict := none, data := .set #[] 0 (.fresh 0 0 (!w.params.followText "set-order")) }).IsList l items := ⟨_, hol', rfl, nl, rfl⟩
        unfold Builtin.«set.__init__» noKeywords Builtin.Frozenset.updateFrom
        generalize hPI : pyIter = PI
        wp_walk
        subst hPI
        refine wpAny_pyIter_list hl1 ?_
        refine wpAny_bind (wpAny_runValue ?_)
        have hlS : l < s.heap.objs.size := Heap.lt_size hol
        have hh3 : A.in1.in1.in1.handled = none := by simp [hh]
        have hneI : l ≠ (s.heap.push { cls := .type "set", dict := none, data := .set #[] 0 (.fresh 0 0 (!w.params.followText "set-order")) }).objs.size := by
          rw [Heap.size_push]; exact Nat.ne_of_lt (Nat.lt_succ_of_lt hlS)
        have hSf : s.heap.objs.size ∉ [(s.heap.push { cls := .type "set", dict := none, data := .set #[] 0 (.fresh 0 0 (!w.params.followText "set-order")) }).objs.size, l] := by
          rw [Heap.size_push]; simp only [List.mem_cons, List.mem_singleton, List.not_mem_nil, or_false, not_or]
          exact ⟨Nat.ne_of_lt (Nat.lt_succ_self _), Nat.ne_of_gt hlS⟩
        have hval : ∀ (i : Nat) (v : Value), items[i]? = some v → ∃ k t, xs[i]? = some k ∧ v = .str k t := fun i v hv => strs_at' hit i v (by rw [Array.getElem?_toList]; exact hv)
        refine set_update_texts ((Walks.list hh3 _ l hneI items).toS) s.heap.objs.size
          hSf xs hisz hb hval (items.size - 0) 0 _ (by omega) (Nat.zero_le _)
          ⟨⟨_, Heap.get?_push_size _ rfl, rfl, rfl⟩, (hl1.push _)⟩ ?hS0 ?hR
        case hS0 =>
          have hget : ((s.heap.push { cls := .type "set", dict := none, data := .set #[] 0 (.fresh 0 0 (!w.params.followText "set-order")) }).push { cls := .type "list_iterator", data := .fields #[.ref l, .int 0 0] }).get? s.heap.objs.size
              = some { cls := .type "set", dict := none, data := .set #[] 0 (.fresh 0 0 (!w.params.followText "set-order")) } := Heap.get?_push_of_some _ hS
          exact ⟨0, Nat.le_refl 0, setT_new hget⟩
        case hR =>
          intro s' c' hm hc' hS'
          obtain ⟨h', g2, d', tk', os'⟩ := s'
          have eg : g2 = s.gens := hm.gens
          have ed : d' = s.drawn := hm.drawn
          have eo : os' = s.os := hm.os
          subst eg; subst ed; subst eo
          show wpAny _ _ _ _ _ _
          refine wpAny_pure ?_
          show wpAny _ _ (ret Value.none) _ _ _
          rw [hisz] at hc'
          refine wpAny_pure ⟨rfl, h', tk', c', rfl, hS', hc', fun b o e => ?_⟩
          have hb0 : b < s.heap.objs.size := Heap.lt_size e
          have hb1 : b ≠ s.heap.objs.size := Nat.ne_of_lt hb0
          have hb2 : b ≠ (s.heap.push { cls := .type "set", dict := none, data := .set #[] 0 (.fresh 0 0 (!w.params.followText "set-order")) }).objs.size := by
            rw [Heap.size_push]; exact Nat.ne_of_lt (Nat.lt_succ_of_lt hb0)
          exact hm.heap b o (by simp only [List.mem_cons, List.mem_singleton, List.not_mem_nil, or_false, not_or]; exact ⟨hb1, hb2⟩) (Heap.get?_push_of_some _ (Heap.get?_push_of_some _ e))
      · cases r₂ with
        | error e => exact hr₂
        | ok fl₂ =>
          cases fl₂ with
          | ret r =>
            obtain ⟨rfl, h', tk, c', rfl, hS', hc', hk'⟩ := hr₂
            repeat (any_goals (first | assumption | wp_step))
            exact h _ _ _ hS' hc' hk'
          | _ => exact hr₂.elim
    | _ => exact hr.elim
end
end Fw

namespace Fw
open PySem PySem.Spec PyProof.Rows L2
/-! ### sorted(set(xs)), len(set(xs)), xs texts -/
section
variable {α : Type} [DecidableEq α]
/-- each once -/
def uniq : List α → List α
  | [] => []
  | a :: l => if a ∈ l then uniq l else a :: uniq l
theorem uniq_mem (x : α) : ∀ l : List α, x ∈ uniq l ↔ x ∈ l
  | [] => Iff.rfl
  | a :: l => by
    unfold uniq
    split
    · rename_i h
      rw [uniq_mem x l, List.mem_cons]
      exact ⟨.inr, fun z => z.elim (fun e => e ▸ h) id⟩
    · rw [List.mem_cons, List.mem_cons, uniq_mem x l]
theorem uniq_nodup : ∀ l : List α, (uniq l).Nodup
  | [] => List.nodup_nil
  | a :: l => by
    unfold uniq
    split
    · exact uniq_nodup l
    · rename_i h
      exact List.nodup_cons.mpr ⟨fun z => h ((uniq_mem a l).mp z), uniq_nodup l⟩
theorem nodup_perm : ∀ {l m : List α}, l.Nodup → m.Nodup → (∀ x, x ∈ l ↔ x ∈ m) → l.Perm m
  | [], m, _, _, h => by
    cases m with
    | nil => exact List.Perm.refl _
    | cons b m => exact absurd ((h b).mpr List.mem_cons_self) (by simp)
  | a :: l, m, hl, hm, h => by
    obtain ⟨h1, h2⟩ := List.nodup_cons.mp hl
    have ma : a ∈ m := (h a).mp List.mem_cons_self
    have p := List.perm_cons_erase ma
    refine (List.Perm.cons a (nodup_perm h2 (hm.erase a) fun x => ?_)).trans p.symm
    rw [hm.mem_erase_iff]
    constructor
    · intro hx
      exact ⟨fun e => h1 (e ▸ hx), (h x).mp (List.mem_cons_of_mem _ hx)⟩
    · rintro ⟨n, hx⟩
      exact (List.mem_cons.mp ((h x).mpr hx)).resolve_left n
end
section
variable {P : Program} {w : World} {A : Around} {E : Value → Shared → Prop} {s : Shared} {a : Addr}
theorem sorted_setT {S : Str → Bool} {n : Nat} {Q : Value → Shared → Prop} (R : SetT w s.heap a S n) (hh : A.handled = none)
    (hQ : ∀ s' p (out : Array Value) (c : Nat) (ks : List Str), (∀ b o, s.heap.get? b = some o → s'.heap.get? b = some o) → s'.gens = s.gens → s'.os = s.os → s.heap.objs.size ≤ p →
      s'.heap.get? p = some (seqObj "list" out c) → StrsAre out.toList ks → ks.Nodup → sortedS ks = true → (∀ k, k ∈ ks ↔ S k = true) → Q (.ref p) s') :
    wpAny (model P w) A (call (.builtin "sorted") [.ref a]) Q E s := by
  obtain ⟨o, es, ep, t, ho, hex, hd, g, nd, hm, hb, hf, hn, hr, hl⟩ := R
  refine Calls.call_function_entry kind_sorted plain_sorted entry_sorted (args_sorted1 _) ?_
  unfold Builtin.«sorted»
  refine wpAny_bind (m := checkCount "sorted" 1 1 _) (wpAny_pure ?_)
  refine wpAny_bind (collect_set (A := A.in1) hh ⟨o, ho, hex.1, hd⟩ hf hb hr hl fun s1 vs k1 hz g1 o1 pm => ?_)
  have hvl : vs.length = es.size := by rw [pm.length_eq, List.length_map, Array.length_toList]
  have hL : vs.length ≤ sizeLine := by rw [hvl]; exact fits_of_scanBound hb
  have hI : StrsAre vs (vs.map strOf) := strsAre_map vs fun v hv => by
    obtain ⟨e, he, q⟩ := List.mem_map.mp (pm.mem_iff.mp hv)
    obtain ⟨k, tk, h1, _⟩ := g e he
    exact ⟨k, tk, by rw [← q]; exact h1⟩
  have pk : (vs.map strOf).Perm (es.toList.map keyT) := by
    have q := pm.map strOf
    rw [List.map_map] at q
    have e : es.toList.map (strOf ∘ fun x => x.2) = es.toList.map keyT := List.map_congr_left fun e he => by
      obtain ⟨k, tk, h1, _⟩ := g e he
      show strOf e.2 = keyT e
      unfold keyT
      rw [h1]
      rfl
    exact e ▸ q
  refine wpAny_bind (wpAny_newList ?_ hL)
  have hoL : (s1.heap.push (seqObj "list" vs.toArray 0)).get? s1.heap.objs.size = some (seqObj "list" vs.toArray 0) := Heap.get?_push_size _ rfl
  refine wpAny_bind (wpAny_holding (wpAny_call_entry slot_list_sort ⟨_, hoL, rfl⟩ entry_list_sort (list_sort_treeKAny strKind_oneLt hoL hI.keysOf (fun v₁ v₂ rest e => keyKind_strs (by rw [← e]; exact hI)) hL fun st' hp hs => ?_) (args_list_sort _)))
  obtain ⟨ks, a1, a2, a3⟩ := sorted_out_str hI hp hs
  refine ⟨_, rfl, ?_⟩
  obtain ⟨c, hc⟩ := sortedHeap_at (vs := vs) (out := (arrOf st').map (·.2)) hoL
  have pn : ks.Perm (es.toList.map keyT) := a2.trans pk
  refine wpAny_pure ⟨_, rfl, hQ _ s1.heap.objs.size _ c ks (fun b u e => ?_) g1 o1 hz hc a1 (pn.nodup_iff.mpr nd) a3 (fun k => by rw [pn.mem_iff, ← hm k])⟩
  have q := k1 b u e
  have hlt := Heap.lt_size q
  show (sortedHeap (s1.heap.push (seqObj "list" vs.toArray 0)) s1.heap.objs.size vs _).get? b = some u
  rw [sortedHeap_old (Nat.ne_of_lt hlt) (by rw [size_push']; exact Nat.lt_succ_of_lt hlt)]
  exact Heap.get?_push_of_some _ q
end
def rSortSet (K : Frag) : List V → Hp → VK → Prop := fun vs H Q => ∃ (a : Addr) (xs : List Str), vs = [.ref a] ∧ SqL K H a (xs.map V.str) ∧ xs.length + 1 < scanBound ∧
  ∀ (ks : List Str) (p : Addr), ks.Nodup → (∀ k, k ∈ ks ↔ k ∈ xs) → sortedS ks = true → H p = none → Q (.ref p) (upd H p (.lst (ks.map V.str)))
def rLenSet (K : Frag) : List V → Hp → VK → Prop := fun vs H Q => ∃ (a : Addr) (xs : List Str), vs = [.ref a] ∧ SqL K H a (xs.map V.str) ∧ xs.length + 1 < scanBound ∧
  ∀ (ks : List Str), ks.Nodup → (∀ k, k ∈ ks ↔ k ∈ xs) → Q (.int ks.length) H
section
variable {X : Cx} {a : Expr} {ta : TE} {p p2 q pos : Pos}
theorem pe_sortSet (hc : X.calm = true) (hg : Gl X "sorted") (hm : X.mg "sorted" = none) (hv : bootBuiltins "sorted" = some (.builtin "sorted")) (hg2 : Gl X "set") (hm2 : X.mg "set" = none) (hv2 : bootBuiltins "set" = some (.type "set")) (ha : PE X a ta)
    (na : starEach [a] X.env = (false, eval a X.env) :: starEach [] X.env := by rfl) : PE X (.Call (.Name "sorted" p) [.Call (.Name "set" p2) [a] [] q] [] pos) (tCB (rSortSet X.K) (tCons ta tNil)) := by
  refine ⟨fun pins s σ H Q I h => ?_⟩
  refine wpAny_Call_Name_kw (ld_blt I hg hm hv ?_ (by decide) (by decide))
  refine PyProof.Rows.callWith_builtin1 (PyProof.Rows.args_cons ?_ rfl) rfl rfl
  refine wpAny_Call_Name_kw (ld_blt I hg2 hm2 hv2 ?_ (by decide) (by decide))
  refine PyProof.Rows.callWith_type1 (PyProof.Rows.args_cons (thn (ha.run pins s σ H _ I h) fun v s1 ⟨x, H1, I1, r1, q1⟩ => PyProof.Rows.args_nil ?_) na) na rfl
  obtain ⟨l, xs, ex, hq, h1, q1⟩ := q1
  injection ex with ex
  subst ex
  cases r1
  obtain ⟨its, r, pl, hz⟩ := I1.list hq
  refine call_set_texts xs (I1.ok.hd hc) pl.isList (by simpa using r.strs) h1 fun h' tk c hS hcl hk => ?_
  have I2 : Inv X pins σ H1 { s1 with heap := h', toks := tk } := I1.kept fun b o e => hk b o e
  refine PyProof.Rows.args_nil ?_
  refine sorted_setT hS (I2.ok.hd hc) fun s' p out c ks k g o hp hgp hi hs hso hm => ?_
  have hks : ∀ k, k ∈ ks ↔ k ∈ xs := fun k => by rw [hm k, decide_eq_true_eq]
  have hlen : (ks.map V.str).length ≤ sizeLine := by
    rw [List.length_map]
    have : ks.length ≤ xs.length := by
      have pm := nodup_perm hs (uniq_nodup xs) fun k => (hks k).trans (uniq_mem k xs).symm
      rw [pm.length_eq]
      have ul : ∀ l : List Str, (uniq l).length ≤ l.length := fun l => by
        induction l with
        | nil => exact Nat.le_refl _
        | cons a l ih => unfold uniq; split <;> simp <;> omega
      exact ul xs
    have := fits_of_scanBound (show xs.length < scanBound by omega)
    omega
  have hn : H1 p = none := I2.hok.fresh hp
  have J : Inv X pins σ (upd H1 p (.lst (ks.map V.str))) { ({ s1 with heap := h', toks := tk } : Shared) with heap := s'.heap, gens := s'.gens, drawn := s'.drawn, toks := s'.toks } :=
    I2.call (ch := []) (Un.laid k hp hn) (I2.hok.laid k hp ⟨hlen, out.toList, c, vals_of_strs hi, hgp⟩) (by rw [g]; exact I2.bare) (fun _ z => nomatch z)
  have e : s' = { ({ s1 with heap := h', toks := tk } : Shared) with heap := s'.heap, gens := s'.gens, drawn := s'.drawn, toks := s'.toks } := by
    cases s'
    cases s1
    cases o
    rfl
  rw [e]
  exact ⟨.ref p, _, J, rfl, q1 ks p hs hks hso hn⟩
theorem pe_lenSetT (hc : X.calm = true) (hg : Gl X "len") (hm : X.mg "len" = none) (hv : bootBuiltins "len" = some (.builtin "len")) (hg2 : Gl X "set") (hm2 : X.mg "set" = none) (hv2 : bootBuiltins "set" = some (.type "set")) (ha : PE X a ta)
    (na : starEach [a] X.env = (false, eval a X.env) :: starEach [] X.env := by rfl) : PE X (.Call (.Name "len" p) [.Call (.Name "set" p2) [a] [] q] [] pos) (tCB (rLenSet X.K) (tCons ta tNil)) := by
  refine ⟨fun pins s σ H Q I h => ?_⟩
  refine wpAny_Call_Name_kw (ld_blt I hg hm hv ?_ (by decide) (by decide))
  refine PyProof.Rows.callWith_builtin1 (PyProof.Rows.args_cons ?_ rfl) rfl rfl
  refine wpAny_Call_Name_kw (ld_blt I hg2 hm2 hv2 ?_ (by decide) (by decide))
  refine PyProof.Rows.callWith_type1 (PyProof.Rows.args_cons (thn (ha.run pins s σ H _ I h) fun v s1 ⟨x, H1, I1, r1, q1⟩ => PyProof.Rows.args_nil ?_) na) na rfl
  obtain ⟨l, xs, ex, hq, h1, q1⟩ := q1
  injection ex with ex
  subst ex
  cases r1
  obtain ⟨its, r, pl, hz⟩ := I1.list hq
  refine call_set_texts xs (I1.ok.hd hc) pl.isList (by simpa using r.strs) h1 fun h' tk c hS hcl hk => ?_
  have I2 : Inv X pins σ H1 { s1 with heap := h', toks := tk } := I1.kept fun b o e => hk b o e
  refine PyProof.Rows.args_nil ?_
  obtain ⟨o, es, ep, t, ho, hex, hd, g, nd, hm, hb, hf, hn, hr, hl⟩ := hS
  have e : (es.toList.map keyT).length = es.size := by rw [List.length_map, Array.length_toList]
  have q2 := q1 _ nd fun k => by rw [← hm k, decide_eq_true_eq]
  rw [e] at q2
  refine call_len_set ho hex hd hf (by unfold scanBound at hb; omega) ⟨.int es.size, H1, I2.tok _, ⟨_, rfl⟩, q2⟩
end
section
variable {K : Frag}
@[irreducible] def R.sortSet (xs : List Str) : R (List Str) := if xs.length < 4000 then .ok (Fw.sortS (uniq xs)) else .no
@[irreducible] def R.lenSet (xs : List Str) : R Int := if xs.length < 4000 then .ok ((uniq xs).length : Nat) else .no
theorem uniq_len : ∀ l : List Str, (uniq l).length ≤ l.length
  | [] => Nat.le_refl _
  | a :: l => by
    have := uniq_len l
    unfold uniq
    split <;> simp <;> omega
theorem o_sortSet : OpA (rSortSet K) (fun z : List Str × Unit => aCons (kSh K z.1) aNil) (fun z => R.sortSet z.1) (fun x : List Str => kNw K x) := fun z => by
  unfold R.sortSet
  dsimp only
  by_cases h : z.1.length < 4000
  · rw [if_pos h]
    intro W0 W vs ⟨v, r, e, ⟨p, ls, ev, hs, al, l⟩, en⟩ Q q
    subst e en ev
    have e1 := al_strsV al
    subst e1
    refine ⟨p, z.1, rfl, hs, by unfold scanBound; omega, fun ks a nd mm so hn => ?_⟩
    have pm := nodup_perm nd (uniq_nodup z.1) fun k => (mm k).trans (uniq_mem k z.1).symm
    have e2 := sortS_of pm so
    subst e2
    refine q _ (W.no a _ hn) (Le.no hn) (nw_list (Le.refl _) hn (al_of_strs fun x hx => strs_ok al x ((mm x).mp hx)) ?_)
    rw [pm.length_eq]
    exact Nat.le_trans (uniq_len _) l
  · rw [if_neg h]; trivial
theorem o_lenSet : OpA (rLenSet K) (fun z : List Str × Unit => aCons (kSh K z.1) aNil) (fun z => R.lenSet z.1) (fun x : Int => kFr K x) := fun z => by
  unfold R.lenSet
  dsimp only
  by_cases h : z.1.length < 4000
  · rw [if_pos h]
    intro W0 W vs ⟨v, r, e, ⟨p, ls, ev, hs, al, l⟩, en⟩ Q q
    subst e en ev
    have e1 := al_strsV al
    subst e1
    refine ⟨p, z.1, rfl, hs, by unfold scanBound; omega, fun ks nd mm => ?_⟩
    have pm := nodup_perm nd (uniq_nodup z.1) fun k => (mm k).trans (uniq_mem k z.1).symm
    refine q _ W (Le.refl _) ?_
    show V.int _ = V.int _
    rw [pm.length_eq]
  · rw [if_neg h]; trivial
end
end Fw

namespace Fw
open PySem PySem.Spec PyProof.Rows L2
/-! ### len of a dict -/
def rLenD : List V → Hp → VK → Prop := fun xs H Q => ∃ a kvs, xs = [V.ref a] ∧ Rd H a (.dK kvs) ∧ Q (.int kvs.length) H
theorem call_lenD' {X : Cx} : CallR X (.builtin "len") rLenD := by
  intro pins s σ H xs us Q I r h
  obtain ⟨a, kvs, rfl, ha, q⟩ := h
  obtain ⟨u, rfl, ru⟩ := vals1 r
  cases ru
  exact d_len I ha fun t s' I' => ⟨.int kvs.length, H, I', ⟨t, rfl⟩, q⟩
section
variable {K : Frag} {α : Type} [Rp α]
theorem o_lenDS : OpA rLenD (fun z : Dk Str α × Unit => aCons (kDs K z.1) aNil) (fun z => .ok (z.1.l.length : Int)) (fun n : Int => kFr K n) := fun z W0 W vs ⟨v, r, e, ⟨p, kv, ev, hs, al, l⟩, en⟩ Q q => by
  subst e en ev
  exact ⟨p, _, rfl, hs, q _ W (Le.refl _) (by rw [List.length_map, al.len]; rfl)⟩
theorem o_lenDI : OpA rLenD (fun z : Dk Int α × Unit => aCons (kDs K z.1) aNil) (fun z => .ok (z.1.l.length : Int)) (fun n : Int => kFr K n) := fun z W0 W vs ⟨v, r, e, ⟨p, kv, ev, hs, al, l⟩, en⟩ Q q => by
  subst e en ev
  exact ⟨p, _, rfl, hs, q _ W (Le.refl _) (by rw [List.length_map, al.len]; rfl)⟩
end
end Fw

namespace Fw
open PySem L2
/-! ### defs that change two things handed in, the last two arguments -/
/-- things that stand at one place -/
class ObP (α : Type) extends Ob α where
  one : ∀ {K : Frag} {x : α} {v : V} {f : List Addr} {W : Wd}, own K x v f W → ∃ p, v = .ref p ∧ f = [p]
instance {α : Type} [Rp α] : ObP (List α) where
  one := fun {K x v f W} ⟨p, vs, e, ef, _⟩ => ⟨p, e, ef⟩
instance {κ α : Type} [DecidableEq κ] [Rp κ] [DKy κ] [Rp α] : ObP (Dk κ α) where
  one := fun {K x v f W} ⟨p, q, e, ef, _⟩ => ⟨p, e, ef⟩
section
variable {c : Cn} {W0 : Wd} {X : WX} {As Bs : List Sl} {α β γ τ ρ : Type} [ObP α] [ObP β]
def spIO2 (c : Cn) [Args τ] (f : τ → α → β → R (ρ × (α × β))) (kr : ρ → Kd) : Sp := fun vs H Q E => ∃ (W : Wd) (x : τ) (y : α) (z : β) (vs1 : List V) (p q : Addr),
  W.H = H ∧ vs = vs1 ++ [.ref p, .ref q] ∧ Args.reps c.K x vs1 W.G ∧ Ob.own c.K y (.ref p) [p] W ∧ Ob.own c.K z (.ref q) [q] W ∧ p ≠ q ∧ match f x y z with
    | .ok r => ∀ u (W' : Wd), LeX W [p, q] W' → (kr r.1).p W u W' → Ob.own c.K r.2.1 (.ref p) [p] W' → Ob.own c.K r.2.2 (.ref q) [q] W' → Q u W'.H
    | _ => False
theorem spIO2_len [Args τ] {f : τ → α → β → R (ρ × (α × β))} {kr : ρ → Kd} (vs : List V) (H : Hp) (Q : VK) (E : XK) (h : spIO2 c f kr vs H Q E) : vs.length = Args.num τ + 2 := by
  obtain ⟨W, x, y, z, vs1, p, q, e, ev, r1, _⟩ := h
  rw [ev, List.length_append, Args.len r1]
  rfl
/-- two own things of two slots, both changed -/
theorem At.chg2 {K : Frag} {W : Wd} {σ : St} {y y' : α} {z z' : β} {pi pj : Option V} {i j : Nat} (h : At K W0 As σ W) (ij : i ≠ j) (hi : As[i]? = some (.ow pi y)) (hj : As[j]? = some (.ow pj z)) :
    ∃ p q, σ[i]? = some (some (.ref p)) ∧ σ[j]? = some (some (.ref q)) ∧ Ob.own K y (.ref p) [p] W ∧ Ob.own K z (.ref q) [q] W ∧ p ≠ q ∧ W0.H p = none ∧ W0.H q = none ∧
      ∀ W', LeX W [p, q] W' → Ob.own K y' (.ref p) [p] W' → Ob.own K z' (.ref q) [q] W' → At K W0 ((As.set i (.ow pi y')).set j (.ow pj z')) σ W' := by
  have h0 := h
  obtain ⟨l, le, F, h1, h2, h3⟩ := h
  have li : i < σ.length := l ▸ (List.getElem?_eq_some_iff.mp hi).1
  have lj : j < σ.length := l ▸ (List.getElem?_eq_some_iff.mp hj).1
  obtain ⟨v, ev, rv, pnv⟩ := h1 i _ _ hi (List.getElem?_eq_getElem li)
  obtain ⟨w, ew, rw_, pnw⟩ := h1 j _ _ hj (List.getElem?_eq_getElem lj)
  obtain ⟨p, e1, f1⟩ := ObP.one rv
  obtain ⟨q, e2, f2⟩ := ObP.one rw_
  subst e1 e2
  have np : p ≠ q := fun e => h2 i j p ij (by rw [f1]; exact List.mem_singleton.mpr rfl) (by rw [f2, e]; exact List.mem_singleton.mpr rfl)
  have zp := (h3 i p (by rw [f1]; exact List.mem_singleton.mpr rfl)).2.2
  have zq := (h3 j q (by rw [f2]; exact List.mem_singleton.mpr rfl)).2.2
  have gq := (h3 j q (by rw [f2]; exact List.mem_singleton.mpr rfl))
  rw [f1] at rv
  rw [f2] at rw_
  have si : σ[i]? = some (some (.ref p)) := by rw [List.getElem?_eq_getElem li, ev]
  have sj : σ[j]? = some (some (.ref q)) := by rw [List.getElem?_eq_getElem lj, ew]
  refine ⟨p, q, si, sj, rv, rw_, np, zp, zq, fun W' lx oy oz => ?_⟩
  have g'q := (Ob.foot oz q (List.mem_singleton.mpr rfl)).1
  -- the ground where only the first one is changed
  let W1 : Wd := ⟨W'.G, fun a => if a = q then W.H q else W'.H a, fun a o e => by
    by_cases c : a = q
    · subst c; rw [g'q] at e; cases e
    · dsimp only; rw [if_neg c]; exact W'.sub a o e, fun a u h i => by
    have h' : (if a = q then W.H q else W'.H a) = some u := h
    by_cases c : a = q
    · rw [if_pos c] at h'
      have z := W.im q u h' i
      rw [gq.1] at z; cases z
    · rw [if_neg c] at h'
      exact W'.im a u h' i⟩
  have h1q : W1.H q = W.H q := if_pos rfl
  have h1n : ∀ a, a ≠ q → W1.H a = W'.H a := fun a n => if_neg n
  obtain ⟨v', f', sv', ov', nz, chg⟩ := h0.chg (β := α) (y := y') hi
  rw [si] at sv'
  cases sv'
  obtain ⟨p', e3, e4⟩ := ObP.one ov'
  cases e3
  subst e4
  have a1 : At K W0 (As.set i (.ow pi y')) σ W1 := by
    refine chg W1 [p] lx.g (fun a ha g n => ?_) (fun a ha n => ?_) ?_ (fun a ha => .inl ha)
    · by_cases c : a = q
      · subst c; exact g'q
      · exact lx.o a (by simp only [List.mem_cons, List.not_mem_nil, or_false, not_or]; exact ⟨fun z => ha (List.mem_singleton.mpr z), c⟩) g n
    · by_cases c : a = q
      · subst c; exact h1q
      · rw [h1n a c]
        exact lx.h a (by simp only [List.mem_cons, List.not_mem_nil, or_false, not_or]; exact ⟨fun z => ha (List.mem_singleton.mpr z), c⟩) n
    · exact Ob.keep oy (Inc.refl _) (fun a ha => (Ob.foot oy a ha).1) fun a ha => by
        rw [List.mem_singleton.mp ha]
        exact h1n p np
  have hj' : (As.set i (.ow pi y'))[j]? = some (.ow pj z) := by rw [get_set_ne ij]; exact hj
  obtain ⟨w', g', sw', ow', nw', chg2⟩ := a1.chg (β := β) (y := z') hj'
  rw [sj] at sw'
  cases sw'
  obtain ⟨q', e5, e6⟩ := ObP.one ow'
  cases e5
  subst e6
  refine chg2 W' [q] (Inc.refl _) (fun a ha g n => g) (fun a ha n => ?_) oz (fun a ha => .inl ha)
  exact (h1n a fun z => ha (List.mem_singleton.mpr z)).symm
/-- arguments, the last two one's own things -/
def kIO2 (K : Frag) [Args τ] (a : τ) (w1 w2 : V) : KdA := ⟨fun _ vs W => ∃ vs1, vs = vs1 ++ [w1, w2] ∧ Args.reps K a vs1 W.G, fun ⟨v1, e, r1⟩ q => ⟨v1, e, Args.mono q.g r1⟩, fun _ h => h⟩
def Ax2 (c : Cn) (W0 : Wd) (X : WX) [Args τ] (ta : TA) (As : List Sl) (i j : Nat) (m : R τ) : Prop := ∀ σ W w1 w2, At c.K W0 As σ W → σ[i]? = some (some w1) → σ[j]? = some (some w2) → SatR m (fun z => EvA ta σ W (kIO2 c.K z w1 w2)) (RzA c X ta σ W)
theorem ax2_here {i j : Nat} : Ax2 (τ := Unit) c W0 X (tCons (tVar i) (tCons (tVar j) tNil)) As i j (.ok ()) := fun σ W w1 w2 a h1 h2 => fun W1 e1 Q q => ⟨w1, h1, w2, h2, q _ W1 (Le.refl _) ⟨[], rfl, rfl⟩⟩
theorem ax2_cons [Rp γ] [Args τ] {te : TE} {ta : TA} {i j : Nat} {m : R γ} {n : R τ} (h : Exr c W0 X te As m fun x => kFr c.K x) (hr : Ax2 c W0 X ta As i j n) : Ax2 (τ := γ × τ) c W0 X (tCons te ta) As i j (m.bind fun x => n.bind fun z => .ok (x, z)) := fun σ W w1 w2 a s1 s2 => by
  have h' := h σ W a
  have hr' := hr σ W w1 w2 a s1 s2
  cases m with
  | no => trivial
  | ex e => exact fun W1 e1 Q q => h' W1 e1 _ q
  | ok x =>
    cases n with
    | no => trivial
    | ex e => exact fun W1 e1 Q q => h' W1 e1 _ fun v W2 e2 p => hr' W2 (e1.trans e2) _ fun cls d W3 e3 z => q cls d W3 (e2.trans e3) z
    | ok z => exact fun W1 e1 Q q => h' W1 e1 _ fun v W2 e2 p => hr' W2 (e1.trans e2) _ fun vs W3 e3 ⟨v1, ev, r1⟩ => q _ W3 (e2.trans e3) ⟨v :: v1, by rw [ev]; rfl, ⟨v, v1, rfl, Rp.mono e3.g p, r1⟩⟩
/-- .. the last one made here -/
def kIO2t (K : Frag) [Args τ] (a : τ) (w : V) (b : β) : KdA := ⟨fun A vs W => ∃ vs1 q, vs = vs1 ++ [w, .ref q] ∧ Args.reps K a vs1 W.G ∧ Ob.own K b (.ref q) [q] W ∧ A.H q = none,
  fun ⟨v1, q, e, r1, o, n⟩ z => ⟨v1, q, e, Args.mono z.g r1, own_up o z, n⟩, fun e ⟨v1, q, e1, r1, o, n⟩ => ⟨v1, q, e1, r1, o, e.h.nope n⟩⟩
def Ax2t (c : Cn) (W0 : Wd) (X : WX) [Args τ] (ta : TA) (As : List Sl) (i : Nat) (m : R τ) (b : β) : Prop := ∀ σ W w, At c.K W0 As σ W → σ[i]? = some (some w) → SatR m (fun z => EvA ta σ W (kIO2t c.K z w b)) (RzA c X ta σ W)
theorem ax2t_here {i : Nat} {te : TE} {b : β} (h : Exp c W0 te As (kNw c.K b)) : Ax2t (τ := Unit) c W0 X (tCons (tVar i) (tCons te tNil)) As i (.ok ()) b := fun σ W w a h1 => fun W1 e1 Q q => ⟨w, h1, h σ W a W1 e1 _ fun v W2 e2 ⟨f, o, n⟩ => by
  obtain ⟨p, e3, e4⟩ := ObP.one o
  subst e3 e4
  exact q _ W2 e2 ⟨[], p, rfl, rfl, o, n p (List.mem_singleton.mpr rfl)⟩⟩
theorem ax2t_cons [Rp γ] [Args τ] {te : TE} {ta : TA} {i : Nat} {m : R γ} {n : R τ} {b : β} (h : Exr c W0 X te As m fun x => kFr c.K x) (hr : Ax2t c W0 X ta As i n b) : Ax2t (τ := γ × τ) c W0 X (tCons te ta) As i (m.bind fun x => n.bind fun z => .ok (x, z)) b := fun σ W w a s1 => by
  have h' := h σ W a
  have hr' := hr σ W w a s1
  cases m with
  | no => trivial
  | ex e => exact fun W1 e1 Q q => h' W1 e1 _ q
  | ok x =>
    cases n with
    | no => trivial
    | ex e => exact fun W1 e1 Q q => h' W1 e1 _ fun v W2 e2 p => hr' W2 (e1.trans e2) _ fun cls d W3 e3 z => q cls d W3 (e2.trans e3) z
    | ok z => exact fun W1 e1 Q q => h' W1 e1 _ fun v W2 e2 p => hr' W2 (e1.trans e2) _ fun vs W3 e3 ⟨v1, y, ev, r1, o, nn⟩ => q _ W3 (e2.trans e3) ⟨v :: v1, y, by rw [ev]; rfl, ⟨v, v1, rfl, Rp.mono e3.g p, r1⟩, o, e2.h.nope nn⟩
variable {J S T ρ' : Type} {kr' : ρ' → Kd} {Ls : List Sl} {Js : J → List Sl} {B : Bd} {Cs : T → List Sl}
/-- f(.., x, {}): the call alone -/
theorem d_call2t [Args τ] {f : τ → α → β → R (ρ × (α × β))} {kr : ρ → Kd} {ta : TA} {m : R τ} {y : α} {b : β} {pin : Option V} {u : TS} {k : α → Out T J ρ'} (i : Nat) (hi : As[i]? = some (.ow pin y)) (lx : Lx Ls As)
    (h : Ax2t c B.W0 X ta As i m b) (hk : ∀ y, Den c X kr' Ls Js B u (As.set i (.ow pin y)) (k y) Cs) :
    Den c X kr' Ls Js B (tSeq (tDrop (tCallS (spIO2 c f kr) (WE X) ta)) u) As (m.to fun z => (f z y b).np.to fun r => k r.2.1) Cs := fun D σ W a fn => by
  obtain ⟨w, fp, hw, ow0, n00, _⟩ := a.chg (β := α) (y := y) hi
  obtain ⟨p, e5, e6⟩ := ObP.one ow0
  subst e5 e6
  have h' := h σ W _ a hw
  cases m with
  | no => exact False.elim fn
  | ex e => exact h' W (Le.refl _) _ fun cls d W2 e2 z => fn cls d σ W2 (lx_at lx (a.mono e2)) z
  | ok z =>
    refine h' W (Le.refl _) _ fun vs W2 e2 ⟨v1, q, ev, r1, ob, nq⟩ => ?_
    have fn' : Fin c X kr' Ls Js B Cs D ((f z y b).np.to fun r => k r.2.1) := fn
    cases hf : f z y b with
    | no => rw [hf] at fn'; exact False.elim fn'
    | ex e => rw [hf] at fn'; exact False.elim fn'
    | ok r =>
      rw [hf] at fn'
      obtain ⟨w', fp', hw', o, n0, chg⟩ := a.chg (β := α) (y := r.2.1) hi
      rw [hw] at hw'
      cases hw'
      obtain ⟨p', e7, e8⟩ := ObP.one o
      cases e7
      subst e8
      have o2 : Ob.own c.K y (.ref p) [p] W2 := own_up o e2
      have np : p ≠ q := fun z => (Ob.foot o p (List.mem_singleton.mpr rfl)).2 (by rw [z]; exact nq)
      refine ⟨W2, z, y, b, v1, p, q, rfl, ev, r1, o2, ob, np, ?_⟩
      rw [hf]
      refine fun u W3 lx3 _ oy oz => hk _ D σ W3 (chg W3 [p] (e2.g.trans lx3.g) (fun a ha g n => ?_) (fun a ha n => ?_) oy fun a ha => .inl ha) fn'
      · have aq : a ≠ q := fun z => n (by rw [z]; exact nq)
        exact lx3.o a (by simp only [List.mem_cons, List.not_mem_nil, or_false, not_or]; exact ⟨fun z => ha (List.mem_singleton.mpr z), aq⟩) (e2.o a g n) (fun z => n (e2.h.nope z))
      · have aq : a ≠ q := fun z => n (by rw [z]; exact nq)
        rw [lx3.h a (by simp only [List.mem_cons, List.not_mem_nil, or_false, not_or]; exact ⟨fun z => ha (List.mem_singleton.mpr z), aq⟩) (fun z => n (e2.h.nope z))]
        cases e9 : W.H a with
        | none => exact absurd e9 n
        | some o => exact e2.h a o e9
/-- if t or f(.., x, y): a block that never goes on -/
theorem d_ifc2 [Args τ] {f : τ → α → β → R (Bool × (α × β))} {tA : TT} {ta : TA} {mA : R Bool} {m : R τ} {y : α} {z : β} {pi pj : Option V} {t v : TS} {a : α → β → Out Empty J ρ'} {k : α → β → Out T J ρ'} (i j : Nat) (ij : i ≠ j) (hi : As[i]? = some (.ow pi y)) (hj : As[j]? = some (.ow pj z)) (lx : Lx Ls As)
    (hA : Txr c B.W0 X tA As mA) (h : Ax2 c B.W0 X ta As i j m) (h1 : ∀ y z, Den c X kr' Ls Js B t ((As.set i (.ow pi y)).set j (.ow pj z)) (a y z) noSl) (hk : ∀ y z, Den c X kr' Ls Js B v ((As.set i (.ow pi y)).set j (.ow pj z)) (k y z) Cs) :
    Den c X kr' Ls Js B (tSeq (tIfS (tOr tA (tB (tCallS (spIO2 c f fun x : Bool => kFr c.K x) (WE X) ta))) t tNext) v) As (mA.to fun b => (if b then R.ok (true, (y, z)) else m.bind fun x => (f x y z).np).to fun r => if r.1 then (a r.2.1 r.2.2).abs else k r.2.1 r.2.2) Cs := fun D σ W at_ fn => by
  have self2 : ∀ {W1 : Wd}, At c.K B.W0 As σ W1 → At c.K B.W0 ((As.set i (.ow pi y)).set j (.ow pj z)) σ W1 := fun {W1} a1 => by
    obtain ⟨p, q, _, _, o1, o2, _, _, _, k2⟩ := a1.chg2 (y' := y) (z' := z) ij hi hj
    exact k2 W1 ⟨Inc.refl _, fun a _ g _ => g, fun a _ _ => rfl⟩ o1 o2
  have hA' := hA σ W at_
  cases mA with
  | no => exact False.elim fn
  | ex e => exact hA' W (Le.refl _) _ fun cls d W2 e2 z => fn cls d σ W2 (lx_at lx (at_.mono e2)) z
  | ok b =>
    refine hA' W (Le.refl _) _ fun W2 e2 => ?_
    have a2 := at_.mono e2
    cases b with
    | true => exact d_abs (v := v) (h1 y z) D σ W2 (self2 a2) fn
    | false =>
      obtain ⟨p, q, sp, sq, o1, o2, np, z1, z2, _⟩ := a2.chg2 (y' := y) (z' := z) ij hi hj
      have h' := h σ W2 _ _ a2 sp sq
      have fn' : Fin c X kr' Ls Js B Cs D ((m.bind fun x => (f x y z).np).to fun r => if r.1 then (a r.2.1 r.2.2).abs else k r.2.1 r.2.2) := fn
      cases m with
      | no => exact False.elim fn'
      | ex e => exact h' W2 (Le.refl _) _ fun cls d W3 e3 z => fn' cls d σ W3 (lx_at lx (a2.mono e3)) z
      | ok x =>
        refine h' W2 (Le.refl _) _ fun vs W3 e3 ⟨v1, ev, r1⟩ => ?_
        have fn2 : Fin c X kr' Ls Js B Cs D ((f x y z).np.to fun r => if r.1 then (a r.2.1 r.2.2).abs else k r.2.1 r.2.2) := fn'
        have a3 := a2.mono e3
        cases hf : f x y z with
        | no => rw [hf] at fn2; exact False.elim fn2
        | ex e => rw [hf] at fn2; exact False.elim fn2
        | ok r =>
          rw [hf] at fn2
          obtain ⟨p', q', sp', sq', o1', o2', np', _, _, k2⟩ := a3.chg2 (y' := r.2.1) (z' := r.2.2) ij hi hj
          rw [sp] at sp'
          cases sp'
          rw [sq] at sq'
          cases sq'
          refine ⟨W3, x, y, z, v1, p, q, rfl, ev, r1, o1', o2', np, ?_⟩
          rw [hf]
          intro u W4 lx4 hu oy oz
          have a4 := k2 W4 lx4 oy oz
          have hu' : u = .bl r.1 := hu
          refine ⟨r.1, hu', ?_⟩
          have fn3 : Fin c X kr' Ls Js B Cs D (if r.1 then (a r.2.1 r.2.2).abs else k r.2.1 r.2.2) := fn2
          cases hb : r.1 with
          | true => rw [hb] at fn3; exact d_abs (v := v) (h1 _ _) D σ W4 a4 fn3
          | false => rw [hb] at fn3; exact hk _ _ D σ W4 a4 fn3
/-! the def itself -/
theorem At.consOO {K : Frag} {W : Wd} {σ : St} {y : α} {z : β} {p q : Addr} (h : At K W0 As σ W) (no : noOw As) (o1 : Ob.own K y (.ref p) [p] W) (o2 : Ob.own K z (.ref q) [q] W) (np : p ≠ q) (n1 : W0.H p = none) (n2 : W0.H q = none) :
    At K W0 (.ow (some (.ref p)) y :: .ow (some (.ref q)) z :: As) (some (.ref p) :: some (.ref q) :: σ) W := by
  obtain ⟨l, le, F, h1, h2, h3⟩ := h
  refine ⟨by simp [l], le, fun j => match j with | 0 => [p] | 1 => [q] | j + 2 => [], fun j B pp a b => ?_, fun j k a n ha hb => ?_, fun j a ha => ?_⟩
  · match j with
    | 0 => cases a; cases b; exact ⟨_, rfl, o1, fun u e => Option.some.inj e⟩
    | 1 => cases a; cases b; exact ⟨_, rfl, o2, fun u e => Option.some.inj e⟩
    | j + 2 => exact noOw_get no a (h1 j B pp a b)
  · match j, k with
    | 0, 0 => exact n rfl
    | 1, 1 => exact n rfl
    | 0, 1 => exact np ((List.mem_singleton.mp ha).symm.trans (List.mem_singleton.mp hb))
    | 1, 0 => exact np ((List.mem_singleton.mp hb).symm.trans (List.mem_singleton.mp ha))
    | 0, k + 2 => cases hb
    | 1, k + 2 => cases hb
    | j + 2, _ => cases ha
  · match j with
    | 0 => rw [List.mem_singleton.mp ha]; exact ⟨(Ob.foot o1 p (List.mem_singleton.mpr rfl)).1, (Ob.foot o1 p (List.mem_singleton.mpr rfl)).2, n1⟩
    | 1 => rw [List.mem_singleton.mp ha]; exact ⟨(Ob.foot o2 q (List.mem_singleton.mpr rfl)).1, (Ob.foot o2 q (List.mem_singleton.mpr rfl)).2, n2⟩
    | j + 2 => cases ha
def krIO2 (K : Frag) (kr : ρ → Kd) (p q : Addr) (z : ρ × (α × β)) : Kd := ⟨fun A u W => (kr z.1).p A u W ∧ Ob.own K z.2.1 (.ref p) [p] W ∧ Ob.own K z.2.2 (.ref q) [q] W, fun ⟨a, o1, o2⟩ e => ⟨(kr z.1).up a e, own_up o1 e, own_up o2 e⟩, fun e ⟨a, o1, o2⟩ => ⟨(kr z.1).dn e a, o1, o2⟩⟩
theorem fn_ioR2 [Args τ] {N : List Str} {n : Nat} {t : TS} {vs : List V} {H : Hp} {Q : VK} {E : XK} {f : τ → α → β → R (ρ × (α × β))} {m : τ → α → β → Out Empty Unit (ρ × (α × β))} {kr : ρ → Kd} (pl : Plain kr) (h : spIO2 c f kr vs H Q E) (hN : N.length = Args.num τ + (2 + n)) (hm : ∀ x y z, f x y z = ioR (m x y z))
    (hd : ∀ (W : Wd) x y z p q, Den c (x0 E) (krIO2 c.K kr p q) (uns N.length) (fun _ : Unit => []) (bd0 W) t (Args.sl x ++ (.ow (some (.ref p)) y :: .ow (some (.ref q)) z :: uns n)) (m x y z) noSl) :
    t { nx := fun _ H' => Q .non H', rt := Q } (L2.start N vs) H := by
  obtain ⟨W, x, y, z, vs1, p, q, eh, ev, r1, o1, o2, np, k⟩ := h
  subst eh ev
  have wf : ∀ a ∈ [p, q], W.G a = none := fun a ha => by
    rcases List.mem_cons.mp ha with e | e
    · rw [e]; exact (Ob.foot o1 p (List.mem_singleton.mpr rfl)).1
    · rw [List.mem_singleton.mp e]; exact (Ob.foot o2 q (List.mem_singleton.mpr rfl)).1
  have e : L2.start N (vs1 ++ [.ref p, .ref q]) = vs1.map some ++ (some (.ref p) :: some (.ref q) :: List.replicate n none) := by
    unfold L2.start
    have h : N.length - (vs1 ++ [V.ref p, V.ref q]).length = n := by
      rw [hN, List.length_append, Args.len r1]
      show _ - (_ + 2) = n
      omega
    rw [h]
    simp
  have st : At c.K (W.wo [p, q] wf) (Args.sl x ++ (.ow (some (.ref p)) y :: .ow (some (.ref q)) z :: uns n)) (L2.start N (vs1 ++ [.ref p, .ref q])) W := by
    rw [e]
    have a0 : At c.K (W.wo [p, q] wf) (uns n) (List.replicate n none) W := (at_uns n).re Le.wo
    exact Args.at_ r1 (a0.consOO (noOw_uns n) o1 o2 np (wo_in (by simp)) (wo_in (by simp)))
  refine hd (W.wo [p, q] wf) x y z p q _ _ W st ?_
  rw [hm] at k
  revert k
  generalize m x y z = r
  intro k
  cases r with
  | nx y' => exact y'.elim
  | rt r => exact fun u W' l ⟨a, oy, oz⟩ => k u W' (LeX.of (h := wf) l) (pl _ _ _ _ _ a) oy oz
  | bk j => exact k.elim
  | ct j => exact k.elim
  | ex e => exact k.elim
  | no => exact k.elim
/-- return e, where two things handed in were changed -/
theorem d_retIO2 {J : Type} {Ls : List Sl} {Js : J → List Sl} {B : Bd} {kr : ρ → Kd} {p q : Addr} {te : TE} {u : TS} {m : R ρ} {y : α} {z : β} {S : Type} {Bs : S → List Sl} (i j : Nat) (ij : i ≠ j) (hi : As[i]? = some (.ow (some (.ref p)) y)) (hj : As[j]? = some (.ow (some (.ref q)) z)) (lx : Lx Ls As) (h : Exr c B.W0 X te As m kr) :
    Den c X (krIO2 c.K kr p q) Ls Js B (tSeq (tRet te) u) As (m.to fun r => .rt (r, (y, z))) Bs := fun D σ W a f => by
  have h' := h σ W a
  cases m with
  | no => exact False.elim f
  | ex e => exact h' W (Le.refl _) _ fun cls d W2 e2 z => f cls d σ W2 (lx_at lx (a.mono e2)) z
  | ok x =>
    refine h' W (Le.refl _) _ fun w W2 e r => f w W2 (a.le.trans e) ?_
    obtain ⟨v1, f1, hv1, o1, pn1, _⟩ := (a.mono e).varO hi
    obtain ⟨v2, f2, hv2, o2, pn2, _⟩ := (a.mono e).varO hj
    have e1 := pn1 _ rfl
    have e2 := pn2 _ rfl
    subst e1 e2
    obtain ⟨_, e3, e4⟩ := ObP.one o1
    cases e3
    subst e4
    obtain ⟨_, e5, e6⟩ := ObP.one o2
    cases e5
    subst e6
    exact ⟨(kr x).dn (B.le.trans a.le) r, o1, o2⟩
end
end Fw

namespace Fw
open PySem L2
/-! ### x = xs.pop() -/
theorem Al.dropLast {α : Type} {P : α → V → Prop} {xs : List α} {vs : List V} (h : Al P xs vs) : Al P xs.dropLast vs.dropLast := ⟨by rw [List.length_dropLast, List.length_dropLast, h.1], fun i x v a b => by
  rw [List.getElem?_dropLast] at a b
  split at a
  · split at b
    · exact h.2 i x v a b
    · cases b
  · cases a⟩
def R.pop {α : Type} (xs : List α) : R (α × List α) := match xs[xs.length - 1]? with
  | some y => .ok (y, xs.dropLast)
  | none => .no
section
variable {J S ρ α : Type} {c : Cn} {X : WX} {kr : ρ → Kd} {Ls : List Sl} {Js : J → List Sl} {B : Bd} {As : List Sl} {Bs : S → List Sl}
theorem d_pop [Rp α] {pin : Option V} {u : TS} {xs : List α} {k : α → List α → Out S J ρ} (i j : Nat) (ij : i ≠ j) (hi : As[i]? = some (.ow pin xs)) (hk : ∀ (y : α) (ys : List α), Den c X kr Ls Js B u ((As.set i (.ow pin ys)).set j (.fr y)) (k y ys) Bs) :
    Den c X kr Ls Js B (tSeq (tAsg (tBM0 c.K "list" rPop (tVar i)) (gName j)) u) As ((R.pop xs).to fun r => k r.1 r.2) Bs := fun D σ W a f => by
  obtain ⟨w, fp, hw, rw_, n0, chg⟩ := a.chg (β := List α) (y := xs.dropLast) hi
  obtain ⟨p, vs, ew, ef, g, hh, al, l⟩ := rw_
  subst ew ef
  refine ⟨_, hw, .inl ⟨rfl, vs, .inl (.inl hh)⟩, ?_⟩
  unfold R.pop at f
  cases e : xs[xs.length - 1]? with
  | none => rw [e] at f; exact False.elim f
  | some y =>
    rw [e] at f
    obtain ⟨v, ev, r⟩ := al.get e
    refine ⟨p, vs, v, rfl, rfl, hh, by rw [← al.1]; exact ev, ?_⟩
    have a3 := chg (W.mt p (.lst vs.dropLast) g) [p] (Inc.refl _) (fun b _ hb _ => hb) (fun b hb n => mut_keep g b hb n) ⟨p, _, rfl, rfl, g, upd_same, al.dropLast, by rw [List.length_dropLast]; omega⟩ (fun b hb => .inl hb)
    exact hk y _ D _ _ (a3.setF r) f
/-- a for's name that may be None elsewhere -/
theorem g_nameS {W0 : Wd} [Rp α] [NN α] (i : Nat) : Tg c W0 (gName i) As (fun x : α => kFr c.K x) (fun x => As.set i (.fr (some x))) := fun x σ W A v a r Q q => q _ (a.setF (show Rp.rep c.K (some x) v W.G from ⟨NN.nn r, r⟩))
end
end Fw

namespace Fw
open PySem PySem.Spec PyProof.Rows L2
/-! ### sets of ints -/
section
variable {P : Program} {w : World} {A : Around} {E : Value → Shared → Prop} {s : Shared}
theorem ints_at' {us : List Value} {xs : List Int} (h : IntsAre us xs) (i : Nat) (v : Value) (e : us[i]? = some v) : ∃ k t, xs[i]? = some k ∧ v = .int k t := by
  induction h generalizing i with
  | nil => simp at e
  | cons n t hr ih =>
    cases i with
    | zero => simp at e; exact ⟨n, t, rfl, e.symm⟩
    | succ i => simp only [List.getElem?_cons_succ] at e ⊢; exact ih i e
/-- set(xs), xs a list of ints -/
theorem call_set_ints {l : Addr} {items : Array Value} (xs : List Int) {Q : Value → Shared → Prop} (hh : A.handled = none) (hl : s.heap.IsList l items) (hit : IntsAre items.toList xs) (hb : xs.length + 1 < scanBound)
    (h : ∀ (h' : Heap) (tk c : Nat), SetR w h' s.heap.objs.size (fun j => decide (j ∈ xs)) c → c ≤ xs.length → (∀ b o, s.heap.get? b = some o → h'.get? b = some o) → Q (.ref s.heap.objs.size) { s with heap := h', toks := tk }) :
    wpAny (model P w) A (call (.type "set") [.ref l]) Q E s := by
  have hisz : items.size = xs.length := by
    have q := hit.length
    rw [Array.length_toList] at q
    exact q
  obtain ⟨c, tl, hmro⟩ := PySem.F.called_set.mro
  have hmade := PySem.F.called_set.made
  have hsub := PySem.F.called_set.sub
  refine wpAny_call (codeAny_of_tree ?_)
  show wpAny _ _ (callAny (.type "set") _) _ _ _
  refine wpAny_pure ⟨Code.quiet_builtin _ (by decide +kernel), codeAny_builtin PySem.F.entry_type_call ?_⟩
  rw [Around.under_plain (weight_type_call_type "set" [.ref l] []) rfl]
  have h1 := PySem.F.called_set.notType
  have h2 := PySem.F.called_set.canCreate
  have hct := PySem.F.typeCall_set_1 (.ref l)
  repeat (any_goals (first | assumption | wp_step))
  refine codeAny_mono (code_set_led1 (.ref l) (E := E) (Q₁ := fun obj s₁ => obj = .ref s.heap.objs.size ∧ s₁ = { s with heap := s.heap.push { cls := .type "set", dict := none, data := .set #[] 0 (.fresh 0 0 (!w.params.followText "set-order")) } }) ⟨rfl, rfl⟩) fun r s₁ hr => ?_
  cases r with
  | error e => exact hr
  | ok fl =>
    cases fl with
    | ret obj =>
      obtain ⟨rfl, rfl⟩ := hr
      have hS : (s.heap.push { cls := .type "set", dict := none, data := .set #[] 0 (.fresh 0 0 (!w.params.followText "set-order")) }).get? s.heap.objs.size = some { cls := .type "set", dict := none, data := .set #[] 0 (.fresh 0 0 (!w.params.followText "set-order")) } := Heap.get?_push_size _ rfl
      have hT : Shared.TypeIs { s with heap := s.heap.push { cls := .type "set", dict := none, data := .set #[] 0 (.fresh 0 0 (!w.params.followText "set-order")) } } (.ref s.heap.objs.size) "set" := ⟨_, hS, rfl⟩
      have hli := PySem.F.called_set.init.lookup
      have hbi := PySem.F.called_set.init.bind (.ref s.heap.objs.size)
      repeat (any_goals (first | assumption | wp_step))
      refine codeAny_mono (codeAny_call_builtin (R := wants (fun r s₂ => r = .none ∧ ∃ h' tk c, s₂ = { s with heap := h', toks := tk } ∧ SetR w h' s.heap.objs.size (fun j => decide (j ∈ xs)) c ∧ c ≤ xs.length ∧
          (∀ b o, s.heap.get? b = some o → h'.get? b = some o)) E) PySem.F.called_set.init.plain PySem.F.entry_set_init (check_set_init_1 hT ?_)) fun r₂ s₂ hr₂ => ?_
      · obtain ⟨ol, hol, hcl, nl, hdl⟩ := hl
        obtain ⟨ocls, odict, odata, oslots⟩ := ol
        simp only at hcl hdl
        subst hcl; subst hdl
        have hol' : (s.heap.push { cls := .type "set", dict := none, data := .set #[] 0 (.fresh 0 0 (!w.params.followText "set-order")) }).get? l = some { cls := .type "list", dict := odict, data := .seq items nl, slots := oslots } := Heap.get?_push_of_some _ hol
        have hsls := PySem.F.sub_list_set
        have hslf := PySem.F.sub_list_frozenset
        have hne : (Value.type "list" == Value.type "dict") = false := by decide
        have hl1 : (s.heap.push { cls := .type "set", dict := none, data := .set #[] 0 (.fresh 0 0 (!w.params.followText "set-order")) }).IsList l items := ⟨_, hol', rfl, nl, rfl⟩
        unfold Builtin.«set.__init__» noKeywords Builtin.Frozenset.updateFrom
        generalize hPI : pyIter = PI
        wp_walk
        subst hPI
        refine wpAny_pyIter_list hl1 ?_
        refine wpAny_bind (wpAny_runValue ?_)
        have hlS : l < s.heap.objs.size := Heap.lt_size hol
        have hh3 : A.in1.in1.in1.handled = none := by simp [hh]
        have hneI : l ≠ (s.heap.push { cls := .type "set", dict := none, data := .set #[] 0 (.fresh 0 0 (!w.params.followText "set-order")) }).objs.size := by
          rw [Heap.size_push]; exact Nat.ne_of_lt (Nat.lt_succ_of_lt hlS)
        have hSf : s.heap.objs.size ∉ [(s.heap.push { cls := .type "set", dict := none, data := .set #[] 0 (.fresh 0 0 (!w.params.followText "set-order")) }).objs.size, l] := by
          rw [Heap.size_push]; simp only [List.mem_cons, List.mem_singleton, List.not_mem_nil, or_false, not_or]
          exact ⟨Nat.ne_of_lt (Nat.lt_succ_self _), Nat.ne_of_gt hlS⟩
        have hval : ∀ (i : Nat) (v : Value), items[i]? = some v → ∃ k t, xs[i]? = some k ∧ v = .int k t := fun i v hv => ints_at' hit i v (by rw [Array.getElem?_toList]; exact hv)
        refine set_update_ints ((Walks.list hh3 _ l hneI items).toS) s.heap.objs.size
          hSf xs hisz hb hval (items.size - 0) 0 _ (by omega) (Nat.zero_le _)
          ⟨⟨_, Heap.get?_push_size _ rfl, rfl, rfl⟩, (hl1.push _)⟩ ?hS0 ?hR
        case hS0 =>
          have hget : ((s.heap.push { cls := .type "set", dict := none, data := .set #[] 0 (.fresh 0 0 (!w.params.followText "set-order")) }).push { cls := .type "list_iterator", data := .fields #[.ref l, .int 0 0] }).get? s.heap.objs.size
              = some { cls := .type "set", dict := none, data := .set #[] 0 (.fresh 0 0 (!w.params.followText "set-order")) } := Heap.get?_push_of_some _ hS
          exact ⟨0, Nat.le_refl 0, setR_new_at hget⟩
        case hR =>
          intro s' c' hm hc' hS'
          obtain ⟨h', g2, d', tk', os'⟩ := s'
          have eg : g2 = s.gens := hm.gens
          have ed : d' = s.drawn := hm.drawn
          have eo : os' = s.os := hm.os
          subst eg; subst ed; subst eo
          show wpAny _ _ _ _ _ _
          refine wpAny_pure ?_
          show wpAny _ _ (ret Value.none) _ _ _
          rw [hisz] at hc'
          refine wpAny_pure ⟨rfl, h', tk', c', rfl, hS', hc', fun b o e => ?_⟩
          have hb0 : b < s.heap.objs.size := Heap.lt_size e
          have hb1 : b ≠ s.heap.objs.size := Nat.ne_of_lt hb0
          have hb2 : b ≠ (s.heap.push { cls := .type "set", dict := none, data := .set #[] 0 (.fresh 0 0 (!w.params.followText "set-order")) }).objs.size := by
            rw [Heap.size_push]; exact Nat.ne_of_lt (Nat.lt_succ_of_lt hb0)
          exact hm.heap b o (by simp only [List.mem_cons, List.mem_singleton, List.not_mem_nil, or_false, not_or]; exact ⟨hb1, hb2⟩) (Heap.get?_push_of_some _ (Heap.get?_push_of_some _ e))
      · cases r₂ with
        | error e => exact hr₂
        | ok fl₂ =>
          cases fl₂ with
          | ret r =>
            obtain ⟨rfl, h', tk, c', rfl, hS', hc', hk'⟩ := hr₂
            repeat (any_goals (first | assumption | wp_step))
            exact h _ _ _ hS' hc' hk'
          | _ => exact hr₂.elim
    | _ => exact hr.elim
end
def rSortSetI (K : Frag) : List V → Hp → VK → Prop := fun vs H Q => ∃ (a : Addr) (xs : List Int), vs = [.ref a] ∧ SqL K H a (xs.map V.int) ∧ xs.length < 64 ∧
  ∀ (ks : List Int) (p : Addr), ks.Pairwise (· < ·) → (∀ k, k ∈ ks ↔ k ∈ xs) → H p = none → Q (.ref p) (upd H p (.lst (ks.map V.int)))
def rLenSetI (K : Frag) : List V → Hp → VK → Prop := fun vs H Q => ∃ (a : Addr) (xs : List Int), vs = [.ref a] ∧ SqL K H a (xs.map V.int) ∧ xs.length + 1 < scanBound ∧
  ∀ (ks : List Int), ks.Nodup → (∀ k, k ∈ ks ↔ k ∈ xs) → Q (.int ks.length) H
section
variable {X : Cx} {a : Expr} {ta : TE} {p p2 q pos : Pos}
theorem pe_sortSetI (hc : X.calm = true) (hg : Gl X "sorted") (hm : X.mg "sorted" = none) (hv : bootBuiltins "sorted" = some (.builtin "sorted")) (hg2 : Gl X "set") (hm2 : X.mg "set" = none) (hv2 : bootBuiltins "set" = some (.type "set")) (ha : PE X a ta)
    (na : starEach [a] X.env = (false, eval a X.env) :: starEach [] X.env := by rfl) : PE X (.Call (.Name "sorted" p) [.Call (.Name "set" p2) [a] [] q] [] pos) (tCB (rSortSetI X.K) (tCons ta tNil)) := by
  refine ⟨fun pins s σ H Q I h => ?_⟩
  refine wpAny_Call_Name_kw (ld_blt I hg hm hv ?_ (by decide) (by decide))
  refine PyProof.Rows.callWith_builtin1 (PyProof.Rows.args_cons ?_ rfl) rfl rfl
  refine wpAny_Call_Name_kw (ld_blt I hg2 hm2 hv2 ?_ (by decide) (by decide))
  refine PyProof.Rows.callWith_type1 (PyProof.Rows.args_cons (thn (ha.run pins s σ H _ I h) fun v s1 ⟨x, H1, I1, r1, q1⟩ => PyProof.Rows.args_nil ?_) na) na rfl
  obtain ⟨l, xs, ex, hq, h1, q1⟩ := q1
  injection ex with ex
  subst ex
  cases r1
  obtain ⟨its, r, pl, hz⟩ := I1.list hq
  refine call_set_ints xs (I1.ok.hd hc) pl.isList (by simpa using r.ints) (by unfold scanBound; omega) fun h' tk c hS hcl hk => ?_
  have I2 : Inv X pins σ H1 { s1 with heap := h', toks := tk } := I1.kept fun b o e => hk b o e
  refine PyProof.Rows.args_nil ?_
  refine sorted_set hS (I2.ok.hd hc) (by omega) fun s' p out c2 ks k g o hp hgp hi hs hm hl => ?_
  have hks : ∀ k, k ∈ ks ↔ k ∈ xs := fun k => by rw [hm k, decide_eq_true_eq]
  have hlen : (ks.map V.int).length ≤ sizeLine := by
    rw [List.length_map, hl, sizeLine_eq]
    omega
  have hn : H1 p = none := I2.hok.fresh hp
  have J : Inv X pins σ (upd H1 p (.lst (ks.map V.int))) { ({ s1 with heap := h', toks := tk } : Shared) with heap := s'.heap, gens := s'.gens, drawn := s'.drawn, toks := s'.toks } :=
    I2.call (ch := []) (Un.laid k hp hn) (I2.hok.laid k hp ⟨hlen, out.toList, c2, vals_of_ints hi, hgp⟩) (by rw [g]; exact I2.bare) (fun _ z => nomatch z)
  have e : s' = { ({ s1 with heap := h', toks := tk } : Shared) with heap := s'.heap, gens := s'.gens, drawn := s'.drawn, toks := s'.toks } := by
    cases s'
    cases s1
    cases o
    rfl
  rw [e]
  exact ⟨.ref p, _, J, rfl, q1 ks p hs hks hn⟩
theorem pe_lenSetI (hc : X.calm = true) (hg : Gl X "len") (hm : X.mg "len" = none) (hv : bootBuiltins "len" = some (.builtin "len")) (hg2 : Gl X "set") (hm2 : X.mg "set" = none) (hv2 : bootBuiltins "set" = some (.type "set")) (ha : PE X a ta)
    (na : starEach [a] X.env = (false, eval a X.env) :: starEach [] X.env := by rfl) : PE X (.Call (.Name "len" p) [.Call (.Name "set" p2) [a] [] q] [] pos) (tCB (rLenSetI X.K) (tCons ta tNil)) := by
  refine ⟨fun pins s σ H Q I h => ?_⟩
  refine wpAny_Call_Name_kw (ld_blt I hg hm hv ?_ (by decide) (by decide))
  refine PyProof.Rows.callWith_builtin1 (PyProof.Rows.args_cons ?_ rfl) rfl rfl
  refine wpAny_Call_Name_kw (ld_blt I hg2 hm2 hv2 ?_ (by decide) (by decide))
  refine PyProof.Rows.callWith_type1 (PyProof.Rows.args_cons (thn (ha.run pins s σ H _ I h) fun v s1 ⟨x, H1, I1, r1, q1⟩ => PyProof.Rows.args_nil ?_) na) na rfl
  obtain ⟨l, xs, ex, hq, h1, q1⟩ := q1
  injection ex with ex
  subst ex
  cases r1
  obtain ⟨its, r, pl, hz⟩ := I1.list hq
  refine call_set_ints xs (I1.ok.hd hc) pl.isList (by simpa using r.ints) h1 fun h' tk c hS hcl hk => ?_
  have I2 : Inv X pins σ H1 { s1 with heap := h', toks := tk } := I1.kept fun b o e => hk b o e
  refine PyProof.Rows.args_nil ?_
  obtain ⟨o, es, ep, t, ho, hex, hd, g, nd, hm, hb, hf, hn, hr, hl⟩ := hS
  have e : (es.toList.map L2.keyOf).length = es.size := by rw [List.length_map, Array.length_toList]
  have q2 := q1 _ nd fun k => by rw [← hm k, decide_eq_true_eq]
  rw [e] at q2
  refine call_len_set ho hex hd hf (by unfold scanBound at hb; omega) ⟨.int es.size, H1, I2.tok _, ⟨_, rfl⟩, q2⟩
end
section
variable {K : Frag}
@[irreducible] def R.sortSetI (xs : List Int) : R (List Int) := if xs.length < 64 then .ok (Fw.sortI (uniq xs)) else .no
@[irreducible] def R.lenSetI (xs : List Int) : R Int := if xs.length < 4000 then .ok ((uniq xs).length : Nat) else .no
theorem uniqI_len : ∀ l : List Int, (uniq l).length ≤ l.length
  | [] => Nat.le_refl _
  | a :: l => by
    have := uniqI_len l
    unfold uniq
    split <;> simp <;> omega
theorem o_sortSetI : OpA (rSortSetI K) (fun z : List Int × Unit => aCons (kSh K z.1) aNil) (fun z => R.sortSetI z.1) (fun x : List Int => kNw K x) := fun z => by
  unfold R.sortSetI
  dsimp only
  by_cases h : z.1.length < 64
  · rw [if_pos h]
    intro W0 W vs ⟨v, r, e, ⟨p, ls, ev, hs, al, l⟩, en⟩ Q q
    subst e en ev
    have e1 := al_ints al
    subst e1
    refine ⟨p, z.1, rfl, hs, h, fun ks a lt mm hn => ?_⟩
    have nd : ks.Nodup := lt.imp fun h => by omega
    have pm := nodup_perm nd (uniq_nodup z.1) fun k => (mm k).trans (uniq_mem k z.1).symm
    have e2 := sortI_of pm (lt.imp fun h => by omega)
    subst e2
    refine q _ (W.no a _ hn) (Le.no hn) (nw_list (Le.refl _) hn al_of_ints ?_)
    rw [pm.length_eq]
    exact Nat.le_trans (uniqI_len _) l
  · rw [if_neg h]; trivial
theorem o_lenSetI : OpA (rLenSetI K) (fun z : List Int × Unit => aCons (kSh K z.1) aNil) (fun z => R.lenSetI z.1) (fun x : Int => kFr K x) := fun z => by
  unfold R.lenSetI
  dsimp only
  by_cases h : z.1.length < 4000
  · rw [if_pos h]
    intro W0 W vs ⟨v, r, e, ⟨p, ls, ev, hs, al, l⟩, en⟩ Q q
    subst e en ev
    have e1 := al_ints al
    subst e1
    refine ⟨p, z.1, rfl, hs, by unfold scanBound; omega, fun ks nd mm => ?_⟩
    have pm := nodup_perm nd (uniq_nodup z.1) fun k => (mm k).trans (uniq_mem k z.1).symm
    refine q _ W (Le.refl _) ?_
    show V.int _ = V.int _
    rw [pm.length_eq]
  · rw [if_neg h]; trivial
end
end Fw

namespace Fw
open PySem L2
/-! ### great ints shifted -/
section
variable {K : Frag}
instance : DecidableRel CShl := fun i j => inferInstanceAs (Decidable (_ ∧ _))
@[irreducible] def R.shlW (x y : Int) : R Int := if CShl x y then .ok (x * 2 ^ y.toNat) else .no
theorem o_shlW : Op2 (rI CShl fun i j => .int (i * 2 ^ j.toNat)) (fun x : Int => kFr K x) (fun x : Int => kFr K x) R.shlW (fun z : Int => kFr K z) := o_of fun x y => by unfold R.shlW; rfl
end
end Fw

namespace Fw
open PySem L2
/-! ### a pair whose parts are one's own -/
section
variable {α β : Type}
def ownP [Ob α] [Ob β] (K : Frag) (x : α × β) (v : V) (f : List Addr) (W : Wd) : Prop := ∃ p va vb fa fb, v = .ref p ∧ W.G p = some (.tup [va, vb]) ∧ f = fa ++ fb ∧ Ob.own K x.1 va fa W ∧ Ob.own K x.2 vb fb W ∧ ∀ a ∈ fa, a ∉ fb
theorem ownP_keep [Ob α] [Ob β] {K : Frag} {x : α × β} {v : V} {f : List Addr} {W W' : Wd} : ownP K x v f W → Inc W.G W'.G → (∀ a ∈ f, W'.G a = none) → (∀ a ∈ f, W'.H a = W.H a) → ownP K x v f W' := fun ⟨p, va, vb, fa, fb, e, hp, ef, o1, o2, d⟩ s n k => by
  subst ef
  exact ⟨p, va, vb, fa, fb, e, s _ _ hp, rfl, Ob.keep o1 s (fun a ha => n a (List.mem_append.mpr (.inl ha))) (fun a ha => k a (List.mem_append.mpr (.inl ha))), Ob.keep o2 s (fun a ha => n a (List.mem_append.mpr (.inr ha))) (fun a ha => k a (List.mem_append.mpr (.inr ha))), d⟩
theorem ownP_foot [Ob α] [Ob β] {K : Frag} {x : α × β} {v : V} {f : List Addr} {W : Wd} : ownP K x v f W → ∀ a ∈ f, W.G a = none ∧ W.H a ≠ none := fun ⟨p, va, vb, fa, fb, e, hp, ef, o1, o2, d⟩ a ha => by
  subst ef
  rcases List.mem_append.mp ha with z | z
  · exact Ob.foot o1 a z
  · exact Ob.foot o2 a z
theorem fz_more [Rp α] {K : Frag} {x : α} {v : V} {W : Wd} {f g : List Addr} (h : Rp.rep K x v (W.fz f).G) (hs : ∀ a ∈ f, a ∈ g) : Rp.rep K x v (W.fz g).G := Rp.mono (fun a o e => by
  by_cases q : a ∈ f
  · rw [Wd.fz_in q] at e; rw [Wd.fz_in (hs a q)]; exact e
  · rw [Wd.fz_ni q] at e
    by_cases q2 : a ∈ g
    · rw [Wd.fz_in q2]; exact W.sub _ _ e
    · rw [Wd.fz_ni q2]; exact e) h
instance [Fz α] [Fz β] : Fz (α × β) where
  own := ownP
  keep := ownP_keep
  foot := ownP_foot
  fz := fun {K x v f W} ⟨p, va, vb, fa, fb, e, hp, ef, o1, o2, d⟩ => by
    subst ef
    exact ⟨p, va, vb, e, .inl (.inl (Wd.fz_sub _ _ hp)), fz_more (Fz.fz o1) fun a ha => List.mem_append.mpr (.inl ha), fz_more (Fz.fz o2) fun a ha => List.mem_append.mpr (.inr ha)⟩
theorem ownP_up [Ob α] [Ob β] {K : Frag} {x : α × β} {v : V} {f : List Addr} {W W' : Wd} (o : ownP K x v f W) (e : Le W W') : ownP K x v f W' := ownP_keep o e.g (fun a ha => e.o a (ownP_foot o a ha).1 (ownP_foot o a ha).2) fun a ha => by
  cases q : W.H a with
  | none => exact absurd q (ownP_foot o a ha).2
  | some u => exact e.h a u q
/-- an own pair that may be read -/
def kPr [Ob α] [Ob β] (K : Frag) (x : α × β) : Kd := ⟨fun _ v W => ∃ f, ownP K x v f W, fun ⟨f, o⟩ e => ⟨f, ownP_up o e⟩, fun _ h => h⟩
section
variable {c : Cn} {W0 : Wd} {As : List Sl} {K : Frag}
theorem e_varP [Fz α] [Fz β] {x : α × β} {pin : Option V} (i : Nat) (h : As[i]? = some (.ow pin x) := by rfl) : Exp c W0 (tVar i) As (kPr c.K x) := fun σ W a W1 e Q q => by
  obtain ⟨v, f, ev, o, _⟩ := (a.mono e).varO h
  exact ⟨v, ev, q v W1 (Le.refl _) ⟨f, o⟩⟩
theorem ownL_sh [Rp α] {x : List α} {v : V} {f : List Addr} {W A : Wd} (h : Ob.own K x v f W) : (kSh K x).p A v W := by
  obtain ⟨p, vs, e, ef, g, hh, al, l⟩ := h
  exact ⟨p, vs, e, .inl (.inl hh), al, l⟩
theorem pP_0 [Rp α] [Ob β] : AtC (rIxT K) (fun x : List α × β => kPr K x) 0 (fun x => x.1) (fun x : List α => kSh K x) := fun x W0 W v ⟨f, p, va, vb, fa, fb, e, hp, ef, o1, o2, d⟩ Q q =>
  ⟨p, [va, vb], 0, va, e, rfl, W.sub.sqt (.inl (.inl hp)), rfl, q va W (Le.refl _) (ownL_sh o1)⟩
theorem pP_1 [Ob α] [Rp β] : AtC (rIxT K) (fun x : α × List β => kPr K x) 1 (fun x => x.2) (fun x : List β => kSh K x) := fun x W0 W v ⟨f, p, va, vb, fa, fb, e, hp, ef, o1, o2, d⟩ Q q =>
  ⟨p, [va, vb], 1, vb, e, rfl, W.sub.sqt (.inl (.inl hp)), rfl, q vb W (Le.refl _) (ownL_sh o2)⟩
end
section
variable {J S ρ : Type} {c : Cn} {X : WX} {kr : ρ → Kd} {Ls : List Sl} {Js : J → List Sl} {B : Bd} {As : List Sl} {Bs : S → List Sl} {W0 : Wd}
/-- return (x, e): x one's own, e new -/
theorem d_retP [Fz α] [Fz β] {kr : (α × β) → Kd} {pin : Option V} {te : TE} {u : TS} {m : R β} {x : α} (i : Nat) (hi : As[i]? = some (.ow pin x)) (hr : kr = fun z : α × β => kNw c.K z) (lx : Lx Ls As) (h : Exr c B.W0 X te As m fun y => kNw c.K y) :
    Den c X kr Ls Js B (tSeq (tRet (tTup (tCons (tVar i) (tCons te tNil)))) u) As (m.to fun y => .rt (x, y)) Bs := fun D σ W a f => by
  subst hr
  obtain ⟨v, fp, hv, o, n, _⟩ := a.chg (β := α) (y := x) hi
  have h' := h σ W a
  refine ⟨v, hv, ?_⟩
  cases m with
  | no => exact False.elim f
  | ex e => exact h' W (Le.refl _) _ fun cls d W2 e2 z => f cls d σ W2 (lx_at lx (a.mono e2)) z
  | ok y =>
    refine h' W (Le.refl _) _ fun w W2 e2 ⟨f2, o2, n2⟩ => ⟨by show (2 : Nat) ≤ sizeLine; rw [sizeLine_eq]; decide, fun p hp => ?_⟩
    have l3 : Le W2 (W2.nf p (.tup [v, w])) := Le.nf hp
    refine f (.ref p) (W2.nf p (.tup [v, w])) (a.le.trans (e2.trans l3)) ?_
    refine ⟨fp ++ f2, ⟨p, v, w, fp, f2, rfl, upd_same, rfl, own_up o (e2.trans l3), own_up o2 l3, fun b hb hb2 => (Ob.foot o b hb).2 (n2 b hb2)⟩, fun b hb => ?_⟩
    rcases List.mem_append.mp hb with z | z
    · exact B.le.h.nope (n b z)
    · exact (B.le.trans a.le).h.nope (n2 b z)
/-- x[0].clear(), x[1].clear() -/
theorem d_clr0 [Rp α] [Fz α] [Fz β] {pin : Option V} {u : TS} {x : List α × β} {k : (List α × β) → Out S J ρ} {ti : TE} (i : Nat) (hi : As[i]? = some (.ow pin x)) (hti : Exp c B.W0 ti As (kFr c.K (0 : Int))) (hk : ∀ y : List α × β, Den c X kr Ls Js B u (As.set i (.ow pin y)) (k y) Bs) :
    Den c X kr Ls Js B (tSeq (tDrop (tBM0 c.K "list" rClear (tOp (rIxT c.K) (tVar i) ti))) u) As (k ([], x.2)) Bs := fun D σ W a f => by
  obtain ⟨v, fp, hv, o, n0, chg⟩ := a.chg (β := List α × β) (y := ([], x.2)) hi
  obtain ⟨p, va, vb, fa, fb, e, hp, ef, o1, o2, d⟩ := o
  subst e ef
  refine ⟨_, hv, hti σ W a W (Le.refl _) _ fun w W2 e2 hw => ?_⟩
  have hw' : w = .int 0 := hw
  subst hw'
  have hp2 := e2.g _ _ hp
  obtain ⟨q, vs, e3, ef3, g, hh, al, l⟩ := own_up o1 e2
  subst e3 ef3
  refine ⟨p, [.ref q, vb], 0, .ref q, rfl, rfl, W2.sub.sqt (.inl (.inl hp2)), rfl, .inl ⟨rfl, vs, .inl (.inl hh)⟩, q, vs, rfl, rfl, hh, ?_⟩
  have o2' := own_up o2 e2
  have nq : q ∉ fb := d q (List.mem_singleton.mpr rfl)
  have a2 := a.mono e2
  obtain ⟨v', fp', hv', o', n0', chg'⟩ := a2.chg (β := List α × β) (y := ([], x.2)) hi
  rw [hv] at hv'
  cases hv'
  obtain ⟨p', va', vb', fa', fb', e', hp', ef', o1', o2'', d'⟩ := o'
  cases e'
  rw [hp2] at hp'
  cases hp'
  obtain ⟨q', vs', e4, ef4, g', hh', al', l'⟩ := o1'
  cases e4
  subst ef4 ef'
  have nq' : q ∉ fb' := d' q (List.mem_singleton.mpr rfl)
  refine hk ([], x.2) D σ (W2.mt q (.lst []) g) (chg' (W2.mt q (.lst []) g) ([q] ++ fb') (Inc.refl _) (fun b _ hb _ => hb) (fun b hb n => upd_ne fun z => hb (by rw [z]; simp)) ⟨p, _, vb, [q], fb', rfl, hp2, rfl, ⟨q, [], rfl, rfl, g, upd_same, Al.nil, Nat.zero_le _⟩, Ob.keep o2'' (Inc.refl _) (fun b hb => (Ob.foot o2'' b hb).1) (fun b hb => upd_ne fun z => nq' (z ▸ hb)), d'⟩ (fun b hb => .inl hb)) f
theorem d_clr1 [Fz α] [Rp β] {pin : Option V} {u : TS} {x : α × List β} {k : (α × List β) → Out S J ρ} {ti : TE} (i : Nat) (hi : As[i]? = some (.ow pin x)) (hti : Exp c B.W0 ti As (kFr c.K (1 : Int))) (hk : ∀ y : α × List β, Den c X kr Ls Js B u (As.set i (.ow pin y)) (k y) Bs) :
    Den c X kr Ls Js B (tSeq (tDrop (tBM0 c.K "list" rClear (tOp (rIxT c.K) (tVar i) ti))) u) As (k (x.1, [])) Bs := fun D σ W a f => by
  obtain ⟨v, fp, hv, o, n0, chg⟩ := a.chg (β := α × List β) (y := (x.1, [])) hi
  obtain ⟨p, va, vb, fa, fb, e, hp, ef, o1, o2, d⟩ := o
  subst e ef
  refine ⟨_, hv, hti σ W a W (Le.refl _) _ fun w W2 e2 hw => ?_⟩
  have hw' : w = .int 1 := hw
  subst hw'
  have hp2 := e2.g _ _ hp
  obtain ⟨q, vs, e3, ef3, g, hh, al, l⟩ := own_up o2 e2
  subst e3 ef3
  refine ⟨p, [va, .ref q], 1, .ref q, rfl, rfl, W2.sub.sqt (.inl (.inl hp2)), rfl, .inl ⟨rfl, vs, .inl (.inl hh)⟩, q, vs, rfl, rfl, hh, ?_⟩
  have a2 := a.mono e2
  obtain ⟨v', fp', hv', o', n0', chg'⟩ := a2.chg (β := α × List β) (y := (x.1, [])) hi
  rw [hv] at hv'
  cases hv'
  obtain ⟨p', va', vb', fa', fb', e', hp', ef', o1', o2'', d'⟩ := o'
  cases e'
  rw [hp2] at hp'
  cases hp'
  obtain ⟨q', vs', e4, ef4, g', hh', al', l'⟩ := o2''
  cases e4
  subst ef4 ef'
  have nq' : q ∉ fa' := fun z => d' q z (List.mem_singleton.mpr rfl)
  refine hk (x.1, []) D σ (W2.mt q (.lst []) g) (chg' (W2.mt q (.lst []) g) (fa' ++ [q]) (Inc.refl _) (fun b _ hb _ => hb) (fun b hb n => upd_ne fun z => hb (by rw [z]; simp)) ⟨p, va, _, fa', [q], rfl, hp2, rfl, Ob.keep o1' (Inc.refl _) (fun b hb => (Ob.foot o1' b hb).1) (fun b hb => upd_ne fun z => nq' (z ▸ hb)), ⟨q, [], rfl, rfl, g, upd_same, Al.nil, Nat.zero_le _⟩, d'⟩ (fun b hb => .inl hb)) f
end
end
end Fw

namespace Fw
open PySem L2
/-! ### xs.insert(i, e) -/
def rIns : V → List V → Hp → VK → Prop := fun x vs H Q => ∃ (l : Addr) (xs : List V) (i : Int) (y : V), x = .ref l ∧ vs = [.int i, y] ∧ H l = some (.lst xs) ∧ xs.length < sizeLine ∧ 0 ≤ i ∧ i < 2 ^ 63 ∧
    Q .non (upd H l (.lst (xs.take i.toNat ++ [y] ++ xs.drop i.toNat)))
@[irreducible] def R.ins {α : Type} (xs : List α) (i : Int) (y : α) : R (List α) := if xs.length < sizeLine ∧ 0 ≤ i ∧ i < 2 ^ 63 then .ok (xs.take i.toNat ++ [y] ++ xs.drop i.toNat) else .no
section
variable {J S ρ α : Type} {c : Cn} {X : WX} {kr : ρ → Kd} {Ls : List Sl} {Js : J → List Sl} {B : Bd} {As : List Sl} {Bs : S → List Sl}
theorem d_ins [Rp α] {pin : Option V} {te ti : TE} {u : TS} {xs : List α} {m : R α} {n : R Int} {k : List α → Out S J ρ} (i : Nat) (hi : As[i]? = some (.ow pin xs)) (lx : Lx Ls As) (hn : Exr c B.W0 X ti As n fun x => kFr c.K x) (h : Exr c B.W0 X te As m fun x => kFr c.K x) (hk : ∀ ys : List α, Den c X kr Ls Js B u (As.set i (.ow pin ys)) (k ys) Bs) :
    Den c X kr Ls Js B (tSeq (tDrop (tBM c.K "list" rIns (tVar i) (tCons ti (tCons te tNil)))) u) As (n.to fun j => m.to fun y => (R.ins xs j y).to k) Bs := fun D σ W a f => by
  have h' := h σ W a
  have hn' := hn σ W a
  obtain ⟨w, fp, hw, rw_, n0, chg⟩ := a.chg (β := List α) (y := xs) hi
  obtain ⟨p, vs, ew, ef, g, hh, al, l⟩ := rw_
  subst ew ef
  refine ⟨_, hw, .inl ⟨rfl, vs, .inl (.inl hh)⟩, ?_⟩
  cases n with
  | no => exact False.elim f
  | ex e => exact hn' W (Le.refl _) _ fun cls d W2 e2 z => f cls d σ W2 (lx_at lx (a.mono e2)) z
  | ok j =>
    refine hn' W (Le.refl _) _ fun jv W1 e1 rj => ?_
    have ej : jv = .int j := rj
    subst ej
    cases m with
    | no => exact False.elim f
    | ex e => exact h' W1 e1 _ fun cls d W2 e2 z => f cls d σ W2 (lx_at lx (a.mono (e1.trans e2))) z
    | ok y =>
      refine h' W1 e1 _ fun v W2 e2 r => ?_
      have e := e1.trans e2
      have f' : Fin c X kr Ls Js B Bs D (R.to (if xs.length < sizeLine ∧ 0 ≤ j ∧ j < 2 ^ 63 then R.ok (xs.take j.toNat ++ [y] ++ xs.drop j.toNat) else R.no) k) := by
        have f2 : Fin c X kr Ls Js B Bs D ((R.ins xs j y).to k) := f
        unfold R.ins at f2
        exact f2
      have g2 : W2.G p = none := e.o p g (by rw [hh]; exact fun z => nomatch z)
      by_cases cz : xs.length < sizeLine ∧ 0 ≤ j ∧ j < 2 ^ 63
      · rw [if_pos cz] at f'
        refine ⟨p, vs, j, v, rfl, rfl, e.h _ _ hh, al.1 ▸ cz.1, cz.2.1, cz.2.2, ?_⟩
        obtain ⟨w', fp', hw', rw', n0', chg'⟩ := (a.mono e).chg (β := List α) (y := xs.take j.toNat ++ [y] ++ xs.drop j.toNat) hi
        rw [hw] at hw'
        cases hw'
        have al2 := al_mono al e.g
        have a3 := chg' (W2.mt p (.lst (vs.take j.toNat ++ [v] ++ vs.drop j.toNat)) g2) [p] (Inc.refl _) (fun b _ hb _ => hb) (fun b hb n => mut_keep g2 b (fun z => hb (by
          obtain ⟨p', vs', ep, ef', _⟩ := rw'
          cases ep
          rw [ef']; exact z)) n) ⟨p, _, rfl, rfl, g2, upd_same, ((al2.take j.toNat).app (Al.one r)).app (al2.drop j.toNat), by
            simp only [List.length_append, List.length_take, List.length_drop, List.length_singleton]
            omega⟩ (fun b hb => .inl (by
          obtain ⟨p', vs', ep, ef', _⟩ := rw'
          cases ep
          rw [ef']; exact hb))
        exact hk _ D _ _ a3 f'
      · rw [if_neg cz] at f'
        exact False.elim f'
end
end Fw

namespace Fw
open PySem L2
/-! ### a pair of a text and what is one's own -/
instance : Fz Str where
  own := fun _ x v f _ => v = .str x ∧ SOk x ∧ f = []
  keep := fun h _ _ _ => h
  foot := fun ⟨_, _, e⟩ a ha => by subst e; cases ha
  fz := fun ⟨e, s, _⟩ => ⟨e, s⟩
section
variable {α β : Type}
variable {J S ρ : Type} {c : Cn} {X : WX} {kr : ρ → Kd} {Ls : List Sl} {Js : J → List Sl} {B : Bd} {As : List Sl} {Bs : S → List Sl} {W0 : Wd}
/-- return (e, y): e a text, y one's own -/
theorem d_retF [Fz β] {kr : (Str × β) → Kd} {pin : Option V} {te : TE} {u : TS} {m : R Str} {y : β} (i : Nat) (hi : As[i]? = some (.ow pin y)) (hr : kr = fun z : Str × β => kNw c.K z) (lx : Lx Ls As) (h : Exr c B.W0 X te As m fun x => kFr c.K x) :
    Den c X kr Ls Js B (tSeq (tRet (tTup (tCons te (tCons (tVar i) tNil)))) u) As (m.to fun x => .rt (x, y)) Bs := fun D σ W a f => by
  subst hr
  obtain ⟨v, fp, hv, o, n, _⟩ := a.chg (β := β) (y := y) hi
  have h' := h σ W a
  cases m with
  | no => exact False.elim f
  | ex e => exact h' W (Le.refl _) _ fun cls d W2 e2 z => f cls d σ W2 (lx_at lx (a.mono e2)) z
  | ok x =>
    refine h' W (Le.refl _) _ fun w W2 e2 r => ⟨v, hv, by show (2 : Nat) ≤ sizeLine; rw [sizeLine_eq]; decide, fun p hp => ?_⟩
    have l3 : Le W2 (W2.nf p (.tup [w, v])) := Le.nf hp
    refine f (.ref p) (W2.nf p (.tup [w, v])) (a.le.trans (e2.trans l3)) ?_
    have r' : w = .str x ∧ SOk x := r
    exact ⟨fp, ⟨p, w, v, [], fp, rfl, upd_same, rfl, ⟨r'.1, r'.2, rfl⟩, own_up o (e2.trans l3), fun b hb => by cases hb⟩, fun b hb => B.le.h.nope (n b hb)⟩
/-- x[1].append(e) -/
theorem d_app1 [Fz α] [Rp β] {pin : Option V} {te ti : TE} {u : TS} {x : α × List β} {m : R β} {k : (α × List β) → Out S J ρ} (i : Nat) (hi : As[i]? = some (.ow pin x)) (lx : Lx Ls As) (hti : Exp c B.W0 ti As (kFr c.K (1 : Int))) (h : Exr c B.W0 X te As m fun y => kFr c.K y) (hk : ∀ y : α × List β, Den c X kr Ls Js B u (As.set i (.ow pin y)) (k y) Bs) :
    Den c X kr Ls Js B (tSeq (tDrop (tBM c.K "list" rAppend (tOp (rIxT c.K) (tVar i) ti) (tCons te tNil))) u) As (m.to fun y => (R.app x.2 y).to fun ys => k (x.1, ys)) Bs := fun D σ W a f => by
  obtain ⟨v, fp, hv, o, n0, chg⟩ := a.chg (β := α × List β) (y := x) hi
  obtain ⟨p, va, vb, fa, fb, e, hp, ef, o1, o2, d⟩ := o
  subst e ef
  refine ⟨_, hv, hti σ W a W (Le.refl _) _ fun w W2 e2 hw => ?_⟩
  have hw' : w = .int 1 := hw
  subst hw'
  have hp2 := e2.g _ _ hp
  obtain ⟨q, vs, e3, ef3, g, hh, al, l⟩ := own_up o2 e2
  subst e3 ef3
  refine ⟨p, [va, .ref q], 1, .ref q, rfl, rfl, W2.sub.sqt (.inl (.inl hp2)), rfl, .inl ⟨rfl, vs, .inl (.inl hh)⟩, ?_⟩
  have a2 := a.mono e2
  have h' := h σ W2 a2
  cases m with
  | no => exact False.elim f
  | ex e => exact h' W2 (Le.refl _) _ fun cls d W3 e3 z => f cls d σ W3 (lx_at lx (a2.mono e3)) z
  | ok y =>
    refine h' W2 (Le.refl _) _ fun v3 W3 e3 rv => ?_
    have f' : Fin c X kr Ls Js B Bs D (R.to (if x.2.length < sizeLine then R.ok (x.2 ++ [y]) else R.no) fun ys => k (x.1, ys)) := by
      have f2 : Fin c X kr Ls Js B Bs D ((R.app x.2 y).to fun ys => k (x.1, ys)) := f
      unfold R.app at f2
      exact f2
    have g3 : W3.G q = none := e3.o q g (by rw [hh]; exact fun z => nomatch z)
    by_cases cz : x.2.length < sizeLine
    · rw [if_pos cz] at f'
      refine ⟨q, vs, v3, rfl, rfl, e3.h _ _ hh, al.1 ▸ cz, ?_⟩
      obtain ⟨v', fp', hv', o', n0', chg'⟩ := (a2.mono e3).chg (β := α × List β) (y := (x.1, x.2 ++ [y])) hi
      rw [hv] at hv'
      cases hv'
      obtain ⟨p', va', vb', fa', fb', e', hp', ef', o1', o2'', d'⟩ := o'
      cases e'
      rw [e3.g _ _ hp2] at hp'
      cases hp'
      obtain ⟨q', vs', e4, ef4, g', hh', al', l'⟩ := o2''
      cases e4
      subst ef4 ef'
      have nq' : q ∉ fa' := fun z => d' q z (List.mem_singleton.mpr rfl)
      refine hk (x.1, x.2 ++ [y]) D σ (W3.mt q (.lst (vs ++ [v3])) g3) (chg' (W3.mt q (.lst (vs ++ [v3])) g3) (fa' ++ [q]) (Inc.refl _) (fun b _ hb _ => hb) (fun b hb n => upd_ne fun z => hb (by rw [z]; simp)) ⟨p, va, _, fa', [q], rfl, e3.g _ _ hp2, rfl, Ob.keep o1' (Inc.refl _) (fun b hb => (Ob.foot o1' b hb).1) (fun b hb => upd_ne fun z => nq' (z ▸ hb)), ⟨q, _, rfl, rfl, g3, upd_same, (al_mono al e3.g).app (Al.one rv), by simp; omega⟩, d'⟩ (fun b hb => .inl hb)) f'
    · rw [if_neg cz] at f'
      exact False.elim f'
end
/-! ### isinstance of one of two kinds -/
section
variable {K : Frag} {α β : Type}
def isS (b0 b1 : Bool) : α ⊕ β → Bool
  | .inl _ => b0
  | .inr _ => b1
theorem o_isiS [Rp α] [Rp β] [Pt α] [Pt β] {T : String} {b0 b1 : Bool} (h0 : kitB (Pt.ty α) T = some b0) (h1 : kitB (Pt.ty β) T = some b1) : OpA (rIsi K) (fun z : (α ⊕ β) × Unit => aCons (kBw K z.1) (aCons (kV (.ty T)) aNil)) (fun z => .ok (isS b0 b1 z.1)) (fun b : Bool => kFr K b) := fun ⟨z, _⟩ W0 W vs ⟨v, r, e, hv, w, r2, e2, ew, en⟩ Q q => by
  have ew' : w = .ty T := ew
  subst e e2 en ew'
  cases z with
  | inl x => exact ⟨v, .ty T, .type (Pt.ty α), .type T, b0, rfl, .ty T, Pt.is (α := α) hv, kit_ty h0, q _ W (Le.refl _) rfl⟩
  | inr x => exact ⟨v, .ty T, .type (Pt.ty β), .type T, b1, rfl, .ty T, Pt.is (α := β) hv, kit_ty h1, q _ W (Le.refl _) rfl⟩
end
end Fw

namespace Fw
open PySem L2
section
variable {α β : Type}
variable {c : Cn} {X : WX} {As : List Sl} {W0 : Wd}
/-! ### list(range(n)) -/
theorem r_lstRg {te : TE} {m : R Int} (h : Exr c W0 X te As m fun x => kFr c.K x) : Exr c W0 X (tLstRg (tRg1 te)) As (m.bind fun n => R.rng 0 n) fun x : List Int => kNw c.K x := fun σ W a => by
  have h' := h σ W a
  cases m with
  | no => trivial
  | ex e => exact fun W1 e1 Q q => h' W1 e1 _ q
  | ok n =>
    show SatR (R.rng 0 n) _ _
    unfold R.rng
    split
    · rename_i z
      refine fun W1 e1 Q q => h' W1 e1 _ fun v W2 e2 r => ⟨n, (show v = .int n from r), ⟨by omega, by omega, by omega, by omega, by omega⟩, fun b hb => ?_⟩
      refine q _ (W2.no b _ hb) (e2.trans (Le.no hb)) ⟨[b], ⟨b, _, rfl, rfl, W2.sub.nope hb, upd_same, (al_rg (K := c.K) n).imp fun _ _ r => r, ?_⟩, fun d hd => by rw [List.mem_singleton.mp hd]; exact e2.fr hb⟩
      show (rng 0 n).length ≤ sizeLine
      rw [rng_len, sizeLine_eq]
      omega
    · trivial
/-! ### [a new list for x in xs if t], as a list of one's own lists -/
theorem DRows.up [Rp β] {K : Frag} {W W' : Wd} {xs : List (List β)} {qs : List Addr} (h : DRows K xs qs W) (e : Le W W') : DRows K xs qs W' := h.keep e.g (fun b hb => e.o b (h.foot b hb).1 (h.foot b hb).2) fun b hb => by
  cases z : W.H b with
  | none => exact absurd z (h.foot b hb).2
  | some o => exact e.h _ _ z
theorem r_lcD [Rp β] {wi : TI} {g : TG} {tt : TT} {te : TE} {vs : List Nat} {m : R (List α)} {k : α → Kd} {Ts : α → List Sl} {p : α → R Bool} {f : α → R (List β)} (hi : IxH c W0 X wi As m k) (hg : TgS c g vs (wipeS As vs) k Ts)
    (ht : ∀ x, Txr c W0 xF tt (Ts x) (p x)) (he : ∀ x, Exr c W0 xF te (Ts x) (f x) fun y => kNw c.K y) : Exr c W0 X (tLc wi g tt te vs) As (m.bind fun xs => (R.lc xs p f).bind fun ys => .ok (DL.mk ys)) fun ys : DL β => kNw c.K ys := fun σ W a => by
  have h' := hi σ W a
  cases m with
  | no => trivial
  | ex e => exact fun W1 e1 Q q => h' W1 e1 _ q
  | ok xs =>
    show SatR ((R.lc xs p f).bind fun ys => .ok (DL.mk ys)) _ _
    unfold R.lc
    by_cases hl : xs.length ≤ sizeLine
    · rw [if_pos hl]
      cases hz : lcGo xs p f with
      | no => trivial
      | ex e =>
        exfalso
        revert hz
        clear hi h' ht he hl a
        induction xs with
        | nil => intro z; cases z
        | cons x xs ih =>
          unfold lcGo
          intro z
          split at z
          · split at z
            · split at z <;> cases z
            · cases z
          · exact ih z
          · cases z
      | ok zs =>
        refine fun W1 e1 Q q => h' W1 e1 _ fun Jt W2 e2 gv Dl hD => ?_
        refine ⟨fun i n H => ∃ (Wd' : Wd) (ys ws : List (List β)) (qs : List Addr), H = Wd'.H ∧ Le W2 Wd' ∧ Wd'.G Dl = none ∧ Wd'.H Dl = some (.lst (qs.map V.ref)) ∧ DRows c.K ys qs Wd' ∧ (Dl :: qs).Nodup ∧ (∀ b ∈ qs, W2.H b = none) ∧ ys.length ≤ i ∧ lcGo (xs.drop i) p f = .ok ws ∧ zs = ys ++ ws ∧ n = xs.length - i ∧ i ≤ xs.length,
          ⟨xs.length, W2.no Dl _ hD, [], zs, [], rfl, Le.no hD, W2.sub.nope hD, upd_same, trivial, by simp, by simp, Nat.zero_le _, hz, rfl, rfl, Nat.zero_le _⟩, ?_⟩
        rintro i n H ⟨Wi, ys, ws, qs, rfl, ei, gD, hDl, dr, nd, fr, yl, hw, ez, rfl, il⟩
        obtain ⟨g1, g2⟩ := gv i Wi ei
        by_cases ci : i = xs.length
        · refine .inl ⟨g1 (by omega), ?_⟩
          rw [ci, List.drop_length] at hw
          cases hw
          rw [List.append_nil] at ez
          subst ez
          refine q _ Wi (e2.trans ei) ⟨Dl :: qs, ⟨Dl, qs, rfl, rfl, nd, gD, hDl, dr, by show zs.length ≤ _; omega⟩, fun b hb => ?_⟩
          rcases List.mem_cons.mp hb with z | z
          · rw [z]; exact e2.fr hD
          · exact e2.fr (fr b z)
        · have hx : xs[i]? = some (xs[i]'(by omega)) := List.getElem?_eq_getElem (by omega)
          obtain ⟨go, yld⟩ := g2 _ hx
          rw [drop_cons hx] at hw
          refine .inr ⟨go, fun H' => ∃ (Wd' : Wd) (ys ws : List (List β)) (qs : List Addr), H' = Wd'.H ∧ Le W2 Wd' ∧ Wd'.G Dl = none ∧ Wd'.H Dl = some (.lst (qs.map V.ref)) ∧ DRows c.K ys qs Wd' ∧ (Dl :: qs).Nodup ∧ (∀ b ∈ qs, W2.H b = none) ∧ ys.length ≤ i + 1 ∧ lcGo (xs.drop (i + 1)) p f = .ok ws ∧ zs = ys ++ ws,
            fun H' ⟨W', ys', ws', qs', a1, a2, a3, a4, a5, b1, b2, a6, a7, a8⟩ => ⟨xs.length - (i + 1), by omega, W', ys', ws', qs', a1, a2, a3, a4, a5, b1, b2, a6, a7, a8, rfl, by omega⟩, fun v H' hy => ?_⟩
          obtain ⟨W', eh, le', kp⟩ := yld v H' hy
          subst eh
          have aW : At c.K W0 As σ W' := a.mono ((e1.trans e2).trans (ei.trans le'))
          refine hg W0 _ _ W' Wi v (aW.wipe vs) kp _ fun σ2 sm a2 => ⟨wipe_same sm, ?_⟩
          have d3 : W'.H Dl = some (.lst (qs.map V.ref)) := le'.h _ _ hDl
          have ht' := ht (xs[i]'(by omega)) σ2 W' a2
          have he' := he (xs[i]'(by omega)) σ2
          unfold lcGo at hw
          revert hw ht' he'
          generalize p (xs[i]'(by omega)) = pb
          generalize f (xs[i]'(by omega)) = fb
          intro ht' he' hw
          cases pb with
          | no => cases hw
          | ex e => cases hw
          | ok b =>
            refine ht' W' (Le.refl _) _ fun W3 e3 => ?_
            cases b with
            | false =>
              rw [if_neg (by decide)]
              exact ⟨W3, ys, ws, qs, rfl, (ei.trans le').trans e3, e3.o _ (le'.o _ gD (by rw [hDl]; exact fun z => nomatch z)) (by rw [d3]; exact fun z => nomatch z), e3.h _ _ d3, dr.up (le'.trans e3), nd, fr, by omega, hw, ez⟩
            | true =>
              rw [if_pos rfl]
              cases fb with
              | no => cases hw
              | ex e => cases hw
              | ok y =>
                refine he' W3 (a2.mono e3) W3 (Le.refl _) _ fun u W4 e4 ⟨f4, ⟨r, us, eu, ef4, gr, hr, al, ly⟩, n4⟩ => ?_
                subst eu ef4
                have l4 := le'.trans (e3.trans e4)
                have gD4 : W4.G Dl = none := l4.o _ gD (by rw [hDl]; exact fun z => nomatch z)
                have d4 : W4.H Dl = some (.lst (qs.map V.ref)) := e4.h _ _ (e3.h _ _ d3)
                have r3 : W3.H r = none := n4 r (by simp)
                have rD : r ≠ Dl := fun z => by
                  rw [z, e3.h _ _ d3] at r3
                  cases r3
                have rq : r ∉ qs := fun z => ((dr.up (le'.trans e3)).foot r z).2 r3
                dsimp only at hw
                cases hr2 : lcGo (xs.drop (i + 1)) p f with
                | no => rw [hr2] at hw; cases hw
                | ex e => rw [hr2] at hw; cases hw
                | ok ws' =>
                  rw [hr2] at hw
                  cases hw
                  have dn : Dl ∉ qs := (List.nodup_cons.mp nd).1
                  have dl := dr.len
                  refine ⟨qs.map V.ref, d4, by rw [List.length_map]; omega, W4.mt Dl (.lst (qs.map V.ref ++ [.ref r])) gD4, ys ++ [y], ws', qs ++ [r], rfl, (ei.trans l4).mt gD4 hD, gD4, by
                    show upd W4.H Dl _ Dl = _
                    rw [upd_same, List.map_append]
                    rfl, DRows.snoc (W := W4.mt Dl (.lst (qs.map V.ref ++ [.ref r])) gD4) ⟨gr, us, by show upd W4.H Dl _ r = _; rw [upd_ne rD]; exact hr, al, ly⟩ ((dr.up l4).keep (W' := W4.mt Dl (.lst (qs.map V.ref ++ [.ref r])) gD4) (Inc.refl _) (fun b hb => ((dr.up l4).foot b hb).1) fun b hb => by
                      have : b ≠ Dl := fun z => dn (z ▸ hb)
                      show upd W4.H Dl _ b = _
                      rw [upd_ne this]), ?_, ?_, by simp; omega, rfl, by rw [ez]; simp⟩
                  · rw [← List.cons_append, List.nodup_append]
                    refine ⟨nd, by simp, fun b hb d hd z => ?_⟩
                    rw [List.mem_singleton] at hd
                    subst hd
                    subst z
                    rcases List.mem_cons.mp hb with z | z
                    · exact rD z
                    · exact rq z
                  · intro b hb
                    rcases List.mem_append.mp hb with z | z
                    · exact fr b z
                    · rw [List.mem_singleton.mp z]
                      exact (ei.trans (le'.trans e3)).fr r3
    · rw [if_neg hl]
      trivial
end
section
variable {α β : Type}
variable {J S ρ : Type} {c : Cn} {X : WX} {kr : ρ → Kd} {Ls : List Sl} {Js : J → List Sl} {B : Bd} {As : List Sl} {Bs : S → List Sl} {W0 : Wd}
theorem upd_keep {W : Wd} {q : Addr} {o : HO} {b : Addr} {W2 : Wd} (e : Le W2 W) (hb : b ≠ q) (n : W2.H b ≠ none) : upd W.H q o b = W2.H b := by
  rw [upd_ne hb]
  cases z : W2.H b with
  | none => exact absurd z n
  | some o => exact e.h _ _ z
/-- x[0].append(a new list) -/
theorem d_appD0 [Rp α] [Fz β] {pin : Option V} {te ti : TE} {u : TS} {x : DL α × β} {m : R (List α)} {k : DL α × β → Out S J ρ} (i : Nat) (hi : As[i]? = some (.ow pin x)) (lx : Lx Ls As) (hti : Exp c B.W0 ti As (kFr c.K (0 : Int))) (h : Exr c B.W0 X te As m fun y => kNw c.K y) (hk : ∀ y : DL α × β, Den c X kr Ls Js B u (As.set i (.ow pin y)) (k y) Bs) :
    Den c X kr Ls Js B (tSeq (tDrop (tBM c.K "list" rAppend (tOp (rIxT c.K) (tVar i) ti) (tCons te tNil))) u) As (m.to fun y => (R.appD x.1 y).to fun ys => k (ys, x.2)) Bs := fun D σ W a f => by
  obtain ⟨v, fp, hv, o, n0, chg⟩ := a.chg (β := DL α × β) (y := x) hi
  obtain ⟨p, va, vb, fa, fb, e, hp, ef, o1, o2, d⟩ := o
  subst e ef
  refine ⟨_, hv, hti σ W a W (Le.refl _) _ fun w W2 e2 hw => ?_⟩
  have hw' : w = .int 0 := hw
  subst hw'
  have hp2 := e2.g _ _ hp
  obtain ⟨q, qs, e3, ef3, nd, g, hh, dr, l⟩ := own_up o1 e2
  subst e3 ef3
  refine ⟨p, [.ref q, vb], 0, .ref q, rfl, rfl, W2.sub.sqt (.inl (.inl hp2)), rfl, .inl ⟨rfl, _, .inl (.inl hh)⟩, ?_⟩
  have a2 := a.mono e2
  have h' := h σ W2 a2
  cases m with
  | no => exact False.elim f
  | ex e => exact h' W2 (Le.refl _) _ fun cls d W3 e3 z => f cls d σ W3 (lx_at lx (a2.mono e3)) z
  | ok y =>
    refine h' W2 (Le.refl _) _ fun v3 W3 e3 ⟨fr, ⟨r, vs, ev, efr, gr, hr, al, ly⟩, nr⟩ => ?_
    subst ev efr
    have f' : Fin c X kr Ls Js B Bs D (R.to (if x.1.l.length < sizeLine then R.ok (DL.mk (x.1.l ++ [y])) else R.no) fun ys => k (ys, x.2)) := by
      have f2 : Fin c X kr Ls Js B Bs D ((R.appD x.1 y).to fun ys => k (ys, x.2)) := f
      unfold R.appD at f2
      exact f2
    have hrW : W2.H r = none := nr r (by simp)
    by_cases cz : x.1.l.length < sizeLine
    · rw [if_pos cz] at f'
      obtain ⟨v', fp', hv', o', n0', chg'⟩ := a2.chg (β := DL α × β) (y := (DL.mk (x.1.l ++ [y]), x.2)) hi
      rw [hv] at hv'
      cases hv'
      obtain ⟨p', va', vb', fa', fb', e', hp', ef', o1', o2', d'⟩ := o'
      cases e'
      rw [hp2] at hp'
      cases hp'
      obtain ⟨q', qs', e4, ef4, nd', g', hh', dr', l'⟩ := o1'
      cases e4
      subst ef4 ef'
      have fW : ∀ b ∈ q :: qs', W2.G b = none ∧ W2.H b ≠ none := fun b hb => by
        rcases List.mem_cons.mp hb with z | hb
        · subst z; exact ⟨g', by rw [hh']; exact fun z => nomatch z⟩
        · exact dr'.foot b hb
      have fB := Ob.foot o2'
      have g3 : W3.G q = none := e3.o q g' (fW q (by simp)).2
      have rn : r ∉ q :: qs' := fun z => (fW r z).2 hrW
      have rb : r ∉ fb' := fun z => (fB r z).2 hrW
      have rq : r ≠ q := fun z => rn (by rw [z]; simp)
      have dl' := dr'.len
      refine ⟨q, qs'.map V.ref, .ref r, rfl, rfl, e3.h _ _ hh', by rw [List.length_map]; omega, ?_⟩
      have a3 := chg' (W3.mt q (.lst (qs'.map V.ref ++ [.ref r])) g3) ((q :: (qs' ++ [r])) ++ fb') e3.g (fun b hb gb nb => e3.o b gb nb)
        (fun b hb nb => upd_keep e3 (fun z => hb (by rw [z]; simp)) nb)
        ⟨p, _, vb, q :: (qs' ++ [r]), fb', rfl, e3.g _ _ hp2, rfl, ⟨q, qs' ++ [r], rfl, rfl, by
          rw [← List.cons_append, List.nodup_append]
          exact ⟨nd', by simp, fun b hb d hd z => rn (by rw [List.mem_singleton] at hd; subst hd; subst z; exact hb)⟩, g3, by
          show upd W3.H q _ q = _
          rw [upd_same, List.map_append]
          rfl, DRows.snoc (W := W3.mt q (.lst (qs'.map V.ref ++ [.ref r])) g3) ⟨gr, vs, by show upd W3.H q _ r = _; rw [upd_ne rq]; exact hr, al, ly⟩
            (dr'.keep (W' := W3.mt q (.lst (qs'.map V.ref ++ [.ref r])) g3) e3.g (fun b hb => e3.o b (dr'.foot b hb).1 (dr'.foot b hb).2) fun b hb => upd_keep e3 (fun z => (List.nodup_cons.mp nd').1 (z ▸ hb)) (dr'.foot b hb).2), by simp; omega⟩,
          Ob.keep o2' e3.g (fun b hb => e3.o b (fB b hb).1 (fB b hb).2) (fun b hb => upd_keep e3 (fun z => d' q (by simp) (z ▸ hb)) (fB b hb).2), fun b hb hb2 => by
            rcases List.mem_cons.mp hb with z | hb
            · exact d' b (by rw [z]; simp) hb2
            · rcases List.mem_append.mp hb with z | z
              · exact d' b (List.mem_cons_of_mem _ z) hb2
              · rw [List.mem_singleton.mp z] at hb2; exact rb hb2⟩
        (fun b hb => by
          rcases List.mem_append.mp hb with hb | hb
          · rcases List.mem_cons.mp hb with z | hb
            · exact .inl (by rw [z]; simp)
            · rcases List.mem_append.mp hb with z | z
              · exact .inl (List.mem_append_left _ (List.mem_cons_of_mem _ z))
              · rw [List.mem_singleton.mp z]; exact .inr hrW
          · exact .inl (List.mem_append_right _ hb))
      exact hk _ D _ _ a3 f'
    · rw [if_neg cz] at f'
      exact False.elim f'
end
end Fw

namespace Fw
open PySem L2
section
variable {α β : Type}
@[irreducible] def R.appAll (x : DL α) (y : α) : R (DL α) := if x.l.all (fun r => decide (r.length < sizeLine)) then .ok ⟨x.l.map (· ++ [y])⟩ else .no
theorem put_at (y : α) : ∀ (xs : List (List α)) (n : Nat) (r : List α), xs[n]? = some r → ((xs.take n).map (· ++ [y]) ++ xs.drop n).set n (r ++ [y]) = (xs.take (n + 1)).map (· ++ [y]) ++ xs.drop (n + 1)
  | [], n, r, h => by simp at h
  | x :: xs, 0, r, h => by
    have : x = r := by simpa using h
    subst this
    rfl
  | x :: xs, n + 1, r, h => by
    have ih := put_at y xs n r (by simpa using h)
    show (x ++ [y]) :: (((xs.take n).map (· ++ [y]) ++ xs.drop n).set n (r ++ [y])) = _
    rw [ih]
    rfl
theorem Wk.rfl' : ∀ As : List Sl, Wk As As
  | [] => .nil
  | A :: As => .same (Wk.rfl' As)
theorem Wk.setU : ∀ (As : List Sl) (j : Nat), Wk As (As.set j .un)
  | [], _ => .nil
  | A :: As, 0 => .drop (Wk.rfl' As)
  | A :: As, j + 1 => .same (Wk.setU As j)
variable {J S ρ : Type} {c : Cn} {X : WX} {kr : ρ → Kd} {Ls : List Sl} {Js : J → List Sl} {B : Bd} {As : List Sl} {Bs : S → List Sl} {W0 : Wd}
/-- for r in x[0]: r.append(y) -/
theorem d_forD0 [Rp α] [Fz β] {pin : Option V} {te ti : TE} {u : TS} {x : DL α × β} {y : α} {k : DL α × β → Out S J ρ} (i j : Nat) (hi : As[i]? = some (.ow pin x)) (hj : ∃ A, As[j]? = some A) (ij : i ≠ j) (hti : Exp c B.W0 ti As (kFr c.K (0 : Int))) (hte : ∀ (As' : List Sl) W0', Exp c W0' te As' (kFr c.K y)) (hk : ∀ z : DL α × β, Den c X kr Ls Js B u ((As.set i (.ow pin z)).set j .un) (k z) Bs) :
    Den c X kr Ls Js B (tSeq (tFor (iList c.K (tOp (rIxT c.K) (tVar i) ti)) (gName j) (tSeq (tDrop (tBM c.K "list" rAppend (tVar j) (tCons te tNil))) tNext)) u) As ((R.appAll x.1 y).to fun d => k (d, x.2)) Bs := fun D σ W a f => by
  obtain ⟨v, fp, hv, o, pn, _⟩ := a.varO hi
  obtain ⟨p, va, vb, fa, fb, e, hp, ef, o1, o2, d⟩ := o
  subst e ef
  by_cases hall : x.1.l.all (fun r => decide (r.length < sizeLine)) = true
  case neg =>
    have e : R.appAll x.1 y = .no := by
      unfold R.appAll
      exact if_neg hall
    rw [e] at f
    exact False.elim f
  have e0 : R.appAll x.1 y = .ok ⟨x.1.l.map (· ++ [y])⟩ := by
    unfold R.appAll
    exact if_pos hall
  rw [e0] at f
  have f' : Fin c X kr Ls Js B Bs D (k (⟨x.1.l.map (· ++ [y])⟩, x.2)) := f
  refine ⟨_, hv, hti σ W a W (Le.refl _) _ fun w W2 e2 hw => ?_⟩
  have hw' : w = .int 0 := hw
  subst hw'
  have hp2 := e2.g _ _ hp
  obtain ⟨q, qs, e3, ef3, nd, g, hh, dr, l⟩ := own_up o1 e2
  subst e3 ef3
  refine ⟨p, [.ref q, vb], 0, .ref q, rfl, rfl, W2.sub.sqt (.inl (.inl hp2)), rfl, q, rfl, ⟨_, .inl (.inl hh)⟩, ?_⟩
  have a2 := a.mono e2
  have ap : At c.K B.W0 ((As.set i (.ow (some (.ref p)) x)).set j .un) σ W2 := by
    have a3 := a2.repin (pin' := some (.ref p)) hi hv fun u e => Option.some.inj e
    have a4 := a3.wk (Wk.setU _ j)
    exact a4
  let Wb := B.W0.rb W2 ap.le
  have eb : Le B.W0 Wb := Le.rb0 ap.le
  refine ⟨fun n m σ' H => ∃ (Wi : Wd) (z : DL α), H = Wi.H ∧ At c.K Wb ((As.set i (.ow (some (.ref p)) (z, x.2))).set j .un) σ' Wi ∧ z.l = (x.1.l.take n).map (· ++ [y]) ++ x.1.l.drop n ∧ m = x.1.l.length - n ∧ n ≤ x.1.l.length, ⟨x.1.l.length, W2, x.1, rfl, ap.rb, by simp, by omega, Nat.zero_le _⟩, ?_⟩
  rintro n m σ' H ⟨Wi, z, rfl, ai, ez, rfl, il⟩
  have hil : i < As.length := (List.getElem?_eq_some_iff.mp hi).1
  have hi2 : ((As.set i (.ow (some (.ref p)) (z, x.2))).set j .un)[i]? = some (.ow (some (.ref p)) (z, x.2)) := by
    rw [List.getElem?_set_ne (Ne.symm ij), List.getElem?_set_self hil]
  have hG : Wi.G p = some (.tup [.ref q, vb]) := ai.le.g _ _ hp2
  have zl : z.l.length = x.1.l.length := by rw [ez, List.length_append, List.length_map, List.length_take, List.length_drop]; omega
  obtain ⟨v', fp', hv', o', _, chg'⟩ := ai.chg (β := DL α × β) (y := (DL.mk (z.l.set n (z.l.getD n [] ++ [y])), x.2)) hi2
  obtain ⟨v'', _, hv'', _, pn', _⟩ := ai.varO hi2
  rw [hv'] at hv''
  cases hv''
  have pe := pn' _ rfl
  subst pe
  obtain ⟨p', va', vb', fa', fb', e', hp', ef', o1', o2', d'⟩ := o'
  cases e'
  rw [hG] at hp'
  cases hp'
  obtain ⟨q', qs', e4, ef4, nd', g', hh', dr', l'⟩ := o1'
  cases e4
  have dl' := dr'.len
  have hs : SqL c.K Wi.H q (qs'.map V.ref) := .inl (.inl hh')
  have lq : qs'.length = x.1.l.length := by rw [← zl]; exact dl'.symm
  by_cases ci : n = x.1.l.length
  · refine .inl ⟨⟨_, hs, by rw [List.length_map]; omega⟩, ?_⟩
    have hz : z.l = x.1.l.map (· ++ [y]) := by rw [ez, ci, List.take_length, List.drop_length, List.append_nil]
    have hz2 : z = ⟨x.1.l.map (· ++ [y])⟩ := by
      obtain ⟨zl⟩ := z
      exact congrArg DL.mk hz
    have a4 := (ai.re eb).repin (pin' := pin) hi2 hv' fun u e => (pn u e)
    have es : ((As.set i (.ow (some (.ref p)) (z, x.2))).set j .un).set i (.ow pin (z, x.2)) = (As.set i (.ow pin (z, x.2))).set j .un := by
      rw [List.set_comm _ _ (Ne.symm ij), List.set_set]
    rw [es] at a4
    rw [hz2] at a4
    exact hk _ D σ' Wi a4 f'
  · obtain ⟨b, hb⟩ : ∃ b, qs'[n]? = some b := ⟨_, List.getElem?_eq_getElem (show n < qs'.length by omega)⟩
    have hzn : z.l[n]? = some (x.1.l[n]'(by omega)) := by
      rw [ez, List.getElem?_append_right (by rw [List.length_map, List.length_take]; omega), List.length_map, List.length_take, List.getElem?_drop, show min n x.1.l.length = n by omega, show n + (n - n) = n by omega]
      exact List.getElem?_eq_getElem _
    have hxn : x.1.l[n]? = some (x.1.l[n]'(by omega)) := List.getElem?_eq_getElem _
    have hr : (x.1.l[n]'(by omega)).length < sizeLine := of_decide_eq_true (List.all_eq_true.mp hall _ (List.getElem_mem (show n < x.1.l.length by omega)))
    generalize x.1.l[n]'(by omega) = r at hzn hxn hr
    refine .inr ⟨⟨_, .ref b, hs, by rw [List.getElem?_map, hb]; rfl⟩, fun σ' H' => ∃ (Wi : Wd) (z : DL α), H' = Wi.H ∧ At c.K Wb ((As.set i (.ow (some (.ref p)) (z, x.2))).set j .un) σ' Wi ∧ z.l = (x.1.l.take (n + 1)).map (· ++ [y]) ++ x.1.l.drop (n + 1), fun σ' H' ⟨W', z', e1, e2', e3⟩ => ⟨x.1.l.length - (n + 1), by omega, W', z', e1, e2', e3, rfl, by omega⟩, fun v2 H' ⟨eh, kv⟩ => ?_⟩
    subst eh
    have e5 := kv _ hs
    rw [List.getElem?_map, hb] at e5
    cases e5
    have a5 : At c.K Wb ((As.set i (.ow (some (.ref p)) (z, x.2))).set j .un) (σ'.set j (some (.ref b))) Wi := by
      have := ai.set (i := j) (A := .un) (o := some (.ref b)) trivial
      rw [List.set_set] at this
      exact this
    obtain ⟨b2, hb2, gb, vs, hvs, al, lr⟩ := dr'.get hzn
    rw [hb] at hb2
    cases hb2
    have hjl : j < σ'.length := by
      obtain ⟨A, hA⟩ := hj
      have h1 := (List.getElem?_eq_some_iff.mp hA).1
      have h2 := ai.len
      rw [h2, List.length_set, List.length_set]
      exact h1
    have hd : z.l.getD n [] = r := by rw [List.getD_eq_getElem?_getD, hzn]; rfl
    rw [hd] at chg'
    refine ⟨.ref b, List.getElem?_set_self hjl, .inl ⟨rfl, vs, .inl (.inl hvs)⟩, ?_⟩
    refine hte _ _ _ Wi a5 Wi (Le.refl _) _ fun v3 W3 e3 rv => ?_
    refine ⟨b, vs, v3, rfl, rfl, e3.h _ _ hvs, by rw [← al.1]; exact hr, ?_⟩
    have gb3 : W3.G b = none := e3.o b gb (by rw [hvs]; exact fun z => nomatch z)
    have fB := Ob.foot o2'
    have bq : b ∈ qs' := List.mem_of_getElem? hb
    have qb : q ≠ b := fun z => (List.nodup_cons.mp nd').1 (z ▸ bq)
    have bfb : b ∉ fb' := d' b (ef4 ▸ List.mem_cons_of_mem _ bq)
    have g3 : W3.G q = none := e3.o q g' (by rw [hh']; exact fun z => nomatch z)
    subst ef4 ef'
    have a6 := chg' (W3.mt b (.lst (vs ++ [v3])) gb3) ((q :: qs') ++ fb') e3.g (fun d _ gd nd => e3.o d gd nd)
      (fun d hd nd => upd_keep e3 (fun z => hd (by rw [z]; exact List.mem_append_left _ (List.mem_cons_of_mem _ bq))) nd)
      ⟨p, _, vb, q :: qs', fb', rfl, e3.g _ _ hG, rfl, ⟨q, qs', rfl, rfl, nd', g3, by
        show upd W3.H b _ q = _
        rw [upd_ne qb]
        exact e3.h _ _ hh', DRows.put (W := Wi) (W' := W3.mt b (.lst (vs ++ [v3])) gb3) ⟨gb3, vs ++ [v3], upd_same, (al_mono al e3.g).app (Al.one rv), by simp; omega⟩ e3.g (fun d hd gd nd => ⟨e3.o d gd nd, upd_keep e3 hd nd⟩) dr' hb (List.nodup_cons.mp nd').2, by rw [List.length_set]; exact l'⟩,
        Ob.keep o2' e3.g (fun d hd => e3.o d (fB d hd).1 (fB d hd).2) (fun d hd => upd_keep e3 (fun z => bfb (z ▸ hd)) (fB d hd).2), d'⟩ (fun d hd => .inl hd)
    refine ⟨W3.mt b (.lst (vs ++ [v3])) gb3, DL.mk (z.l.set n (r ++ [y])), rfl, ?_, ?_⟩
    · have a7 := a6.set (i := j) (A := .un) (o := some (.ref b)) trivial
      have es : (((As.set i (.ow (some (.ref p)) (z, x.2))).set j .un).set i (.ow (some (.ref p)) (DL.mk (z.l.set n (r ++ [y])), x.2))).set j .un = (As.set i (.ow (some (.ref p)) (DL.mk (z.l.set n (r ++ [y])), x.2))).set j .un := by
        rw [List.set_comm (l := As) _ _ ij, List.set_set, List.set_comm (l := As) _ _ (Ne.symm ij), List.set_set]
      rw [es] at a7
      exact a7
    · show z.l.set n (r ++ [y]) = _
      rw [ez]
      exact put_at y x.1.l n r hxn
end
end Fw

namespace Fw
open PySem L2
/-! ### a dict frozen but not locked -/
structure Dq (κ α : Type) where
  l : List (κ × α)
deriving DecidableEq
section
variable {κ α : Type} [DecidableEq κ] [Rp κ] [DKy κ] [Rp α]
def repQ (K : Frag) (x : Dq κ α) (v : V) (G : Hp) : Prop := ∃ p q, v = .ref p ∧ G p = some (DKy.ho q) ∧ DR K x.l q G ∧ x.l.length ≤ sizeLine
instance : Rp (Dq κ α) := ⟨repQ, fun s ⟨p, q, e, h, a, l⟩ => ⟨p, q, e, s _ _ h, a.mono s, l⟩⟩
instance : Fz (Dq κ α) where
  own := fun K x v f W => Ob.own K (Dk.mk x.l : Dk κ α) v f W
  keep := fun h s n k => Ob.keep h s n k
  foot := fun h => Ob.foot h
  fz := fun {K x v f W} ⟨p, q, e, ef, g, h, d, l⟩ => by
    subst ef
    exact ⟨p, q, e, (Wd.fz_in (by simp)).trans h, d.mono Wd.fz_sub, l⟩
variable {c : Cn} {W0 : Wd} {X : WX} {As : List Sl}
theorem r_nwQ {te : TE} {m : R (Dk κ α)} (h : Exr c W0 X te As m fun x => kNw c.K x) : Exr c W0 X te As (m.bind fun x => .ok (Dq.mk x.l)) fun x : Dq κ α => kNw c.K x := fun σ W a => by
  have h' := h σ W a
  cases m with
  | no => trivial
  | ex e => exact h'
  | ok x => exact fun W1 e Q q => h' W1 e Q fun v W2 e2 p => q v W2 e2 p
theorem e_nwQ {te : TE} {x : Dk κ α} (h : Exp c W0 te As (kNw c.K x)) : Exp c W0 te As (kNw c.K (Dq.mk x.l : Dq κ α)) := exp_w h fun _ _ _ p => p
theorem e_qs {te : TE} {x : Dq κ α} (h : Exp c W0 te As (kFr c.K x)) : Exp c W0 te As (kDs c.K (Dk.mk x.l : Dk κ α)) := exp_w h fun _ _ W ⟨p, q, e, h, d, l⟩ => ⟨p, q, e, .inl (W.sub _ _ h), d, l⟩
theorem r_qs {te : TE} {m : R (Dq κ α)} (h : Exr c W0 X te As m fun x => kFr c.K x) : Exr c W0 X te As (m.bind fun x => .ok (Dk.mk x.l)) fun x : Dk κ α => kDs c.K x := fun σ W a => by
  have h' := h σ W a
  cases m with
  | no => trivial
  | ex e => exact h'
  | ok x => exact fun W1 e Q q => h' W1 e Q fun v W2 e2 ⟨p, u, ev, hp, d, l⟩ => q v W2 e2 ⟨p, u, ev, .inl (W2.sub _ _ hp), d, l⟩
end
/-! ### dict(d), list(d.items()), keys texts -/
section
variable {α : Type} [Rp α] {K : Frag}
theorem o_dictD : OpA (fun xs H Q => ∃ (a : Addr) (kvs : List (L2.Key × V)), xs = [.ref a] ∧ Rd H a (.dK kvs) ∧ ∀ p, H p = none → Q (.ref p) (upd H p (.dK kvs))) (fun z : Dk Str α × Unit => aCons (kDs K z.1) aNil) (fun z => .ok z.1) (fun x : Dk Str α => kNw K x) := fun z W0 W vs ⟨v, r, e, ⟨p, q, ev, hp, d, l⟩, en⟩ Q qq => by
  subst e en ev
  refine ⟨p, _, rfl, hp, fun b hb => qq _ (W.no b _ hb) (Le.no hb) ⟨[b], ⟨b, q, rfl, rfl, W.sub.nope hb, upd_same, d, l⟩, fun a ha => by rw [List.mem_singleton.mp ha]; exact hb⟩⟩
variable {c : Cn} {W0 : Wd} {X : WX} {As : List Sl}
@[irreducible] def R.items (x : Dq Str α) : R (List (Str × α)) := if ∀ p ∈ x.l, SOk p.1 then .ok x.l else .no
theorem items_al {W : Wd} {H' : Hp} {G' : Hp} (sb : Inc W.G G') : ∀ {x : List (Str × α)} {q : List (Str × V)} {ts : List Addr}, DR K x q W.G → (∀ p ∈ x, SOk p.1) → Paired (fun t (e : L2.Key × V) => H' t = some (.tup [L2.kV e.1, e.2])) ts (q.map fun e => (kS e.1, e.2)) → (∀ t ∈ ts, G' t = H' t) → Al (fun x v => Rp.rep K x v G') x (ts.map V.ref)
  | [], [], [], _, _, _, _ => Al.nil
  | p :: x, e :: q, t :: ts, h, so, hp, hg => by
    cases hp with
    | cons h1 h2 =>
      refine (items_al sb h.2.2 (fun p hp => so p (List.mem_cons_of_mem _ hp)) h2 fun b hb => hg b (List.mem_cons_of_mem _ hb)).cons ?_
      refine ⟨t, .str e.1, e.2, rfl, .inl (.inl ((hg t (by simp)).trans h1)), ?_, Rp.mono sb h.2.1⟩
      refine ⟨by rw [h.1], so p (by simp)⟩
  | [], _ :: _, _, h, _, _, _ => h.elim
  | _ :: _, [], _, h, _, _, _ => h.elim
  | [], [], _ :: _, _, _, hp, _ => by cases hp
  | _ :: _, _ :: _, [], _, _, hp, _ => by cases hp
theorem r_items {te : TE} {m : R (Dq Str α)} (h : Exr c W0 X te As m fun x => kFr c.K x) : Exr c W0 X (LiI.tListItems te) As (m.bind R.items) fun x => kNw c.K x := fun σ W a => by
  have h' := h σ W a
  cases m with
  | no => trivial
  | ex e => exact fun W1 e1 Q q => h' W1 e1 _ q
  | ok x =>
    show SatR (R.items x) _ _
    unfold R.items
    by_cases ok : ∀ p ∈ x.l, SOk p.1
    · rw [if_pos ok]
      refine fun W1 e1 Q qq => h' W1 e1 _ fun v W2 e2 ⟨p, q, ev, hp, d, l⟩ => ⟨p, _, ev, W2.sub _ _ hp, fun H' b ts k hb hts bts hl pr => ?_⟩
      let W3 : Wd := ⟨fun a => match W2.H a with | some _ => W2.G a | none => if a = b then none else H' a, H', fun a o e => by
        dsimp only at e
        cases z : W2.H a with
        | some u => rw [z] at e; exact k _ _ (W2.sub _ _ e)
        | none =>
          rw [z] at e
          dsimp only at e
          by_cases y : a = b
          · rw [if_pos y] at e; cases e
          · rw [if_neg y] at e; exact e, fun a u h i => by
        show (match W2.H a with | some _ => W2.G a | none => if a = b then none else H' a) = some u
        cases z : W2.H a with
        | some o =>
          have := k _ _ z
          rw [h] at this
          cases this
          exact W2.im a _ z i
        | none =>
          dsimp only
          by_cases y : a = b
          · subst y; rw [hl] at h; cases h; cases i
          · rw [if_neg y]; exact h⟩
      have go : ∀ a o, W2.H a = some o → W3.G a = W2.G a := fun a o z => by
        show (match W2.H a with | some _ => W2.G a | none => if a = b then none else H' a) = _
        rw [z]
      have gb : W3.G b = none := by
        show (match W2.H b with | some _ => W2.G b | none => if b = b then none else H' b) = _
        rw [hb]
        exact if_pos rfl
      have gt : ∀ a, a ∈ ts → W3.G a = H' a := fun a z => by
        show (match W2.H a with | some _ => W2.G a | none => if a = b then none else H' a) = _
        rw [hts a z]
        exact if_neg (fun y : a = b => bts (by rw [← y]; exact z))
      have sb : Inc W2.G W3.G := fun a o e => by rw [go a o (W2.sub _ _ e)]; exact e
      have le : Le W2 W3 := ⟨sb, k, fun a g n => by
        cases z : W2.H a with
        | none => exact absurd z n
        | some o => rw [go a o z]; exact g⟩
      refine qq _ W3 (e2.trans le) ⟨[b], ⟨b, ts.map V.ref, rfl, rfl, gb, hl, items_al sb d ok pr gt, l⟩, fun a ha => by rw [List.mem_singleton.mp ha]; exact e2.fr hb⟩
    · rw [if_neg ok]; trivial
end
end Fw

namespace Fw
open PySem L2
/-! ### a dict of one's own lists, keys texts -/
structure DG (α : Type) where
  l : List (Str × List α)
deriving DecidableEq
section
variable {α : Type} [Rp α]
def ownG (K : Frag) (x : DG α) (v : V) (f : List Addr) (W : Wd) : Prop := ∃ (p : Addr) (q : List (Str × V)) (qs : List Addr), v = .ref p ∧ f = p :: qs ∧ (p :: qs).Nodup ∧ W.G p = none ∧ W.H p = some (.dK (q.map fun e => (kS e.1, e.2))) ∧ q.map (·.1) = x.l.map (·.1) ∧ q.map (·.2) = qs.map V.ref ∧ (x.l.map (·.1)).Nodup ∧ DRows K (x.l.map (·.2)) qs W ∧ x.l.length ≤ sizeLine
instance : Rp (DG α) := ⟨fun K x v G => Rp.rep K (Dq.mk x.l : Dq Str (List α)) v G, fun s h => Rp.mono s h⟩
theorem dr_of {K : Frag} {β : Type} [Rp β] {G : Hp} : ∀ {x : List (Str × β)} {q : List (Str × V)}, q.map (·.1) = x.map (·.1) → Al (fun x v => Rp.rep K x v G) (x.map (·.2)) (q.map (·.2)) → DR K x q G
  | [], [], _, _ => trivial
  | p :: x, e :: q, h, a => by
    rw [List.map_cons, List.map_cons] at h
    injection h with h1 h2
    refine ⟨h1.symm, a.2 0 p.2 e.2 rfl rfl, dr_of h2 ⟨by have := a.1; simpa using this, fun i y w h1 h2 => a.2 (i + 1) y w h1 h2⟩⟩
  | [], _ :: _, h, _ => by simp at h
  | _ :: _, [], h, _ => by simp at h
instance : Fz (DG α) where
  own := ownG
  keep := fun {K x v f W W'} ⟨p, q, qs, e, ef, nd, g, h, k1, k2, kn, r, l⟩ s n k => by
    subst ef
    exact ⟨p, q, qs, e, rfl, nd, n p (by simp), (k p (by simp)).trans h, k1, k2, kn, r.keep s (fun b hb => n b (List.mem_cons_of_mem _ hb)) fun b hb => k b (List.mem_cons_of_mem _ hb), l⟩
  foot := fun {K x v f W} ⟨p, q, qs, e, ef, nd, g, h, k1, k2, kn, r, l⟩ b hb => by
    subst ef
    rcases List.mem_cons.mp hb with z | hb
    · subst z
      exact ⟨g, by rw [h]; exact fun z => nomatch z⟩
    · exact r.foot b hb
  fz := fun {K x v f W} ⟨p, q, qs, e, ef, nd, g, h, k1, k2, kn, r, l⟩ => by
    subst ef
    refine ⟨p, q, e, (Wd.fz_in (by simp)).trans h, dr_of k1 ?_, l⟩
    rw [k2]
    exact r.rep Wd.fz_sub fun q hq => Wd.fz_in (List.mem_cons_of_mem _ hq)
variable {c : Cn} {W0 : Wd} {X : WX} {As : List Sl}
theorem e_gq {te : TE} {x : DG α} (h : Exp c W0 te As (kFr c.K x)) : Exp c W0 te As (kFr c.K (Dq.mk x.l : Dq Str (List α))) := exp_w h fun _ _ _ p => p
theorem e_gnew {te : TE} (ht : te = fun _ H Q => ∀ p, H p = none → Q (.ref p) (upd H p (.dK []))) : Exp c W0 te As (kNw c.K (DG.mk ([] : List (Str × List α)))) := fun σ W a W1 e Q q => by
  subst ht
  exact fun p hp => q _ (W1.no p _ hp) (Le.no hp) ⟨[p], ⟨p, [], [], rfl, rfl, by simp, W1.sub.nope hp, upd_same, rfl, rfl, List.nodup_nil, trivial, Nat.zero_le _⟩, fun a ha => by rw [List.mem_singleton.mp ha]; exact hp⟩
@[irreducible] def R.sda (x : DG α) (k : Str) (y : α) : R (DG α) := if x.l.length < sizeLine ∧ ((Fw.dval x.l k).getD []).length < sizeLine then .ok ⟨Fw.dput x.l k ((Fw.dval x.l k).getD [] ++ [y])⟩ else .no
theorem g_find {k : Str} : ∀ {q : List (Str × V)} {xl : List (Str × List α)} {qs : List Addr}, q.map (·.1) = xl.map (·.1) → q.map (·.2) = qs.map V.ref → ∀ {v}, valV q k = some v → ∃ (j : Nat) (a : Addr) (r : List α), qs[j]? = some a ∧ v = .ref a ∧ xl[j]? = some (k, r) ∧ dval xl k = some r
  | [], _, _, _, _, v, h => by cases h
  | e :: q, p :: xl, a :: qs, h1, h2, v, h => by
    rw [List.map_cons, List.map_cons] at h1 h2
    injection h1 with e1 h1
    injection h2 with e2 h2
    by_cases z : e.1 = k
    · rw [valV_pos z] at h
      refine ⟨0, a, p.2, rfl, ?_, ?_, ?_⟩
      · rw [← Option.some.inj h, e2]
      · rw [← z, e1]; rfl
      · unfold dval
        rw [if_pos (e1.symm.trans z)]
    · rw [valV_neg z] at h
      obtain ⟨j, b, r, g1, g2, g3, g4⟩ := g_find h1 h2 h
      refine ⟨j + 1, b, r, g1, g2, g3, ?_⟩
      unfold dval
      rw [if_neg (fun w => z (e1.trans w))]
      exact g4
  | e :: q, [], _, h1, _, _, _ => by simp at h1
  | e :: q, _ :: _, [], _, h2, _, _ => by simp at h2
theorem g_none {k : Str} : ∀ {q : List (Str × V)} {xl : List (Str × List α)}, q.map (·.1) = xl.map (·.1) → valV q k = none → dval xl k = none ∧ k ∉ xl.map (·.1)
  | [], [], _, _ => ⟨rfl, by simp⟩
  | e :: q, p :: xl, h1, h => by
    rw [List.map_cons, List.map_cons] at h1
    injection h1 with e1 h1
    by_cases z : e.1 = k
    · rw [valV_pos z] at h; cases h
    · rw [valV_neg z] at h
      obtain ⟨g1, g2⟩ := g_none h1 h
      refine ⟨?_, ?_⟩
      · unfold dval
        rw [if_neg (fun w => z (e1.trans w))]
        exact g1
      · rw [List.map_cons, List.mem_cons]
        rintro (w | w)
        · exact z (e1.trans w.symm)
        · exact g2 w
  | [], _ :: _, h, _ => by simp at h
  | _ :: _, [], h, _ => by simp at h
theorem dput_keys {k : Str} {y : List α} (xl : List (Str × List α)) (h : (dval xl k).isSome = true) : (dput xl k y).map (·.1) = xl.map (·.1) := by
  unfold dput
  rw [if_pos h, List.map_map]
  refine List.map_congr_left fun p _ => ?_
  show (if p.1 = k then (p.1, y) else p).1 = p.1
  split <;> rfl
theorem dput_vals {k : Str} {y : List α} : ∀ {xl : List (Str × List α)} {j : Nat} {r : List α}, (xl.map (·.1)).Nodup → xl[j]? = some (k, r) → (xl.map (fun p => if p.1 = k then (p.1, y) else p)).map (·.2) = (xl.map (·.2)).set j y
  | [], j, r, _, h => by simp at h
  | p :: xl, 0, r, nd, h => by
    have e : p = (k, r) := by simpa using h
    subst e
    rw [List.map_cons] at nd
    have nk := (List.nodup_cons.mp nd).1
    rw [List.map_cons, List.map_cons, List.map_cons, List.set_cons_zero, if_pos rfl]
    congr 1
    rw [List.map_map]
    refine List.map_congr_left fun p hp => ?_
    show (if p.1 = k then (p.1, y) else p).2 = p.2
    rw [if_neg fun z => nk (by show k ∈ _; rw [← z]; exact List.mem_map_of_mem hp)]
  | p :: xl, j + 1, r, nd, h => by
    rw [List.map_cons] at nd
    obtain ⟨nk, nd2⟩ := List.nodup_cons.mp nd
    have h' : xl[j]? = some (k, r) := by simpa using h
    have hk : k ∈ xl.map (·.1) := List.mem_map.mpr ⟨_, List.mem_of_getElem? h', rfl⟩
    rw [List.map_cons, List.map_cons, List.map_cons, List.set_cons_succ, dput_vals nd2 h']
    congr 1
    show (if p.1 = k then (p.1, y) else p).2 = p.2
    rw [if_neg fun z => nk (by rw [z]; exact hk)]
end
section
variable {α : Type} [Rp α] {J S ρ : Type} {c : Cn} {X : WX} {kr : ρ → Kd} {Ls : List Sl} {Js : J → List Sl} {B : Bd} {As : List Sl} {Bs : S → List Sl} {W0 : Wd}
/-- x.setdefault(k, []).append(y) -/
theorem d_sdApp {pin : Option V} {tk ty : TE} {u : TS} {x : DG α} {n : R Str} {y : α} {kk : DG α → Out S J ρ} (i : Nat) (hi : As[i]? = some (.ow pin x)) (lx : Lx Ls As) (hn : Exr c B.W0 X tk As n fun x => kFr c.K x) (hy0 : Exp c B.W0 ty As (kFr c.K y)) (hy : ∀ z : DG α, Exp c B.W0 ty (As.set i (.ow pin z)) (kFr c.K y)) (hk : ∀ z : DG α, Den c X kr Ls Js B u (As.set i (.ow pin z)) (kk z) Bs) :
    Den c X kr Ls Js B (tSeq (tDrop (tBM c.K "list" rAppend (tDSetd (tVar i) tk (tLst tNil)) (tCons ty tNil))) u) As (n.to fun k => (R.sda x k y).to kk) Bs := fun D σ W a f => by
  have h' := hn σ W a
  obtain ⟨v, fp, hv, ⟨p, q, qs, ev, ef, nd, g, hh, k1, k2, kn, dr, l⟩, _⟩ := a.varO hi
  subst ev ef
  refine ⟨.ref p, hv, p, rfl, .inl ⟨_, .inl hh⟩, ?_⟩
  cases n with
  | no => exact False.elim f
  | ex e => exact h' W (Le.refl _) _ fun cls d W2 e2 z => f cls d σ W2 (lx_at lx (a.mono e2)) z
  | ok k =>
    refine h' W (Le.refl _) _ fun w W2 e2 rw_ => ?_
    obtain ⟨ew, sk⟩ := (show w = .str k ∧ SOk k from rw_)
    subst ew
    by_cases cz : x.l.length < sizeLine ∧ ((dval x.l k).getD []).length < sizeLine
    case neg =>
      have e : R.sda x k y = .no := by
        unfold R.sda
        exact if_neg cz
      have f2 : Fin c X kr Ls Js B Bs D ((R.sda x k y).to kk) := f
      rw [e] at f2
      exact False.elim f2
    have f' : Fin c X kr Ls Js B Bs D (kk ⟨dput x.l k ((dval x.l k).getD [] ++ [y])⟩) := by
      have e : R.sda x k y = .ok ⟨dput x.l k ((dval x.l k).getD [] ++ [y])⟩ := by
        unfold R.sda
        exact if_pos cz
      have f2 : Fin c X kr Ls Js B Bs D ((R.sda x k y).to kk) := f
      rw [e] at f2
      exact f2
    have a2 := a.mono e2
    have drl := dr.len
    rw [List.length_map] at drl
    have qlen : q.length = x.l.length := by have := congrArg List.length k1; simpa using this
    refine ⟨Nat.zero_le _, fun r hr => ?_⟩
    have e3 : Le W2 (W2.no r (.lst []) hr) := Le.no hr
    have a3 := a2.mono e3
    have h3 : (W2.no r (.lst []) hr).H p = some (.dK (q.map fun e => (kS e.1, e.2))) := e3.h _ _ (e2.h _ _ hh)
    refine ⟨_, kS k, h3, rfl, by rw [List.length_map]; omega, fun v hv2 => ?_, fun hn2 => ?_⟩
    · rw [valV_inj kS_inj k q] at hv2
      obtain ⟨j, b, r0, j1, j2, j3, j4⟩ := g_find k1 k2 hv2
      subst j2
      have hrow : (x.l.map (·.2))[j]? = some r0 := by rw [List.getElem?_map, j3]; rfl
      obtain ⟨v', fp', hv', o', _, chg⟩ := a3.chg (β := DG α) (y := ⟨dput x.l k ((dval x.l k).getD [] ++ [y])⟩) hi
      rw [hv] at hv'
      cases hv'
      obtain ⟨p', q', qs', e', ef', nd', g', hh', k1', k2', kn', dr', l'⟩ := o'
      cases e'
      subst ef'
      rw [h3] at hh'
      have eq' : q'.map (fun e => (kS e.1, e.2)) = q.map fun e => (kS e.1, e.2) := by
        injection hh' with hh'
        injection hh' with hh'
        exact hh'.symm
      have evs : q'.map (·.2) = q.map (·.2) := by
        have := congrArg (List.map Prod.snd) eq'
        rw [List.map_map, List.map_map] at this
        exact this
      have inj : ∀ a b : List Addr, a.map V.ref = b.map V.ref → a = b := fun a => by
        induction a with
        | nil => intro b h; cases b with
          | nil => rfl
          | cons => simp at h
        | cons x a ih => intro b h; cases b with
          | nil => simp at h
          | cons y b =>
            rw [List.map_cons, List.map_cons] at h
            injection h with h1 h2
            injection h1 with h1
            rw [h1, ih b h2]
      have eqs : qs' = qs := inj _ _ (by rw [← k2', evs, k2])
      subst eqs
      obtain ⟨b', hb', gb, vs, hvs, al, lr⟩ := dr'.get hrow
      rw [j1] at hb'
      cases hb'
      refine ⟨.inl ⟨rfl, vs, .inl (.inl hvs)⟩, ?_⟩
      refine hy0 σ _ a3 _ (Le.refl _) _ fun v3 W3 e4 rv => ?_
      have bq : b ∈ qs' := List.mem_of_getElem? j1
      have pb : p ≠ b := fun z => (List.nodup_cons.mp nd').1 (z ▸ bq)
      have gb3 : W3.G b = none := e4.o b gb (by rw [hvs]; exact fun z => nomatch z)
      have gp3 : W3.G p = none := e4.o p g' (by rw [h3]; exact fun z => nomatch z)
      have lr2 : r0.length < sizeLine := by have := cz.2; rw [j4] at this; exact this
      refine ⟨b, vs, v3, rfl, rfl, e4.h _ _ hvs, by rw [← al.1]; exact lr2, ?_⟩
      have hd : (dval x.l k).getD [] = r0 := by rw [j4]; rfl
      have his : (dval x.l k).isSome = true := by rw [j4]; rfl
      have a6 := chg (W3.mt b (.lst (vs ++ [v3])) gb3) (p :: qs') e4.g (fun d _ gd nd => e4.o d gd nd)
        (fun d hd nd => upd_keep e4 (fun z => hd (by rw [z]; exact List.mem_cons_of_mem _ bq)) nd)
        ⟨p, q, qs', rfl, rfl, nd', gp3, by
          show upd W3.H b _ p = _
          rw [upd_ne pb]
          exact e4.h _ _ h3, by rw [dput_keys x.l his]; exact k1, k2, by rw [dput_keys x.l his]; exact kn, by
          have ed : (dput x.l k ((dval x.l k).getD [] ++ [y])).map (·.2) = (x.l.map (·.2)).set j ((dval x.l k).getD [] ++ [y]) := by
            unfold dput
            rw [if_pos his]
            exact dput_vals kn j3
          show DRows c.K ((dput x.l k ((dval x.l k).getD [] ++ [y])).map (·.2)) qs' _
          rw [ed, hd]
          exact DRows.put (W' := W3.mt b (.lst (vs ++ [v3])) gb3) ⟨gb3, vs ++ [v3], upd_same, (al_mono al e4.g).app (Al.one rv), by simp; omega⟩ e4.g (fun d hd gd nd => ⟨e4.o d gd nd, upd_keep e4 hd nd⟩) dr' j1 (List.nodup_cons.mp nd').2, by
          have := congrArg List.length (dput_keys (y := (dval x.l k).getD [] ++ [y]) x.l his)
          rw [List.length_map, List.length_map] at this
          show (dput x.l k ((dval x.l k).getD [] ++ [y])).length ≤ _
          rw [this]
          exact l⟩ (fun d hd => .inl hd)
      exact hk _ D _ _ a6 f'
    · rw [valV_inj kS_inj k q] at hn2
      obtain ⟨n1, n2⟩ := g_none k1 hn2
      have ed : dput x.l k ((dval x.l k).getD [] ++ [y]) = x.l ++ [(k, [y])] := by
        unfold dput
        rw [n1]
        rfl
      rw [ed] at f'
      have fW : ∀ d ∈ p :: qs, W2.G d = none ∧ W2.H d ≠ none := Ob.foot (own_up (show Ob.own c.K x (.ref p) (p :: qs) W from ⟨p, q, qs, rfl, rfl, nd, g, hh, k1, k2, kn, dr, l⟩) e2)
      have rn : r ∉ p :: qs := fun z => (fW r z).2 hr
      have rp : r ≠ p := fun z => rn (by rw [z]; simp)
      have hrr : (W2.no r (.lst []) hr).H r = some (.lst []) := upd_same
      have grr : (W2.no r (.lst []) hr).G r = none := W2.sub.nope hr
      have gp2 : (W2.no r (.lst []) hr).G p = none := (fW p (by simp)).1
      have eput : putK (q.map fun e => (kS e.1, e.2)) (kS k) (.ref r) = (q ++ [(k, V.ref r)]).map fun e => (kS e.1, e.2) := by
        rw [putK_inj kS_inj k _ q]
        unfold putK
        rw [valV_any, hn2]
        rfl
      rw [eput]
      -- the list is in
      obtain ⟨v', fp', hv', o', _, chg⟩ := a2.chg (β := DG α) (y := ⟨x.l ++ [(k, [])]⟩) hi
      rw [hv] at hv'
      cases hv'
      obtain ⟨p', q', qs', e', ef', nd', g', hh', k1', k2', kn', dr', l'⟩ := o'
      cases e'
      subst ef'
      have h2p := e2.h _ _ hh
      rw [h2p] at hh'
      have eq' : q'.map (fun e => (kS e.1, e.2)) = q.map fun e => (kS e.1, e.2) := by
        injection hh' with hh'
        injection hh' with hh'
        exact hh'.symm
      have inj : ∀ a b : List Addr, a.map V.ref = b.map V.ref → a = b := fun a => by
        induction a with
        | nil => intro b h; cases b with
          | nil => rfl
          | cons => simp at h
        | cons x a ih => intro b h; cases b with
          | nil => simp at h
          | cons y b =>
            rw [List.map_cons, List.map_cons] at h
            injection h with h1 h2
            injection h1 with h1
            rw [h1, ih b h2]
      have eqs : qs' = qs := inj _ _ (by
        have := congrArg (List.map Prod.snd) eq'
        rw [List.map_map, List.map_map] at this
        have t2 : q'.map (·.2) = q.map (·.2) := this
        rw [← k2', t2, k2])
      subst eqs
      have W4d : ∃ W4 : Wd, W4.G = W2.G ∧ W4.H = upd (upd W2.H r (.lst [])) p (.dK ((q ++ [(k, V.ref r)]).map fun e => (kS e.1, e.2))) := ⟨(W2.no r (.lst []) hr).mt p _ gp2, rfl, rfl⟩
      obtain ⟨W4, G4, H4⟩ := W4d
      have hkeep : ∀ d, d ≠ p → d ≠ r → W4.H d = W2.H d := fun d h1 h2 => by
        rw [H4, upd_ne h1]
        show upd W2.H r _ d = _
        rw [upd_ne h2]
      have h4r : W4.H r = some (.lst []) := by rw [H4, upd_ne rp]; exact hrr
      have h4p : W4.H p = some (.dK ((q ++ [(k, V.ref r)]).map fun e => (kS e.1, e.2))) := by rw [H4, upd_same]
      have pnq := (List.nodup_cons.mp nd').1
      have dr4 : DRows c.K (x.l.map (·.2)) qs' W4 := dr'.keep (by rw [G4]; exact Inc.refl _) (fun d hd => by rw [G4]; exact (dr'.foot d hd).1) fun d hd => hkeep d (fun z => pnq (z ▸ hd)) fun z => rn (z ▸ List.mem_cons_of_mem _ hd)
      have a4 := chg W4 (p :: (qs' ++ [r])) (by rw [G4]; exact Inc.refl _) (fun d _ gd _ => by rw [G4]; exact gd)
        (fun d hd nd => hkeep d (fun z => hd (by rw [z]; simp)) fun z => nd (by rw [z]; exact hr))
        ⟨p, q ++ [(k, V.ref r)], qs' ++ [r], rfl, rfl, by
          rw [← List.cons_append, List.nodup_append]
          exact ⟨nd', by simp, fun b hb d hd z => rn (by rw [List.mem_singleton] at hd; subst hd; subst z; exact hb)⟩, by rw [G4]; exact (fW p (by simp)).1, h4p, by rw [List.map_append, List.map_append, k1]; rfl, by rw [List.map_append, List.map_append, k2]; rfl, by
          show ((x.l ++ [(k, ([] : List α))]).map fun e : Str × List α => e.1).Nodup
          rw [List.map_append, List.nodup_append]
          exact ⟨kn, by simp, fun b hb d hd z => n2 (by
            have hd' : d = k := by simpa using hd
            rw [← hd', ← z]; exact hb)⟩, by
          show DRows c.K ((x.l ++ [(k, ([] : List α))]).map fun e : Str × List α => e.2) _ _
          rw [List.map_append]
          exact dr4.snoc ⟨by rw [G4]; exact W2.sub.nope hr, [], h4r, Al.nil, Nat.zero_le _⟩, by simp; omega⟩
        (fun d hd => by
          rcases List.mem_cons.mp hd with z | hd
          · exact .inl (by rw [z]; simp)
          · rcases List.mem_append.mp hd with z | z
            · exact .inl (List.mem_cons_of_mem _ z)
            · rw [List.mem_singleton.mp z]; exact .inr hr)
      rw [← H4]
      refine ⟨.inl ⟨rfl, [], .inl (.inl h4r)⟩, ?_⟩
      refine hy _ σ W4 a4 W4 (Le.refl _) _ fun v3 W5 e5 rv => ?_
      have gr4 : W4.G r = none := by rw [G4]; exact W2.sub.nope hr
      have gr5 : W5.G r = none := e5.o r gr4 (by rw [h4r]; exact fun z => nomatch z)
      refine ⟨r, [], v3, rfl, rfl, e5.h _ _ h4r, by rw [sizeLine_eq]; decide, ?_⟩
      have hil : i < As.length := (List.getElem?_eq_some_iff.mp hi).1
      have hi4 : (As.set i (.ow pin (DG.mk (x.l ++ [(k, ([] : List α))]))))[i]? = some (.ow pin (DG.mk (x.l ++ [(k, [])]))) := List.getElem?_set_self hil
      obtain ⟨v6, fp6, hv6, o6, _, chg6⟩ := a4.chg (β := DG α) (y := ⟨x.l ++ [(k, [y])]⟩) hi4
      rw [hv] at hv6
      cases hv6
      obtain ⟨p6, q6, qs6, e6, ef6, nd6, g6, hh6, k16, k26, kn6, dr6, l6⟩ := o6
      cases e6
      subst ef6
      rw [h4p] at hh6
      have eqs6 : qs6 = qs' ++ [r] := inj _ _ (by
        have eq6 : q6.map (fun e => (kS e.1, e.2)) = (q ++ [(k, V.ref r)]).map fun e => (kS e.1, e.2) := by
          injection hh6 with hh6
          injection hh6 with hh6
          exact hh6.symm
        have := congrArg (List.map Prod.snd) eq6
        rw [List.map_map, List.map_map] at this
        have t2 : q6.map (·.2) = (q ++ [(k, V.ref r)]).map (·.2) := this
        rw [← k26, t2, List.map_append, k2, List.map_append]
        rfl)
      subst eqs6
      have gp5 : W5.G p = none := e5.o p g6 (by rw [h4p]; exact fun z => nomatch z)
      have pr : p ≠ r := fun z => rp z.symm
      have a7 := chg6 (W5.mt r (.lst [v3]) gr5) (p :: (qs' ++ [r])) e5.g (fun d _ gd nd => e5.o d gd nd)
        (fun d hd nd => upd_keep e5 (fun z => hd (by rw [z]; simp)) nd)
        ⟨p, q ++ [(k, V.ref r)], qs' ++ [r], rfl, rfl, nd6, gp5, by
          show upd W5.H r _ p = _
          rw [upd_ne pr]
          exact e5.h _ _ h4p, by rw [List.map_append, List.map_append, k1]; rfl, by rw [List.map_append, List.map_append, k2]; rfl, by
          show ((x.l ++ [(k, [y])]).map fun e : Str × List α => e.1).Nodup
          have := kn6
          rw [List.map_append] at this ⊢
          exact this, by
          show DRows c.K ((x.l ++ [(k, [y])]).map fun e : Str × List α => e.2) _ _
          rw [List.map_append]
          refine DRows.snoc (W := W5.mt r (.lst [v3]) gr5) ⟨gr5, [v3], upd_same, Al.one rv, by rw [sizeLine_eq]; show 1 ≤ 16777216; decide⟩ (dr4.keep (W' := W5.mt r (.lst [v3]) gr5) e5.g (fun d hd => e5.o d (dr4.foot d hd).1 (dr4.foot d hd).2) fun d hd => upd_keep e5 (fun z => rn (z ▸ List.mem_cons_of_mem _ hd)) (dr4.foot d hd).2), by simp; omega⟩ (fun d hd => .inl hd)
      rw [List.set_set] at a7
      exact hk _ D _ _ a7 f'
end
end Fw

namespace Fw
open PySem L2
/-! ### list(xs) within a comprehension -/
def rListOf (K : Frag) : List V → Hp → VK → Prop := fun xs H Q => ∃ p ys, xs = [.ref p] ∧ (SqL K H p ys ∨ SqT K H p ys) ∧ ∀ l, H l = none → Q (.ref l) (upd H l (.lst ys))
theorem o_listK {α : Type} [Rp α] {K : Frag} : OpA (rListOf K) (fun z : List α × Unit => aCons (kSh K z.1) aNil) (fun z => .ok z.1) (fun n : List α => kNw K n) := o_list
end Fw

namespace Fw
open PySem L2
/-! ### what is owned, looked at as frozen: whatever has no owned thing in it may come out, exceptions too -/
theorem Tk.sqt {K : Frag} {G G' : Hp} {p : Addr} {xs : List V} (t : Tk G G') (h : SqT K G p xs) : SqT K G' p xs := by
  rcases h with (h | ⟨o, h⟩) | h
  · exact .inl (.inl (t p _ rfl h))
  · exact .inl (.inr ⟨o, t p _ rfl h⟩)
  · exact .inr h
/-- values that have no changing thing in them -/
class Uf (α : Type) [Rp α] where
  uf : ∀ {K : Frag} {x : α} {v : V} {G G' : Hp}, Tk G G' → Rp.rep K x v G → Rp.rep K x v G'
instance : Uf Int := ⟨fun _ h => h⟩
instance : Uf Bool := ⟨fun _ h => h⟩
instance : Uf Str := ⟨fun _ h => h⟩
instance : Uf Unit := ⟨fun _ h => h⟩
section
variable {α β γ δ : Type} [Rp α] [Rp β] [Rp γ] [Rp δ] [Uf α] [Uf β] [Uf γ] [Uf δ]
instance : Uf (α × β) := ⟨fun t ⟨p, a, b, e, h, r1, r2⟩ => ⟨p, a, b, e, t.sqt h, Uf.uf t r1, Uf.uf t r2⟩⟩
instance : Uf (T3 α β γ) := ⟨fun t ⟨p, a, b, c, e, h, r1, r2, r3⟩ => ⟨p, a, b, c, e, t.sqt h, Uf.uf t r1, Uf.uf t r2, Uf.uf t r3⟩⟩
instance : Uf (T4 α β γ δ) := ⟨fun t ⟨p, a, b, c, d, e, h, r1, r2, r3, r4⟩ => ⟨p, a, b, c, d, e, t.sqt h, Uf.uf t r1, Uf.uf t r2, Uf.uf t r3, Uf.uf t r4⟩⟩
instance : Uf (Tup α) := ⟨fun t ⟨p, vs, e, h, a, l⟩ => ⟨p, vs, e, t.sqt h, a.imp fun _ _ r => Uf.uf t r, l⟩⟩
instance : Uf (Option α) := ⟨fun {K x v G G'} t h => by
  cases x with
  | none => exact h
  | some y => exact ⟨h.1, Uf.uf t h.2⟩⟩
instance : Uf (α ⊕ β) := ⟨fun {K x v G G'} t h => by
  cases x with
  | inl y => exact Uf.uf (α := α) t h
  | inr y => exact Uf.uf (α := β) t h⟩
end
instance : Uf TK := ⟨fun t ⟨p, e, h, l⟩ => ⟨p, e, t p _ rfl h, l⟩⟩
/-- new things whose parts have no changing thing in them -/
class UfO (α : Type) [Ob α] where
  uf : ∀ {K : Frag} {x : α} {v : V} {f : List Addr} {W W' : Wd}, Tk W.G W'.G → (∀ a ∈ f, W'.G a = none) → W'.H = W.H → Ob.own K x v f W → Ob.own K x v f W'
section
variable {κ α : Type} [DecidableEq κ] [Rp κ] [DKy κ] [Rp α]
theorem al_uf [Uf α] {K : Frag} {G G' : Hp} (t : Tk G G') {xs : List α} {vs : List V} (h : Al (fun x v => Rp.rep K x v G) xs vs) : Al (fun x v => Rp.rep K x v G') xs vs := h.imp fun _ _ r => Uf.uf t r
theorem DR.uf [Uf α] {K : Frag} {G G' : Hp} (t : Tk G G') : ∀ {x : List (κ × α)} {q : List (κ × V)}, DR K x q G → DR K x q G'
  | [], [], h => h
  | _ :: _, _ :: _, h => ⟨h.1, Uf.uf t h.2.1, DR.uf t h.2.2⟩
  | [], _ :: _, h => h.elim
  | _ :: _, [], h => h.elim
instance [Uf α] : UfO (List α) := ⟨fun {K x v f W W'} t n k ⟨p, vs, e, ef, g, h, a, l⟩ => by
  subst ef
  exact ⟨p, vs, e, rfl, n p (by simp), by rw [k]; exact h, al_uf t a, l⟩⟩
instance [Uf α] : UfO (Dk κ α) := ⟨fun {K x v f W W'} t n k ⟨p, q, e, ef, g, h, d, l⟩ => by
  subst ef
  exact ⟨p, q, e, rfl, n p (by simp), by rw [k]; exact h, d.uf t, l⟩⟩
theorem DRows.uf [Uf α] {K : Frag} {W W' : Wd} (t : Tk W.G W'.G) (k : W'.H = W.H) : ∀ {xs : List (List α)} {qs : List Addr}, (∀ q ∈ qs, W'.G q = none) → DRows K xs qs W → DRows K xs qs W'
  | [], [], _, _ => trivial
  | x :: xs, q :: qs, n, h => by
    obtain ⟨g, vs, hh, al, l⟩ := h.1
    exact ⟨⟨n q (by simp), vs, by rw [k]; exact hh, al_uf t al, l⟩, DRows.uf t k (fun b hb => n b (List.mem_cons_of_mem _ hb)) h.2⟩
  | [], _ :: _, _, h => h.elim
  | _ :: _, [], _, h => h.elim
instance [Uf α] : UfO (DL α) := ⟨fun {K x v f W W'} t n k ⟨p, qs, e, ef, nd, g, h, r, l⟩ => by
  subst ef
  exact ⟨p, qs, e, rfl, nd, n p (by simp), by rw [k]; exact h, r.uf t k fun q hq => n q (List.mem_cons_of_mem _ hq), l⟩⟩
end
section
variable {α β : Type}
instance [Fz α] [Fz β] [UfO α] [UfO β] : UfO (α × β) := ⟨fun {K x v f W W'} t n k ⟨p, va, vb, fa, fb, e, hp, ef, o1, o2, d⟩ => by
  subst ef
  exact ⟨p, va, vb, fa, fb, e, t p _ rfl hp, rfl, UfO.uf t (fun a ha => n a (List.mem_append.mpr (.inl ha))) k o1, UfO.uf t (fun a ha => n a (List.mem_append.mpr (.inr ha))) k o2, d⟩⟩
end
/-! the view -/
inductive FvW : List Sl → List Sl → Prop
  | nil : FvW [] []
  | un {As Bs : List Sl} : FvW As Bs → FvW (.un :: As) (.un :: Bs)
  | fr {α : Type} [Rp α] {x : α} {As Bs : List Sl} : FvW As Bs → FvW (.fr x :: As) (.fr x :: Bs)
  | ow {α : Type} [Fz α] {pin : Option V} {x : α} {As Bs : List Sl} : FvW As Bs → FvW (.ow pin x :: As) (.fr x :: Bs)
  | no {α : Type} [Ob α] {pin : Option V} {x : α} {As Bs : List Sl} : FvW As Bs → FvW (.ow pin x :: As) (.un :: Bs)
theorem FvW.len {As Bs : List Sl} (h : FvW As Bs) : As.length = Bs.length := by
  induction h with
  | nil => rfl
  | _ _ ih => exact congrArg (· + 1) ih
theorem FvW.at {K : Frag} {W : Wd} {As Bs : List Sl} (h : FvW As Bs) : ∀ {σ : St}, (∀ (i : Nat) A o, As[i]? = some A → σ[i]? = some o → ∃ f, Hd K A o W f) → ∀ (i : Nat) B o, Bs[i]? = some B → σ[i]? = some o → Hd K B o (.all W.H) [] := by
  induction h with
  | nil => intro σ _ i B o e; simp at e
  | @un As Bs _ ih =>
    intro σ hh i B o e1 e2
    cases σ with
    | nil => simp at e2
    | cons s σ =>
      cases i with
      | zero => cases e1; trivial
      | succ i => exact ih (σ := σ) (fun j A o a b => hh (j + 1) A o a b) i B o e1 e2
  | @fr α _ x As Bs _ ih =>
    intro σ hh i B o e1 e2
    cases σ with
    | nil => simp at e2
    | cons s σ =>
      cases i with
      | zero =>
        cases e1
        obtain ⟨f, v, e, r⟩ := hh 0 _ o rfl e2
        exact ⟨v, e, Rp.mono W.sub r⟩
      | succ i => exact ih (σ := σ) (fun j A o a b => hh (j + 1) A o a b) i B o e1 e2
  | @ow α _ pin x As Bs _ ih =>
    intro σ hh i B o e1 e2
    cases σ with
    | nil => simp at e2
    | cons s σ =>
      cases i with
      | zero =>
        cases e1
        obtain ⟨f, v, e, r, _⟩ := hh 0 _ o rfl e2
        exact ⟨v, e, own_bw (A := W) r⟩
      | succ i => exact ih (σ := σ) (fun j A o a b => hh (j + 1) A o a b) i B o e1 e2
  | @no α _ pin x As Bs _ ih =>
    intro σ hh i B o e1 e2
    cases σ with
    | nil => simp at e2
    | cons s σ =>
      cases i with
      | zero => cases e1; trivial
      | succ i => exact ih (σ := σ) (fun j A o a b => hh (j + 1) A o a b) i B o e1 e2
theorem At.allfv {K : Frag} {W0 W : Wd} {As Bs : List Sl} {σ : St} (h : At K W0 As σ W) (z : FvW As Bs) : At K (.all W.H) Bs σ (.all W.H) := by
  obtain ⟨l, le, F, h1, h2, h3⟩ := h
  exact ⟨l.trans z.len, Le.refl _, fun _ => [], fun i B o a b => z.at (fun j A o a b => ⟨F j, h1 j A o a b⟩) i B o a b, fun i j a _ ha => (by cases ha), fun i a ha => (by cases ha)⟩
/-- kinds that may come out of the view -/
def KBk (k : Kd) : Prop := ∀ (W W3 : Wd) (e : Le (.all W.H) W3) v, k.p (.all W.H) v W3 → k.p W v (W.bk W3 e)
section
variable {c : Cn} {W0 : Wd} {X : WX} {As Bs : List Sl} {α ρ : Type}
theorem kbk_fr [Rp α] [Uf α] {K : Frag} {x : α} : KBk (kFr K x) := fun W W3 e v h => Uf.uf bk_tk h
theorem kbk_nw [Ob α] [UfO α] {K : Frag} {x : α} : KBk (kNw K x) := fun W W3 e v ⟨f, o, n⟩ => ⟨f, UfO.uf (W' := W.bk W3 e) bk_tk (fun a ha => by rw [bk_new (W := W) (show W.H a = none from n a ha)]; exact (Ob.foot o a ha).1) rfl o, n⟩
theorem exat_bk {M : Str → Value} {e : Exc} {cls : Value} {d : Option Addr} {W W3 : Wd} {l : Le (.all W.H) W3} (h : ExAt M e cls d W3) : ExAt M e cls d (W.bk W3 l) := by
  obtain ⟨h1, h2, h3⟩ := h
  refine ⟨h1, ?_, h3⟩
  revert h2
  unfold ExD
  split
  · exact id
  · exact fun ⟨a, e1, e2⟩ => ⟨a, e1, bk_tk a _ rfl e2⟩
theorem r_fv {te : TE} {m : R ρ} {k : ρ → Kd} (hk : ∀ x, KBk (k x)) (z : FvW As Bs) (h : ∀ W0', Exr c W0' X te Bs m k) : Exr c W0 X te As m k := fun σ W a => by
  have go : ∀ W1, Le W W1 → SatR m (fun x => Ev te σ (.all W1.H) (k x)) (Rz c X te σ (.all W1.H)) := fun W1 e => h _ σ _ ((a.mono e).allfv z)
  cases m with
  | no => trivial
  | ex e => exact fun W1 e1 Q q => (go W1 e1) (.all W1.H) (Le.refl _) Q fun cls d W3 e3 z => q cls d (W1.bk W3 e3) bk_le (exat_bk z)
  | ok x => exact fun W1 e1 Q q => (go W1 e1) (.all W1.H) (Le.refl _) Q fun v W3 e3 p => q v (W1.bk W3 e3) bk_le (hk x W1 W3 e3 v p)
theorem e_fv {te : TE} {k : Kd} (hk : KBk k) (z : FvW As Bs) (h : ∀ W0', Exp c W0' te Bs k) : Exp c W0 te As k := r_fv (X := fun _ _ _ _ => True) (m := R.ok ()) (k := fun _ => k) (fun _ => hk) z fun W0' => exr_p (k := fun _ => k) (x := ()) (h W0')
theorem tr_fv {tt : TT} {m : R Bool} (z : FvW As Bs) (h : ∀ W0', Txr c W0' X tt Bs m) : Txr c W0 X tt As m := fun σ W a => by
  have go : ∀ W1, Le W W1 → SatR m (EvT tt σ (.all W1.H)) (RzT c X tt σ (.all W1.H)) := fun W1 e => h _ σ _ ((a.mono e).allfv z)
  cases m with
  | no => trivial
  | ex e => exact fun W1 e1 Q q => (go W1 e1) (.all W1.H) (Le.refl _) Q fun cls d W3 e3 z => q cls d (W1.bk W3 e3) bk_le (exat_bk z)
  | ok x => exact fun W1 e1 Q q => (go W1 e1) (.all W1.H) (Le.refl _) Q fun W3 e3 => q (W1.bk W3 e3) bk_le
theorem t_fv {tt : TT} {b : Bool} (z : FvW As Bs) (h : ∀ W0', Txp c W0' tt Bs b) : Txp c W0 tt As b := tr_fv (X := fun _ _ _ _ => True) z fun W0' => txr_p (h W0')
end
end Fw

namespace Fw
open PySem L2
/-! ### tuples of ints and texts that are known to be just that: keys of dicts -/
class KA (α : Type) [Rp α] where
  key : α → L2.Key
  inj : ∀ a b, key a = key b → a = b
  ok : α → Prop
  rv : ∀ {K : Frag} {x : α} {v : V} {G : Hp}, Rp.rep K x v G → v = L2.kV (key x) ∧ ok x
  vr : ∀ {K : Frag} {x : α} {G : Hp}, ok x → Rp.rep K x (L2.kV (key x)) G
instance : KA Int := ⟨kI, kI_inj, fun _ => True, fun h => ⟨h, trivial⟩, fun _ => rfl⟩
instance : KA Str := ⟨kS, kS_inj, SOk, fun h => ⟨h.1, h.2⟩, fun h => ⟨rfl, h⟩⟩
class KT (α : Type) [Rp α] where
  ks : α → List L2.Key
  inj : ∀ a b, ks a = ks b → a = b
  ok : α → Prop
  rep : ∀ {K : Frag} {x : α} {p : Addr} {G : Hp}, G p = some (.tup ((ks x).map L2.kV)) → ok x → Rp.rep K x (.ref p) G
section
variable {α β γ δ : Type} [Rp α] [Rp β] [Rp γ] [Rp δ] [KA α] [KA β] [KA γ] [KA δ]
instance : KT (α × β) := ⟨fun x => [KA.key x.1, KA.key x.2], fun a b h => by
  injection h with h1 h2
  injection h2 with h2 _
  exact Prod.ext (KA.inj _ _ h1) (KA.inj _ _ h2), fun x => KA.ok x.1 ∧ KA.ok x.2, fun h o => ⟨_, _, _, rfl, .inl (.inl h), KA.vr o.1, KA.vr o.2⟩⟩
instance : KT (T4 α β γ δ) := ⟨fun x => [KA.key x.a, KA.key x.b, KA.key x.c, KA.key x.d], fun a b h => by
  injection h with h1 h2
  injection h2 with h2 h3
  injection h3 with h3 h4
  injection h4 with h4 _
  obtain ⟨a1, a2, a3, a4⟩ := a
  obtain ⟨b1, b2, b3, b4⟩ := b
  have q1 : a1 = b1 := KA.inj _ _ h1
  have q2 : a2 = b2 := KA.inj _ _ h2
  have q3 : a3 = b3 := KA.inj _ _ h3
  have q4 : a4 = b4 := KA.inj _ _ h4
  rw [q1, q2, q3, q4], fun x => KA.ok x.a ∧ KA.ok x.b ∧ KA.ok x.c ∧ KA.ok x.d, fun h o => ⟨_, _, _, _, _, rfl, .inl (.inl h), KA.vr o.1, KA.vr o.2.1, KA.vr o.2.2.1, KA.vr o.2.2.2⟩⟩
end
structure Ky (α : Type) where
  k : α
deriving DecidableEq
section
variable {α β γ δ : Type} [Rp α] [Rp β] [Rp γ] [Rp δ]
instance [KT α] : Rp (Ky α) := ⟨fun K x v G => ∃ p, v = .ref p ∧ G p = some (.tup ((KT.ks x.k).map L2.kV)) ∧ KT.ok x.k, fun s ⟨p, e, h, o⟩ => ⟨p, e, s _ _ h, o⟩⟩
instance [KT α] : Uf (Ky α) := ⟨fun t ⟨p, e, h, o⟩ => ⟨p, e, t p _ rfl h, o⟩⟩
theorem ky_rep [KT α] {K : Frag} {x : Ky α} {v : V} {G : Hp} (h : Rp.rep K x v G) : Rp.rep K x.k v G := by
  obtain ⟨p, e, h, o⟩ := h
  subst e
  exact KT.rep h o
def kyk [KT α] (x : Ky α) : List L2.Key := KT.ks x.k
theorem kyk_inj [KT α] : ∀ a b : Ky α, kyk a = kyk b → a = b := fun a b h => by
  obtain ⟨a⟩ := a
  obtain ⟨b⟩ := b
  exact congrArg Ky.mk (KT.inj a b h)
instance [KT α] [DecidableEq α] : DKy (Ky α) where
  ho kvs := .dT (kvs.map fun p => (kyk p.1, p.2))
  get := fun {K G H k y p kvs} ⟨b, r, hb, _⟩ s e => by
    subst r
    rw [← valV_inj kyk_inj k kvs]
    exact .inr ⟨_, kyk k, b, e, rfl, s _ _ hb, rfl⟩
  put := fun {K G H k y v p kvs} ⟨b, r, hb, _⟩ s e l => by
    subst r
    rw [← putK_inj kyk_inj k v kvs]
    exact DPut.t (k := kyk k) e (s _ _ hb) (by rw [List.length_map]; exact l)
  isD := fun e => .inr ⟨_, e⟩
  mu := fun _ => trivial
instance [KT α] [Pd α] : Pd (Ky α) := ⟨fun x => Pd.pd x.k, fun h => Pd.dp (ky_rep h), Pd.n α, fun h => Pd.dep (ky_rep h), fun h => Pd.lay (ky_rep h), fun x y => by
  rw [Pd.eq]
  exact ⟨fun h => by cases x; cases y; exact congrArg Ky.mk h, fun h => congrArg Ky.k h⟩⟩
instance [KT α] [Pd α] [AN α] : AN (Ky α) := ⟨fun a => AN.l a.k, fun a => AN.r a.k⟩
variable {c : Cn} {W0 : Wd} {X : WX} {As : List Sl} {K : Frag}
theorem e_ky [KT α] {te : TE} {x : Ky α} (h : Exp c W0 te As (kFr c.K x)) : Exp c W0 te As (kFr c.K x.k) := exp_w h fun _ _ _ => ky_rep
theorem r_ky [KT α] {te : TE} {m : R (Ky α)} (h : Exr c W0 X te As m fun x => kFr c.K x) : Exr c W0 X te As (m.bind fun x => .ok x.k) fun x => kFr c.K x := fun σ W a => by
  have h' := h σ W a
  cases m with
  | no => trivial
  | ex e => exact h'
  | ok x => exact fun W1 e Q q => h' W1 e Q fun v W2 e2 p => q v W2 e2 (ky_rep p)
/-! displays -/
theorem e_kyP [KA α] [KA β] {ta : TA} {x : α} {y : β} (h : Axp c W0 ta As (aCons (kFr c.K x) (aCons (kFr c.K y) aNil))) : Exp c W0 (tTup ta) As (kFr c.K (Ky.mk (x, y))) := fun σ W a W1 e Q q =>
  h σ W a W1 e _ fun vs W2 e2 ⟨v, r, ev, p1, w, r2, ew, p2, en⟩ => by
    subst ev ew en
    obtain ⟨e3, o3⟩ := KA.rv (show Rp.rep c.K x v W2.G from p1)
    obtain ⟨e4, o4⟩ := KA.rv (show Rp.rep c.K y w W2.G from p2)
    subst e3 e4
    exact ⟨by show 2 ≤ sizeLine; rw [sizeLine_eq]; decide, fun p hp => q _ (W2.nf p _) (e2.trans (Le.nf hp)) ⟨p, rfl, upd_same, o3, o4⟩⟩
theorem r_kyP [KA α] [KA β] {ta : TA} {m : R (α × β × Unit)} (h : Axr c W0 X ta As m fun z => aCons (kFr c.K z.1) (aCons (kFr c.K z.2.1) aNil)) : Exr c W0 X (tTup ta) As (m.bind fun z => .ok (Ky.mk (z.1, z.2.1))) fun x => kFr c.K x :=
  r_ofA (te := tTup) h (fun x _ h' => e_kyP h') fun _ _ _ => rz_tup
theorem e_kyQ [KA α] [KA β] [KA γ] [KA δ] {ta : TA} {x : α} {y : β} {z : γ} {t : δ} (h : Axp c W0 ta As (aCons (kFr c.K x) (aCons (kFr c.K y) (aCons (kFr c.K z) (aCons (kFr c.K t) aNil))))) : Exp c W0 (tTup ta) As (kFr c.K (Ky.mk (T4.mk x y z t))) := fun σ W a W1 e Q q =>
  h σ W a W1 e _ fun vs W2 e2 ⟨v, r, ev, p1, w, r2, ew, p2, u, r3, eu, p3, t', r4, et, p4, en⟩ => by
    subst ev ew eu et en
    obtain ⟨e3, o3⟩ := KA.rv (show Rp.rep c.K x v W2.G from p1)
    obtain ⟨e4, o4⟩ := KA.rv (show Rp.rep c.K y w W2.G from p2)
    obtain ⟨e5, o5⟩ := KA.rv (show Rp.rep c.K z u W2.G from p3)
    obtain ⟨e6, o6⟩ := KA.rv (show Rp.rep c.K t t' W2.G from p4)
    subst e3 e4 e5 e6
    exact ⟨by show 4 ≤ sizeLine; rw [sizeLine_eq]; decide, fun p hp => q _ (W2.nf p _) (e2.trans (Le.nf hp)) ⟨p, rfl, upd_same, o3, o4, o5, o6⟩⟩
theorem r_kyQ [KA α] [KA β] [KA γ] [KA δ] {ta : TA} {m : R (α × β × γ × δ × Unit)} (h : Axr c W0 X ta As m fun z => aCons (kFr c.K z.1) (aCons (kFr c.K z.2.1) (aCons (kFr c.K z.2.2.1) (aCons (kFr c.K z.2.2.2.1) aNil)))) :
    Exr c W0 X (tTup ta) As (m.bind fun z => .ok (Ky.mk (T4.mk z.1 z.2.1 z.2.2.1 z.2.2.2.1))) fun x => kFr c.K x :=
  r_ofA (te := tTup) h (fun x _ h' => e_kyQ h') fun _ _ _ => rz_tup
/-- (a, b) + (c, d) -/
theorem o_catK [KA α] [KA β] [KA γ] [KA δ] : Op2 (rCatA K) (fun x : α × β => kFr K x) (fun x : γ × δ => kFr K x) (fun x y => .ok (Ky.mk (T4.mk x.1 x.2 y.1 y.2))) (fun x : Ky (T4 α β γ δ) => kFr K x) := fun x y W0 W v w ⟨p, a, b, ev, hs, r1, r2⟩ ⟨p2, a2, b2, ev2, hs2, r3, r4⟩ Q q => by
  subst ev ev2
  obtain ⟨e3, o3⟩ := KA.rv r1
  obtain ⟨e4, o4⟩ := KA.rv r2
  obtain ⟨e5, o5⟩ := KA.rv r3
  obtain ⟨e6, o6⟩ := KA.rv r4
  subst e3 e4 e5 e6
  refine ⟨p, p2, [_, _], [_, _], rfl, rfl, W.sub.sqt hs, W.sub.sqt hs2, by show 4 ≤ sizeLine; rw [sizeLine_eq]; decide, fun e => (nomatch e), fun _ e => (nomatch e), fun _ _ b hb => ?_⟩
  exact q _ (W.nf b _) (Le.nf hb) ⟨b, rfl, upd_same, o3, o4, o5, o6⟩
end
/-! ### list(d), d of such keys -/
section
variable {α β : Type} [Rp α] [KT α] [DecidableEq α] [Rp β] {K : Frag}
theorem paired_get {α β : Type} {R : α → β → Prop} : ∀ {l : List α} {r : List β}, Paired R l r → l.length = r.length ∧ ∀ (i : Nat) (x : α) (y : β), l[i]? = some x → r[i]? = some y → R x y
  | [], [], _ => ⟨rfl, fun i x y h => by simp at h⟩
  | x :: l, y :: r, h => by
    cases h with
    | cons h1 h2 =>
      obtain ⟨e, k⟩ := paired_get h2
      refine ⟨by simp [e], fun i a b ha hb => ?_⟩
      cases i with
      | zero => cases ha; cases hb; exact h1
      | succ i => exact k i a b ha hb
  | [], _ :: _, h => by cases h
  | _ :: _, [], h => by cases h
open Classical in
@[irreducible] noncomputable def R.listDT (x : Dk (Ky α) β) : R (List (Ky α)) := if ∀ p ∈ x.l, KT.ok p.1.k then .ok (x.l.map (·.1)) else .no
theorem dr_fst {κ : Type} [DecidableEq κ] {G : Hp} : ∀ {x : List (κ × β)} {q : List (κ × V)}, DR K x q G → q.map (·.1) = x.map (·.1)
  | [], [], _ => rfl
  | a :: x, b :: q, h => by
    rw [List.map_cons, List.map_cons, dr_fst h.2.2, h.1]
  | [], _ :: _, h => h.elim
  | _ :: _, [], h => h.elim
theorem o_listDT : OpA (fun xs H Q => ∃ (d : Addr) (kvs : List (List L2.Key × V)), xs = [V.ref d] ∧ Rd H d (.dT kvs) ∧ ∀ p bs, H p = none → IsKeys H kvs bs → Q (.ref p) (upd H p (.lst (bs.map V.ref)))) (fun z : Dk (Ky α) β × Unit => aCons (kDs K z.1) aNil) (fun z => R.listDT z.1) (fun x : List (Ky α) => kNw K x) := fun z => by
  unfold R.listDT
  dsimp only
  by_cases ok : ∀ p ∈ z.1.l, KT.ok p.1.k
  · rw [if_pos ok]
    intro W0 W vs ⟨v, r, e, ⟨d, q, ev, hd, dr, l⟩, en⟩ Q qq
    subst e en ev
    refine ⟨d, _, rfl, hd, fun p bs hp ik => ?_⟩
    obtain ⟨hl, hk⟩ := paired_get ik
    have h1 := dr_fst dr
    have lq : q.length = z.1.l.length := by have := congrArg List.length h1; simpa using this
    refine qq _ (W.no p _ hp) (Le.no hp) (nw_list (Le.refl _) hp ⟨by rw [List.length_map, List.length_map, ← hl, List.length_map, lq], fun i x v ex ev => ?_⟩ (by rw [List.length_map]; exact l))
    rw [List.getElem?_map] at ex ev
    cases e1 : z.1.l[i]? with
    | none => rw [e1] at ex; cases ex
    | some y =>
      rw [e1] at ex
      cases ex
      cases e2 : bs[i]? with
      | none => rw [e2] at ev; cases ev
      | some b =>
        rw [e2] at ev
        cases ev
        have e3 : (q.map (·.1))[i]? = some y.1 := by rw [h1, List.getElem?_map, e1]; rfl
        rw [List.getElem?_map] at e3
        cases e4 : q[i]? with
        | none => rw [e4] at e3; cases e3
        | some t =>
          rw [e4] at e3
          have e5 : t.1 = y.1 := Option.some.inj e3
          have := hk i (kyk t.1, t.2) b (by rw [List.getElem?_map, e4]; rfl) e2
          have this2 : W.H b = some (.tup ((KT.ks t.1.k).map L2.kV)) := this
          rw [e5] at this2
          exact ⟨b, rfl, W.im b _ this2 rfl, ok y (List.mem_of_getElem? e1)⟩
  · rw [if_neg ok]; trivial
end
/-! ### orders -/
class Lt (α : Type) [Rp α] [Pd α] [DecidableEq α] where
  lt : α → α → Bool
  is : ∀ a b : α, PySem.W.dataLt (Pd.pd a) (Pd.pd b) = lt a b
  al : ∀ a b : α, PySem.W.alike (Pd.pd a) (Pd.pd b) = true
theorem dataLt_self' (d : PyData) : PySem.W.dataLt d d = false := PyProof.Rows.lex_irrefl _
instance : Lt Int := ⟨fun a b => decide (a < b), fun a b => PySem.W.dataLt_int a b, fun a b => by simp [Pd.pd, PySem.W.alike]⟩
instance : Lt Str := ⟨fun a b => decide (a.cps.toList < b.cps.toList), fun a b => PySem.W.dataLt_str a b, fun a b => by simp [Pd.pd, PySem.W.alike]⟩
section
variable {α β γ δ : Type} [Rp α] [Rp β] [Rp γ] [Rp δ] [Pd α] [Pd β] [Pd γ] [Pd δ] [DecidableEq α] [DecidableEq β] [DecidableEq γ] [DecidableEq δ] [Lt α] [Lt β] [Lt γ] [Lt δ]
theorem eqv_if {b : Bool} {x y : α} {t e : Bool} (h : b = PyData.eqv (Pd.pd x) (Pd.pd y)) : (if b = true then t else e) = if x = y then t else e := by
  subst h
  by_cases q : x = y
  · rw [if_pos q, if_pos ((Pd.eq x y).mpr q)]
  · rw [if_neg q, if_neg fun z => q ((Pd.eq x y).mp z)]
instance : Lt (α × β) := ⟨fun a b => if a.1 = b.1 then Lt.lt a.2 b.2 else Lt.lt a.1 b.1, fun a b => by
  show PySem.W.dataLt (.tuple [Pd.pd a.1, Pd.pd a.2]) (.tuple [Pd.pd b.1, Pd.pd b.2]) = _
  rw [PySem.W.dataLt_tuple, PySem.W.dataLt_cons (Lt.al _ _), eqv_if rfl, PySem.W.dataLt_cons (Lt.al _ _), eqv_if rfl, Lt.is, Lt.is]
  by_cases q : a.1 = b.1
  · rw [if_pos q, if_pos q]
    by_cases q2 : a.2 = b.2
    · rw [if_pos q2, q2, ← Lt.is, dataLt_self']; rfl
    · rw [if_neg q2]
  · rw [if_neg q, if_neg q], fun a b => by simp [Pd.pd, PySem.W.alike, PySem.W.alikeAll, Lt.al]⟩
instance : Lt (T4 α β γ δ) := ⟨fun a b => if a.a = b.a then (if a.b = b.b then (if a.c = b.c then Lt.lt a.d b.d else Lt.lt a.c b.c) else Lt.lt a.b b.b) else Lt.lt a.a b.a, fun a b => by
  show PySem.W.dataLt (.tuple [Pd.pd a.a, Pd.pd a.b, Pd.pd a.c, Pd.pd a.d]) (.tuple [Pd.pd b.a, Pd.pd b.b, Pd.pd b.c, Pd.pd b.d]) = _
  rw [PySem.W.dataLt_tuple, PySem.W.dataLt_cons (Lt.al _ _), eqv_if rfl, PySem.W.dataLt_cons (Lt.al _ _), eqv_if rfl, PySem.W.dataLt_cons (Lt.al _ _), eqv_if rfl, PySem.W.dataLt_cons (Lt.al _ _), eqv_if rfl, Lt.is, Lt.is, Lt.is, Lt.is]
  by_cases q2 : a.d = b.d
  · rw [if_pos q2, q2, ← Lt.is (Lt.lt (α := δ) b.d b.d |> fun _ => b.d) b.d, dataLt_self']; rfl
  · rw [if_neg q2], fun a b => by simp [Pd.pd, PySem.W.alike, PySem.W.alikeAll, Lt.al]⟩
instance [KT α] : Lt (Ky α) := ⟨fun a b => Lt.lt a.k b.k, fun a b => Lt.is (α := α) a.k b.k, fun a b => Lt.al (α := α) a.k b.k⟩
/-- what reads as its data -/
class Rdd (α : Type) [Rp α] [Pd α] where
  rd : ∀ {K : Frag} {G H : Hp} {x : α} {v : V}, Inc G H → Rp.rep K x v G → RdD K (Pd.pd x) v H
instance : Rdd Int := ⟨fun s h => by cases h; exact rd_int _⟩
instance : Rdd Str := ⟨fun s h => by
  cases h.1
  exact fun P w h u _ _ ⟨t, e⟩ => by rw [e]; exact .str _ t⟩
instance [Rdd α] [Rdd β] : Rdd (α × β) := ⟨fun s ⟨p, a, b, e, h, r1, r2⟩ => by
  subst e
  exact rd_tup (s.sqt h) (Al.cons (Rdd.rd s r1) (Al.one (Rdd.rd s r2)))⟩
instance [Rdd α] [Rdd β] [Rdd γ] [Rdd δ] : Rdd (T4 α β γ δ) := ⟨fun s ⟨p, a, b, c, d, e, h, r1, r2, r3, r4⟩ => by
  subst e
  exact rd_tup (s.sqt h) (Al.cons (Rdd.rd s r1) (Al.cons (Rdd.rd s r2) (Al.cons (Rdd.rd s r3) (Al.one (Rdd.rd s r4)))))⟩
instance [KT α] [Rdd α] : Rdd (Ky α) := ⟨fun {K G H x v} s h => Rdd.rd (α := α) (x := x.k) s (ky_rep h)⟩
end
/-! ### sorted(xs), xs tuples -/
def rSortD (K : Frag) : List V → Hp → VK → Prop := fun vs H Q => ∃ (a : Addr) (xs : List V) (kz : List PyData), vs = [V.ref a] ∧ SqL K H a xs ∧ Al (fun d v => RdD K d v H) kz xs ∧ PySem.W.AllAlike kz ∧ PySem.W.Sortable kz ∧ (∀ d ∈ kz, d.depth ≤ 8) ∧
  ∀ p, H p = none → Q (.ref p) (upd H p (.lst (((xs.zip kz).mergeSort (PySem.W.dataLe false Prod.snd)).map Prod.fst)))
section
open PySem.Spec PyProof.Rows PySem.Calls
variable {X : Cx} {k : Nat}
theorem cr_sortD (hr : Room k X.A) : CallR X (.builtin "sorted") (rSortD X.K) := by
  intro pins s σ H vs us Q I r h
  obtain ⟨a, xs, kz, rfl, hs, al, hal, hsk, hd, q⟩ := h
  obtain ⟨its, rv, hl, hz⟩ := I.list hs
  obtain ⟨u, rfl, ru⟩ := r.one
  obtain rfl : u = Value.ref a := ru
  have hl2 : its.length = xs.length := rv.length.symm
  have hkz : (xs.zip kz).map Prod.snd = kz := List.map_snd_zip (by rw [al.1]; exact Nat.le_refl _)
  have each : PySem.W.EachIs (fun u (b : V × PyData) => RelV b.1 u) its (xs.zip kz) := each_of (by rw [List.length_zip, hl2, al.1, Nat.min_self]) fun i u b eu eb => by
    obtain ⟨x, d⟩ := b
    rw [List.getElem?_zip_eq_some] at eb
    obtain ⟨u', eu', ru⟩ := rv.get eb.1
    have : u' = u := by rw [eu] at eu'; exact (Option.some.inj eu').symm
    subst this
    exact ru
  have rd : PySem.W.EachIs (fun u (b : V × PyData) => ∃ as, Reads s.heap u b.2 as) its (xs.zip kz) := each_of (by rw [List.length_zip, hl2, al.1, Nat.min_self]) fun i u b eu eb => by
    obtain ⟨x, d⟩ := b
    rw [List.getElem?_zip_eq_some] at eb
    obtain ⟨u', eu', ru⟩ := rv.get eb.1
    have : u' = u := by rw [eu] at eu'; exact (Option.some.inj eu').symm
    subst this
    exact ⟨[], al.2 i d x eb.2 eb.1 _ _ _ _ I.kIn I.hok ru⟩
  have hL : (xs.zip kz).length ≤ sizeLine := by rw [List.length_zip, al.1, Nat.min_self]; exact hz
  refine PySem.W.sorted_data (R := fun u (b : V × PyData) => RelV b.1 u) (enc := Prod.snd) (bs := xs.zip kz) hl.isList each rd (by rw [hkz]; exact hal) (by rw [hkz]; exact hsk) hL (fun b hb => ?_) fun out ho eo => ?_
  · have h1 := hr.un
    have h2 : b.2 ∈ kz := by rw [← hkz]; exact List.mem_map_of_mem hb
    have := hd _ h2
    omega
  · obtain ⟨ep, he'⟩ := PyProof.Rows.sortedAll_at s.heap its out.toArray
    have vo : Vals (((xs.zip kz).mergeSort (PySem.W.dataLe false Prod.snd)).map Prod.fst) out := each_vals eo
    have hlo : (((xs.zip kz).mergeSort (PySem.W.dataLe false Prod.snd)).map Prod.fst).length ≤ sizeLine := by
      rw [List.length_map, List.length_mergeSort]; exact hL
    exact ⟨.ref _, upd H (s.heap.objs.size + 1) (.lst (((xs.zip kz).mergeSort (PySem.W.dataLe false Prod.snd)).map Prod.fst)), I.laid (t' := s.toks) (fun _ _ => PyProof.Rows.sortedAll_old) (Nat.le_succ _) ⟨hlo, _, ep, vo, he'⟩, rfl, q _ (I.hok.fresh (Nat.le_succ _))⟩
end
section
variable {α : Type} [Rp α] [Pd α] [DecidableEq α] [Lt α] [Rdd α] {K : Frag}
def sortL (xs : List α) : List α := xs.mergeSort fun a b => !Lt.lt b a
class TupD (α : Type) [Rp α] [Pd α] where
  tup : ∀ x : α, ∃ d r, Pd.pd x = .tuple (d :: r)
theorem sortL_zip {xs : List α} {vs : List V} {ds : List PyData} (al : xs.length = vs.length) (hd : ds = xs.map Pd.pd) : ((vs.zip ds).mergeSort (PySem.W.dataLe false Prod.snd)).map Prod.fst = ((xs.zip vs).mergeSort fun s t => !Lt.lt t.1 s.1).map Prod.snd ∧ sortL xs = ((xs.zip vs).mergeSort fun s t => !Lt.lt t.1 s.1).map Prod.fst := by
  subst hd
  have ez : vs.zip (xs.map Pd.pd) = (xs.zip vs).map fun t => (t.2, Pd.pd t.1) := by
    refine List.ext_getElem? fun i => ?_
    rw [List.getElem?_map]
    cases e : xs[i]? with
    | none =>
      have h0 := List.getElem?_eq_none_iff.mp e
      rw [List.getElem?_eq_none (by rw [List.length_zip]; simp; omega), List.getElem?_eq_none (by rw [List.length_zip]; omega)]
      rfl
    | some y =>
      have hi : i < vs.length := by rw [← al]; exact (List.getElem?_eq_some_iff.mp e).1
      have ev : vs[i]? = some vs[i] := List.getElem?_eq_getElem hi
      rw [List.getElem?_zip_eq_some.mpr (show (vs[i]? = some (vs[i], Pd.pd y).1 ∧ (xs.map Pd.pd)[i]? = some (vs[i], Pd.pd y).2) from ⟨ev, by rw [List.getElem?_map, e]; rfl⟩), List.getElem?_zip_eq_some.mpr (show (xs[i]? = some (y, vs[i]).1 ∧ vs[i]? = some (y, vs[i]).2) from ⟨e, ev⟩)]
      rfl
  refine ⟨?_, ?_⟩
  · rw [ez, ← List.map_mergeSort (r := fun s t : α × V => !Lt.lt t.1 s.1) (s := PySem.W.dataLe false Prod.snd) (f := fun t : α × V => (t.2, Pd.pd t.1)) fun s _ t _ => ?_, List.map_map]
    · rfl
    · show (!Lt.lt t.1 s.1) = !PySem.W.dataLt (Pd.pd t.1) (Pd.pd s.1)
      rw [Lt.is]
  · unfold sortL
    rw [List.map_mergeSort (s := fun a b => !Lt.lt b a) fun s _ t _ => rfl, List.map_fst_zip (by rw [al]; exact Nat.le_refl _)]
theorem o_sortL [TupD α] (h8 : Pd.n α ≤ 8 := by decide) : OpA (rSortD K) (fun z : List α × Unit => aCons (kSh K z.1) aNil) (fun z => .ok (sortL z.1)) (fun x : List α => kNw K x) := fun z W0 W vs ⟨v, r, e, ⟨p, ls, ev, hs, al, l⟩, en⟩ Q q => by
  subst e en ev
  obtain ⟨e1, e2⟩ := sortL_zip (ds := z.1.map Pd.pd) al.1 rfl
  refine ⟨p, ls, z.1.map Pd.pd, rfl, hs, ⟨by rw [List.length_map]; exact al.1, fun i d v ed ev => ?_⟩, PySem.W.AllAlike.of fun a b => Lt.al a b, PySem.W.Sortable.tuples fun b => TupD.tup b, fun d hd => ?_, fun b hb => ?_⟩
  · rw [List.getElem?_map] at ed
    cases e : z.1[i]? with
    | none => rw [e] at ed; cases ed
    | some y =>
      rw [e] at ed
      cases ed
      exact Rdd.rd W.sub (al.2 i y v e ev)
  · obtain ⟨y, hy, rfl⟩ := List.mem_map.mp hd
    obtain ⟨i, hi, ei⟩ := List.getElem_of_mem hy
    obtain ⟨v, _, rv⟩ := al.get (List.getElem?_eq_some_iff.mpr ⟨hi, ei⟩)
    exact Nat.le_trans (Pd.dep rv) h8
  · refine q _ (W.no b _ hb) (Le.no hb) ?_
    show (kNw K (sortL z.1)).p W (.ref b) (W.no b _ hb)
    have hlen : (sortL z.1).length ≤ sizeLine := by unfold sortL; rw [List.length_mergeSort]; exact l
    refine nw_list (Le.refl _) hb ?_ hlen
    rw [e1, e2]
    refine ⟨by simp, fun i x v ex ev => ?_⟩
    rw [List.getElem?_map] at ex ev
    cases e : ((z.1.zip ls).mergeSort fun s t => !Lt.lt t.1 s.1)[i]? with
    | none => rw [e] at ex; cases ex
    | some t =>
      rw [e] at ex ev
      cases ex; cases ev
      have : t ∈ z.1.zip ls := (List.mergeSort_perm _ _).mem_iff.mp (List.mem_of_getElem? e)
      obtain ⟨j, hj, ej⟩ := List.getElem_of_mem this
      have e'' := List.getElem?_zip_eq_some.mp (show (z.1.zip ls)[j]? = some (t.1, t.2) from List.getElem?_eq_some_iff.mpr ⟨hj, ej⟩)
      exact al.2 j _ _ e''.1 e''.2
instance {α β : Type} [Rp α] [Rp β] [Pd α] [Pd β] : TupD (α × β) := ⟨fun x => ⟨_, _, rfl⟩⟩
instance {α β γ δ : Type} [Rp α] [Rp β] [Rp γ] [Rp δ] [Pd α] [Pd β] [Pd γ] [Pd δ] : TupD (T4 α β γ δ) := ⟨fun x => ⟨_, _, rfl⟩⟩
instance {α : Type} [Rp α] [KT α] [Pd α] [h : TupD α] : TupD (Ky α) := ⟨fun x => h.tup x.k⟩
end
end Fw

namespace Fw
open PySem L2
/-! ### the keys of a locked dict, tuples, walked -/
section
variable {c : Cn} {W0 : Wd} {X : WX} {As : List Sl} {α β : Type} [Rp α] [KT α] [DecidableEq α] [Rp β]
theorem i_keysK {te : TE} {m : R (Dk (Ky α) β)} (h : Exr c W0 X te As m fun x => kFr c.K x) : Ixr c W0 X (iKeys te) As (m.bind R.listDT) fun x => kFr c.K x := fun σ W a => by
  have h' := h σ W a
  cases m with
  | no => trivial
  | ex e => exact fun W1 e1 Q q => h' W1 e1 _ q
  | ok x =>
    show SatR (R.listDT x) _ _
    unfold R.listDT
    by_cases ok : ∀ p ∈ x.l, KT.ok p.1.k
    · rw [if_pos ok]
      refine fun W1 e1 Q q => h' W1 e1 _ fun v W2 e2 ⟨p, kv, o, ev, hp, al, l⟩ => ?_
      have hk : kv.map (·.1) = x.l.map (·.1) := dr_fst al
      refine ⟨p, o, ev, .inr ⟨_, W2.sub _ _ hp, q _ W2 e2 fun i W g => ?_⟩⟩
      have hs : W.H p = some (.frz o (.dT (kv.map fun p => (kyk p.1, p.2)))) := W.sub _ _ (g _ _ hp)
      have hlen : (kv.map fun p => (kyk p.1, p.2)).length = (x.l.map (·.1)).length := by rw [← hk]; simp
      refine ⟨fun hi => ⟨hs, by rw [hlen]; exact hi⟩, fun y hy => ?_⟩
      refine ⟨⟨hs, by rw [hlen]; exact (List.getElem?_eq_some_iff.mp hy).1⟩, fun v H' ⟨eh, k, w, b, e3, e4, e5⟩ => ⟨W, eh.symm, Le.refl _, ?_⟩⟩
      have hy' : y ∈ x.l.map (·.1) := List.mem_of_getElem? hy
      rw [← hk, List.getElem?_map] at hy
      rw [List.getElem?_map] at e3
      cases e6 : kv[i]? with
      | none => rw [e6] at hy; cases hy
      | some z =>
        rw [e6] at hy e3
        cases hy
        cases e3
        obtain ⟨t, ht, e7⟩ := List.mem_map.mp hy'
        have o2 := ok t ht
        rw [e7] at o2
        exact ⟨b, e4, W.im b _ e5 rfl, o2⟩
    · rw [if_neg ok]; trivial
end
/-! ### instances of own classes -/
/-- a field that is frozen -/
structure Fr (α : Type) where
  x : α
deriving DecidableEq
instance {α : Type} [Rp α] : Rp (Fr α) := ⟨fun K x v G => Rp.rep K x.x v G, fun s h => Rp.mono s h⟩
instance {α : Type} [Rp α] : Fz (Fr α) where
  own := fun K x v f W => f = [] ∧ Rp.rep K x.x v W.G
  keep := fun ⟨e, r⟩ s _ _ => ⟨e, Rp.mono s r⟩
  foot := fun ⟨e, r⟩ a ha => by subst e; cases ha
  fz := fun {K x v f W} ⟨e, r⟩ => Rp.mono Wd.fz_sub r
/-- fields -/
class Fs (φ : Type) where
  names : List Str
  own : Frag → φ → List (Str × V) → List Addr → Wd → Prop
  rep : Frag → φ → List (Str × V) → Hp → Prop
  nm : ∀ {K : Frag} {x : φ} {fs : List (Str × V)} {f : List Addr} {W : Wd}, own K x fs f W → fs.map (·.1) = names
  rm : ∀ {K : Frag} {x : φ} {fs : List (Str × V)} {G : Hp}, rep K x fs G → fs.map (·.1) = names
  mono : ∀ {K : Frag} {x : φ} {fs : List (Str × V)} {G H : Hp}, Inc G H → rep K x fs G → rep K x fs H
  keep : ∀ {K : Frag} {x : φ} {fs : List (Str × V)} {f : List Addr} {W W' : Wd}, own K x fs f W → Inc W.G W'.G → (∀ a ∈ f, W'.G a = none) → (∀ a ∈ f, W'.H a = W.H a) → own K x fs f W'
  foot : ∀ {K : Frag} {x : φ} {fs : List (Str × V)} {f : List Addr} {W : Wd}, own K x fs f W → ∀ a ∈ f, W.G a = none ∧ W.H a ≠ none
  fz : ∀ {K : Frag} {x : φ} {fs : List (Str × V)} {f : List Addr} {W : Wd}, own K x fs f W → rep K x fs (W.fz f).G
/-- none -/
structure Fn where
deriving DecidableEq
instance : Fs Fn where
  names := []
  own := fun _ _ fs f _ => fs = [] ∧ f = []
  rep := fun _ _ fs _ => fs = []
  nm := fun ⟨e, _⟩ => by rw [e]; rfl
  rm := fun e => by rw [e]; rfl
  mono := fun _ h => h
  keep := fun h _ _ _ => h
  foot := fun ⟨_, e⟩ a ha => by subst e; cases ha
  fz := fun ⟨e, _⟩ => e
/-- one more -/
structure Fd (φ : Type) (n : Str) (α : Type) where
  r : φ
  x : α
section
variable {φ φ' α β γ : Type} {n m : Str}
instance [Fs φ] [Fz α] : Fs (Fd φ n α) where
  names := Fs.names φ ++ [n]
  own := fun K x fs f W => ∃ fs' v f1 f2, fs = fs' ++ [(n, v)] ∧ f = f1 ++ f2 ∧ Fs.own K x.r fs' f1 W ∧ Ob.own K x.x v f2 W ∧ ∀ a ∈ f1, a ∉ f2
  rep := fun K x fs G => ∃ fs' v, fs = fs' ++ [(n, v)] ∧ Fs.rep K x.r fs' G ∧ Rp.rep K x.x v G
  nm := fun ⟨fs', v, f1, f2, e, _, o, _⟩ => by rw [e, List.map_append, Fs.nm o]; rfl
  rm := fun ⟨fs', v, e, o, _⟩ => by rw [e, List.map_append, Fs.rm o]; rfl
  mono := fun s ⟨fs', v, e, r1, r2⟩ => ⟨fs', v, e, Fs.mono s r1, Rp.mono s r2⟩
  keep := fun {K x fs f W W'} ⟨fs', v, f1, f2, e, ef, o1, o2, d⟩ s n k => by
    subst ef
    exact ⟨fs', v, f1, f2, e, rfl, Fs.keep o1 s (fun a ha => n a (List.mem_append_left _ ha)) (fun a ha => k a (List.mem_append_left _ ha)), Ob.keep o2 s (fun a ha => n a (List.mem_append_right _ ha)) (fun a ha => k a (List.mem_append_right _ ha)), d⟩
  foot := fun {K x fs f W} ⟨fs', v, f1, f2, e, ef, o1, o2, d⟩ a ha => by
    subst ef
    rcases List.mem_append.mp ha with z | z
    · exact Fs.foot o1 a z
    · exact Ob.foot o2 a z
  fz := fun {K x fs f W} ⟨fs', v, f1, f2, e, ef, o1, o2, d⟩ => by
    subst ef
    refine ⟨fs', v, e, Fs.mono (fun a o h => ?_) (Fs.fz o1), fz_more (Fz.fz o2) fun a ha => List.mem_append_right _ ha⟩
    by_cases q : a ∈ f1
    · rw [Wd.fz_in q] at h; rw [Wd.fz_in (List.mem_append_left _ q)]; exact h
    · rw [Wd.fz_ni q] at h
      by_cases q2 : a ∈ f1 ++ f2
      · rw [Wd.fz_in q2]; exact W.sub _ _ h
      · rw [Wd.fz_ni q2]; exact h
theorem fs_up [Fs φ] {K : Frag} {x : φ} {fs : List (Str × V)} {f : List Addr} {W W' : Wd} (h : Fs.own K x fs f W) (e : Le W W') : Fs.own K x fs f W' :=
  Fs.keep h e.g (fun a ha => e.o a (Fs.foot h a ha).1 (Fs.foot h a ha).2) fun a ha => by
    cases q : W.H a with
    | none => exact absurd q (Fs.foot h a ha).2
    | some u => exact e.h a u q
theorem lookup_app {fs : List (Str × V)} {n : Str} {v : V} {m : Str} (h : m ∉ fs.map (·.1)) : (fs ++ [(n, v)]).lookup m = if m = n then some v else none := by
  induction fs with
  | nil =>
    show List.lookup m [(n, v)] = _
    rw [List.lookup_cons]
    by_cases q : m = n
    · subst q; simp
    · rw [if_neg q, beq_false_of_ne q]; rfl
  | cons p fs ih =>
    obtain ⟨a, b⟩ := p
    rw [List.map_cons, List.mem_cons, not_or] at h
    show List.lookup m ((a, b) :: (fs ++ [(n, v)])) = _
    rw [List.lookup_cons, beq_false_of_ne h.1]
    exact ih h.2
theorem lookup_app_in {fs : List (Str × V)} {n : Str} {v : V} {m : Str} {w : V} (h : fs.lookup m = some w) : (fs ++ [(n, v)]).lookup m = some w := by
  induction fs with
  | nil => cases h
  | cons p fs ih =>
    obtain ⟨a, b⟩ := p
    rw [List.lookup_cons] at h
    show List.lookup m ((a, b) :: (fs ++ [(n, v)])) = _
    rw [List.lookup_cons]
    cases q : m == a with
    | true => rw [q] at h; exact h
    | false => rw [q] at h; exact ih h
theorem lookup_none {fs : List (Str × V)} {m : Str} (h : m ∉ fs.map (·.1)) : fs.lookup m = none := by
  induction fs with
  | nil => rfl
  | cons p fs ih =>
    obtain ⟨a, b⟩ := p
    rw [List.map_cons, List.mem_cons, not_or] at h
    rw [List.lookup_cons, beq_false_of_ne h.1]
    exact ih h.2
theorem putF_new {fs : List (Str × V)} {n : Str} {v : V} (h : n ∉ fs.map (·.1)) : putF n v fs = fs ++ [(n, v)] := by
  induction fs with
  | nil => rfl
  | cons p fs ih =>
    obtain ⟨a, b⟩ := p
    rw [List.map_cons, List.mem_cons, not_or] at h
    unfold putF
    rw [if_neg (Ne.symm h.1), ih h.2]
    rfl
/-- a field among others, perhaps exchanged by one of another kind -/
structure Sel (φ φ' : Type) [Fs φ] [Fs φ'] (n : Str) (α β : Type) [Fz α] [Fz β] where
  get : φ → α
  set : φ → β → φ'
  rep : ∀ {K : Frag} {x : φ} {fs : List (Str × V)} {G : Hp}, Fs.rep K x fs G → ∃ v, fs.lookup n = some v ∧ Rp.rep K (get x) v G
  chg : ∀ {K : Frag} {x : φ} {fs : List (Str × V)} {f : List Addr} {W : Wd}, Fs.own K x fs f W → ∃ v f1, fs.lookup n = some v ∧ Ob.own K (get x) v f1 W ∧ (∀ a ∈ f1, a ∈ f) ∧
    (∀ (W' : Wd) (y : β) f1', Inc W.G W'.G → (∀ a ∈ f, a ∉ f1 → W'.G a = none ∧ W'.H a = W.H a) → Ob.own K y v f1' W' → (∀ a ∈ f1', a ∈ f1 ∨ W.H a = none) → ∃ f', Fs.own K (set x y) fs f' W' ∧ ∀ a ∈ f', a ∈ f ∨ W.H a = none) ∧
    ∀ (W' : Wd) f1', Inc W.G W'.G → (∀ a ∈ f, a ∉ f1 → W'.G a = none ∧ W'.H a = W.H a) → Ob.own K (get x) v f1' W' → (∀ a ∈ f1', a ∈ f1 ∨ W.H a = none) → ∃ f', Fs.own K x fs f' W' ∧ ∀ a ∈ f', a ∈ f ∨ W.H a = none
def Sel.here [Fs φ] [Fz α] [Fz β] (hn : n ∉ Fs.names φ) : Sel (Fd φ n α) (Fd φ n β) n α β where
  get := fun x => x.x
  set := fun x y => ⟨x.r, y⟩
  rep := fun {K x fs G} ⟨fs', v, e, r1, r2⟩ => ⟨v, by
    rw [e, lookup_app (by rw [Fs.rm r1]; exact hn), if_pos rfl], r2⟩
  chg := fun {K x fs f W} ⟨fs', v, f1, f2, e, ef, o1, o2, d⟩ => by
    subst ef
    have go : ∀ {δ : Type} [Fz δ] (W' : Wd) (y : δ) f2', Inc W.G W'.G → (∀ a ∈ f1 ++ f2, a ∉ f2 → W'.G a = none ∧ W'.H a = W.H a) → Ob.own K y v f2' W' → (∀ a ∈ f2', a ∈ f2 ∨ W.H a = none) → ∃ f', Fs.own K (Fd.mk x.r y : Fd φ n δ) fs f' W' ∧ ∀ a ∈ f', a ∈ f1 ++ f2 ∨ W.H a = none := fun {δ} _ W' y f2' s k o' hf => by
      have nk : ∀ a ∈ f1, a ∉ f2' := fun a ha hb => by
        rcases hf a hb with z | z
        · exact d a ha z
        · exact (Fs.foot o1 a ha).2 z
      refine ⟨f1 ++ f2', ⟨fs', v, f1, f2', e, rfl, Fs.keep o1 s (fun a ha => (k a (List.mem_append_left _ ha) (d a ha)).1) (fun a ha => (k a (List.mem_append_left _ ha) (d a ha)).2), o', nk⟩, fun a ha => ?_⟩
      rcases List.mem_append.mp ha with z | z
      · exact .inl (List.mem_append_left _ z)
      · exact (hf a z).imp (List.mem_append_right _) id
    exact ⟨v, f2, by rw [e, lookup_app (by rw [Fs.nm o1]; exact hn), if_pos rfl], o2, fun a ha => List.mem_append_right _ ha, fun W' y f2' s k o' hf => go W' y f2' s k o' hf, fun W' f2' s k o' hf => go W' x.x f2' s k o' hf⟩
def Sel.up [Fs φ] [Fs φ'] [Fz α] [Fz β] [Fz γ] (s : Sel φ φ' n α β) : Sel (Fd φ m γ) (Fd φ' m γ) n α β where
  get := fun x => s.get x.r
  set := fun x y => ⟨s.set x.r y, x.x⟩
  rep := fun {K x fs G} ⟨fs', v, e, r1, r2⟩ => by
    obtain ⟨w, hw, r⟩ := s.rep r1
    exact ⟨w, by rw [e]; exact lookup_app_in hw, r⟩
  chg := fun {K x fs f W} ⟨fs', v, f1, f2, e, ef, o1, o2, d⟩ => by
    subst ef
    obtain ⟨w, g1, hw, ow, sg, k1, k0⟩ := s.chg o1
    have dg : ∀ a ∈ f2, a ∉ g1 := fun a ha hb => d a (sg a hb) ha
    have go : ∀ {ψ : Type} [Fs ψ] (z : ψ) (W' : Wd) (f1' : List Addr), Inc W.G W'.G → (∀ a ∈ f1 ++ f2, a ∉ g1 → W'.G a = none ∧ W'.H a = W.H a) → Fs.own K z fs' f1' W' → (∀ a ∈ f1', a ∈ f1 ∨ W.H a = none) → ∃ f', Fs.own K (Fd.mk z x.x : Fd ψ m γ) fs f' W' ∧ ∀ a ∈ f', a ∈ f1 ++ f2 ∨ W.H a = none := fun {ψ} _ z W' f1' si k of hf1 => by
      refine ⟨f1' ++ f2, ⟨fs', v, f1', f2, e, rfl, of, Ob.keep o2 si (fun a ha => (k a (List.mem_append_right _ ha) (dg a ha)).1) (fun a ha => (k a (List.mem_append_right _ ha) (dg a ha)).2), fun a ha hb => ?_⟩, fun a ha => ?_⟩
      · rcases hf1 a ha with z | z
        · exact d a z hb
        · exact (Ob.foot o2 a hb).2 z
      · rcases List.mem_append.mp ha with z | z
        · exact (hf1 a z).imp (List.mem_append_left _) id
        · exact .inl (List.mem_append_right _ z)
    refine ⟨w, g1, by rw [e]; exact lookup_app_in hw, ow, fun a ha => List.mem_append_left _ (sg a ha), fun W' y g1' si k o' hf => ?_, fun W' g1' si k o' hf => ?_⟩
    · obtain ⟨f1', of, hf1⟩ := k1 W' y g1' si (fun a ha hn => k a (List.mem_append_left _ ha) hn) o' hf
      exact go (s.set x.r y) W' f1' si k of hf1
    · obtain ⟨f1', of, hf1⟩ := k0 W' g1' si (fun a ha hn => k a (List.mem_append_left _ ha) hn) o' hf
      exact go x.r W' f1' si k of hf1
/-- an instance of the class named so -/
structure Ins (cls : Str) (φ : Type) where
  f : φ
variable {cls : Str}
instance [Fs φ] : Fz (Ins cls φ) where
  rep := fun K x v G => ∃ p C dx fs, v = .ref p ∧ G p = some (.ins C dx fs) ∧ PySem.W.nsIn K mainGlobals cls = some (some (.ref C)) ∧ Fs.rep K x.f fs G
  mono := fun s ⟨p, C, dx, fs, e, h, hc, r⟩ => ⟨p, C, dx, fs, e, s _ _ h, hc, Fs.mono s r⟩
  own := fun K x v f W => ∃ p C dx fs f1, v = .ref p ∧ f = p :: f1 ∧ p ∉ f1 ∧ W.G p = none ∧ W.H p = some (.ins C dx fs) ∧ PySem.W.nsIn K mainGlobals cls = some (some (.ref C)) ∧ Fs.own K x.f fs f1 W
  keep := fun {K x v f W W'} ⟨p, C, dx, fs, f1, e, ef, np, g, h, hc, o⟩ s n k => by
    subst ef
    exact ⟨p, C, dx, fs, f1, e, rfl, np, n p List.mem_cons_self, (k p List.mem_cons_self).trans h, hc, Fs.keep o s (fun a ha => n a (List.mem_cons_of_mem _ ha)) fun a ha => k a (List.mem_cons_of_mem _ ha)⟩
  foot := fun {K x v f W} ⟨p, C, dx, fs, f1, e, ef, np, g, h, hc, o⟩ a ha => by
    subst ef
    rcases List.mem_cons.mp ha with z | z
    · subst z; exact ⟨g, by rw [h]; exact fun z => nomatch z⟩
    · exact Fs.foot o a z
  fz := fun {K x v f W} ⟨p, C, dx, fs, f1, e, ef, np, g, h, hc, o⟩ => by
    subst ef
    refine ⟨p, C, dx, fs, e, (Wd.fz_in List.mem_cons_self).trans h, hc, Fs.mono (fun a u q => ?_) (Fs.fz o)⟩
    by_cases z : a ∈ f1
    · rw [Wd.fz_in z] at q; rw [Wd.fz_in (List.mem_cons_of_mem _ z)]; exact q
    · rw [Wd.fz_ni z] at q
      by_cases z2 : a ∈ p :: f1
      · rw [Wd.fz_in z2]; exact W.sub _ _ q
      · rw [Wd.fz_ni z2]; exact q
/-- what the text says of a class: its place, plain, none of the fields is one of its names -/
structure ClT (K : Frag) (cls : Str) (C : Addr) (ns : List Str) : Prop where
  at_ : PySem.W.nsIn K mainGlobals cls = some (some (.ref C))
  cl : Cls K C
  no : ∀ n ∈ ns, NoAttr K C n
theorem ClT.eq {K : Frag} {C C' : Addr} {ns : List Str} (h : ClT K cls C ns) (e : PySem.W.nsIn K mainGlobals cls = some (some (.ref C'))) : C' = C := by
  rw [h.at_] at e
  cases e; rfl
end
section
variable {φ φ' α β γ : Type} {n cls : Str} [Fs φ] [Fs φ'] {c : Cn} {W0 : Wd} {X : WX} {As : List Sl} {C : Addr} {ns : List Str}
/-- a field of a frozen instance -/
theorem e_fld [Fz α] [Fz β] {te : TE} {x : Ins cls φ} (s : Sel φ φ' n α β) (ct : ClT c.K cls C ns) (hn : n ∈ ns) (h : Exp c W0 te As (kFr c.K x)) : Exp c W0 (tFld c.K te n) As (kFr c.K (s.get x.f)) := fun σ W a W1 e Q q =>
  h σ W a W1 e _ fun v W2 e2 ⟨p, C', dx, fs, ev, hp, hc, r⟩ => by
    obtain rfl := ct.eq hc
    obtain ⟨w, hw, rw_⟩ := s.rep r
    exact ⟨p, _, dx, fs, w, ev, W2.sub _ _ hp, ct.cl, ct.no n hn, hw, q w W2 e2 rw_⟩
theorem r_fld' [Fz α] [Fz β] {te : TE} {m : R (Ins cls φ)} (s : Sel φ φ' n α β) (ct : ClT c.K cls C ns) (hn : n ∈ ns) (h : Exr c W0 X te As m fun x => kFr c.K x) : Exr c W0 X (tFld c.K te n) As (m.bind fun x => .ok (s.get x.f)) fun x => kFr c.K x := fun σ W a => by
  cases m with
  | no => trivial
  | ex e => exact fun W1 e1 Q q => h σ W a W1 e1 _ q
  | ok x => exact e_fld s ct hn (fun σ W a => by exact h σ W a) σ W a
theorem e_frx [Rp α] {te : TE} {x : Fr α} (h : Exp c W0 te As (kFr c.K x)) : Exp c W0 te As (kFr c.K x.x) := exp_w h fun _ _ _ p => p
/-- a frozen field of one's own instance -/
theorem e_fldO [Rp α] [Fz β] {x : Ins cls φ} {pin : Option V} (s : Sel φ φ' n (Fr α) β) (ct : ClT c.K cls C ns) (hn : n ∈ ns) (i : Nat) (hi : As[i]? = some (.ow pin x)) : Exp c W0 (tFld c.K (tVar i) n) As (kFr c.K (s.get x.f).x) := fun σ W a W1 e Q q => by
  obtain ⟨v, f, hv, o, _⟩ := (a.mono e).varO hi
  obtain ⟨p, C', dx, fs, f1, ev, ef, np, g, hp, hc, of⟩ := o
  obtain rfl := ct.eq hc
  obtain ⟨w, g1, hw, ⟨_, r⟩, _⟩ := s.chg of
  exact ⟨v, hv, p, _, dx, fs, w, ev, hp, ct.cl, ct.no n hn, hw, q w W1 (Le.refl _) r⟩
end
section
variable {φ φ' α β κ : Type} {n cls : Str} [Fs φ] [Fs φ'] {J S ρ : Type} {c : Cn} {X : WX} {kr : ρ → Kd} {Ls : List Sl} {Js : J → List Sl} {B : Bd} {As : List Sl} {Bs : S → List Sl} {C : Addr} {ns : List Str}
theorem set_same.{u} {α : Type u} {l : List α} {i : Nat} {x : α} (h : l[i]? = some x) : l.set i x = l := by
  refine List.ext_getElem? fun j => ?_
  rw [List.getElem?_set]
  by_cases q : i = j
  · subst q
    rw [if_pos rfl, h, if_pos (List.getElem?_eq_some_iff.mp h).1]
  · rw [if_neg q]
/-- the owned thing of slot i changes, to a thing of any kind -/
theorem At.chgG {K : Frag} {W0 W : Wd} {As : List Sl} {σ : St} {i : Nat} {α : Type} [Ob α] {x : α} {pin : Option V} (h : At K W0 As σ W) (hi : As[i]? = some (.ow pin x)) :
    ∃ v f, σ[i]? = some (some v) ∧ Ob.own K x v f W ∧ (∀ a ∈ f, W0.H a = none) ∧ ∀ (β : Type) (_ : Ob β) (y : β) (W' : Wd) (f' : List Addr), Inc W.G W'.G → (∀ a, a ∉ f → W.G a = none → W.H a ≠ none → W'.G a = none) → (∀ a, a ∉ f → W.H a ≠ none → W'.H a = W.H a) →
      Ob.own K y v f' W' → (∀ a ∈ f', a ∈ f ∨ W.H a = none) → At K W0 (As.set i (.ow pin y)) σ W' := by
  obtain ⟨l, le, F, h1, h2, h3⟩ := h
  have hl : i < σ.length := l ▸ (List.getElem?_eq_some_iff.mp hi).1
  obtain ⟨v, e, r, pn⟩ := h1 i _ _ hi (List.getElem?_eq_getElem hl)
  refine ⟨v, F i, by rw [List.getElem?_eq_getElem hl, e], r, fun a ha => (h3 i a ha).2.2, fun β _ y W' f' sg so sh r' hf => ?_⟩
  have z0 : ∀ a ∈ f', W0.H a = none := fun a ha => by
    rcases hf a ha with q | q
    · exact (h3 i a q).2.2
    · exact le.h.nope q
  have lw : Le W0 W' := ⟨le.g.trans sg, fun a o q => by
    have n0 : W0.H a ≠ none := by rw [q]; exact fun z => nomatch z
    have w := le.h a o q
    rw [sh a (fun ha => n0 ((h3 i a ha).2.2)) (by rw [w]; exact fun z => nomatch z)]
    exact w, fun a g n => so a (fun ha => n ((h3 i a ha).2.2)) (le.o a g n) (fun q => n (le.h.nope q))⟩
  refine ⟨by simp [l], lw, fun j => if j = i then f' else F j, fun j B p a b => ?_, fun j k a n ha hb => ?_, fun j a ha => ?_⟩
  · by_cases q : i = j
    · subst q
      rw [get_set_eq a]
      rw [List.getElem?_eq_getElem hl, e] at b
      cases b
      simp only [if_true]
      exact ⟨v, rfl, r', pn⟩
    · rw [get_set_ne q] at a
      dsimp only
      rw [if_neg (Ne.symm q)]
      have hd := h1 j B p a b
      cases B with
      | un => trivial
      | fr x => obtain ⟨v, e1, r⟩ := hd; exact ⟨v, e1, Rp.mono sg r⟩
      | ow x =>
        obtain ⟨v, e1, r, pn⟩ := hd
        exact ⟨v, e1, Ob.keep r sg (fun a ha => so a (fun z => h2 j i a (Ne.symm q) ha z) (h3 j a ha).1 (h3 j a ha).2.1) fun a ha => sh a (fun z => h2 j i a (Ne.symm q) ha z) (h3 j a ha).2.1, pn⟩
  · dsimp only at ha hb
    split at ha
    · split at hb
      · rename_i c d; exact n (c.trans d.symm)
      · rename_i c d
        rcases hf a ha with q | q
        · exact h2 i k a (Ne.symm d) q hb
        · exact (h3 k a hb).2.1 q
    · split at hb
      · rename_i c d
        rcases hf a hb with q | q
        · exact h2 j i a c ha q
        · exact (h3 j a ha).2.1 q
      · exact h2 j k a n ha hb
  · dsimp only at ha
    split at ha
    · exact ⟨(Ob.foot r' a ha).1, (Ob.foot r' a ha).2, z0 a ha⟩
    · rename_i c
      obtain ⟨g, n, z⟩ := h3 j a ha
      refine ⟨so a (fun q => h2 j i a c ha q) g n, ?_, z⟩
      rw [sh a (fun q => h2 j i a c ha q) n]
      exact n
/-- the part of one's own instance that a field is, changed in place -/
theorem At.fld [Fz α] [Fz β] {W0 W : Wd} {σ : St} {x : Ins cls φ} {pin : Option V} {i : Nat} {K : Frag} (s : Sel φ φ' n α β) (ct : ClT K cls C ns) (h : At K W0 As σ W) (hi : As[i]? = some (.ow pin x)) :
    ∃ p dx fs w g1, σ[i]? = some (some (.ref p)) ∧ W.H p = some (.ins C dx fs) ∧ fs.lookup n = some w ∧ Ob.own K (s.get x.f) w g1 W ∧ W.G p = none ∧ p ∉ g1 ∧
      (∀ (W' : Wd) (y : β) g1', LeX W g1 W' → Ob.own K y w g1' W' → (∀ a ∈ g1', a ∈ g1 ∨ W.H a = none) → At K W0 (As.set i (.ow pin (Ins.mk (s.set x.f y) : Ins cls φ'))) σ W') ∧
      ∀ (W' : Wd) g1', LeX W g1 W' → Ob.own K (s.get x.f) w g1' W' → (∀ a ∈ g1', a ∈ g1 ∨ W.H a = none) → At K W0 As σ W' := by
  obtain ⟨v, f, hv, o, n0, chg⟩ := h.chgG hi
  obtain ⟨p, C', dx, fs, f1, ev, ef, np, g, hp, hc, of⟩ := o
  obtain rfl := ct.eq hc
  subst ev ef
  obtain ⟨w, g1, hw, ow, sg, k1, k0⟩ := s.chg of
  have pg1 : p ∉ g1 := fun z => np (sg p z)
  have hpn : W.H p ≠ none := by rw [hp]; exact fun z => nomatch z
  have go : ∀ {ψ : Type} [Fs ψ] (z : ψ) (W' : Wd) (f' : List Addr), LeX W g1 W' → Fs.own K z fs f' W' → (∀ a ∈ f', a ∈ f1 ∨ W.H a = none) → At K W0 (As.set i (.ow pin (Ins.mk z : Ins cls ψ))) σ W' := fun {ψ} _ z W' f' lx of' hf' => by
    have pf' : p ∉ f' := fun z => by
      rcases hf' p z with q | q
      · exact np q
      · exact hpn q
    refine chg (Ins cls ψ) _ _ W' (p :: f') lx.g (fun a ha g n => lx.o a (fun z => ha (List.mem_cons_of_mem _ (sg a z))) g n) (fun a ha n => lx.h a (fun z => ha (List.mem_cons_of_mem _ (sg a z))) n) ?_ fun a ha => ?_
    · exact ⟨p, _, dx, fs, f', rfl, rfl, pf', lx.o p pg1 g hpn, (lx.h p pg1 hpn).trans hp, hc, of'⟩
    · rcases List.mem_cons.mp ha with z | z
      · exact .inl (by rw [z]; exact List.mem_cons_self)
      · exact (hf' a z).imp (List.mem_cons_of_mem _) id
  refine ⟨p, dx, fs, w, g1, hv, hp, hw, ow, g, pg1, fun W' y g1' lx o' hf => ?_, fun W' g1' lx o' hf => ?_⟩
  · obtain ⟨f', of', hf'⟩ := k1 W' y g1' lx.g (fun a ha hn => ⟨lx.o a hn (Fs.foot of a ha).1 (Fs.foot of a ha).2, lx.h a hn (Fs.foot of a ha).2⟩) o' hf
    exact go _ W' f' lx of' hf'
  · obtain ⟨f', of', hf'⟩ := k0 W' g1' lx.g (fun a ha hn => ⟨lx.o a hn (Fs.foot of a ha).1 (Fs.foot of a ha).2, lx.h a hn (Fs.foot of a ha).2⟩) o' hf
    have := go x.f W' f' lx of' hf'
    have e2 : As.set i (.ow pin (Ins.mk x.f : Ins cls φ)) = As := set_same hi
    rwa [e2] at this
end
end Fw

namespace Fw
open PySem L2
/-! ### places: parts of one's own things, changed where they stand -/
theorem lx_of {A W W' : Wd} {f : List Addr} (e : Le A W) (lx : LeX W f W') : LeX A f W' := ⟨e.g.trans lx.g, fun a n g m => lx.o a n (e.o a g m) (fun z => m (e.h.nope z)), fun a n m => by
  rw [lx.h a n (fun z => m (e.h.nope z))]
  cases q : A.H a with
  | none => exact absurd q m
  | some o => exact e.h a o q⟩
theorem le_lx {W W' : Wd} {f : List Addr} (e : Le W W') : LeX W f W' := ⟨e.g, fun a _ g m => e.o a g m, fun a _ m => by
  cases q : W.H a with
  | none => exact absurd q m
  | some o => exact e.h a o q⟩
theorem lx_mono {W W' : Wd} {f g : List Addr} (h : ∀ a ∈ f, a ∈ g) (lx : LeX W f W') : LeX W g W' := ⟨lx.g, fun a n => lx.o a (fun z => n (h a z)), fun a n => lx.h a (fun z => n (h a z))⟩
theorem lx_mt {W : Wd} {p : Addr} {o : HO} {g : W.G p = none} {hi : imm o = false} : LeX W [p] (W.mt p o g hi) := ⟨Inc.refl _, fun a _ h _ => h, fun a n _ => upd_ne (fun z => n (List.mem_singleton.mpr z))⟩
/-- td tells the place of a thing x; changed to y there, the slots are up y -/
def Plc (c : Cn) (W0 : Wd) (td : TE) (As : List Sl) {α β : Type} [Ob α] [Ob β] (x : α) (up : β → List Sl) : Prop := ∀ σ W, At c.K W0 As σ W → ∃ v f,
  (∀ W1, Le W W1 → ∀ Q : VK, (∀ W2, Le W1 W2 → Q v W2.H) → td σ W1.H Q) ∧ Ob.own c.K x v f W ∧ (∀ W1, Le W W1 → ∀ (W' : Wd) (y : β) (f' : List Addr), LeX W1 f W' → Ob.own c.K y v f' W' → (∀ a ∈ f', a ∈ f ∨ W1.H a = none) → At c.K W0 (up y) σ W') ∧
  ∀ W1, Le W W1 → ∀ (W' : Wd) (f' : List Addr), LeX W1 f W' → Ob.own c.K x v f' W' → (∀ a ∈ f', a ∈ f ∨ W1.H a = none) → At c.K W0 As σ W'
section
variable {α β γ κ : Type} {c : Cn} {W0 : Wd} {X : WX} {As : List Sl}
theorem plc_var [Ob α] [Ob β] {x : α} {pin : Option V} (i : Nat) (hi : As[i]? = some (.ow pin x)) : Plc c W0 (tVar i) As x (fun y : β => As.set i (.ow pin y)) := fun σ W a => by
  obtain ⟨v, f, hv, o, n0, chg⟩ := a.chgG hi
  refine ⟨v, f, fun W1 e Q q => ⟨v, hv, q W1 (Le.refl _)⟩, o, fun W1 e W' y f' lx o' hf => ?_, fun W1 e W' f' lx o' hf => ?_⟩
  · have lx' := lx_of e lx
    exact chg β _ y W' f' lx'.g lx'.o lx'.h o' fun b hb => (hf b hb).imp id fun z => e.h.nope z
  · have lx' := lx_of e lx
    have := chg α _ x W' f' lx'.g lx'.o lx'.h o' fun b hb => (hf b hb).imp id fun z => e.h.nope z
    rwa [set_same hi] at this
variable {φ φ' : Type} {n cls : Str} [Fs φ] [Fs φ'] {C : Addr} {ns : List Str}
theorem plc_fld [Fz α] [Fz β] {x : Ins cls φ} {pin : Option V} (s : Sel φ φ' n α β) (ct : ClT c.K cls C ns) (hn : n ∈ ns) (i : Nat) (hi : As[i]? = some (.ow pin x)) : Plc c W0 (tFld c.K (tVar i) n) As (s.get x.f) (fun y : β => As.set i (.ow pin (Ins.mk (s.set x.f y) : Ins cls φ'))) := fun σ W a => by
  obtain ⟨p, dx, fs, w, g1, hv, hp, hw, ow, g, np, k, k0⟩ := a.fld s ct hi
  refine ⟨w, g1, fun W1 e Q q => ⟨_, hv, p, C, dx, fs, w, rfl, e.h _ _ hp, ct.cl, ct.no n hn, hw, q W1 (Le.refl _)⟩, ow, fun W1 e W' y f' lx o' hf => k W' y f' (lx_of e lx) o' fun b hb => (hf b hb).imp id fun z => e.h.nope z, fun W1 e W' f' lx o' hf => k0 W' f' (lx_of e lx) o' fun b hb => (hf b hb).imp id fun z => e.h.nope z⟩
end
/-! ### changes -/
section
variable {α β γ κ τ : Type} {J S ρ : Type} {c : Cn} {X : WX} {kr : ρ → Kd} {Ls : List Sl} {Js : J → List Sl} {B : Bd} {As : List Sl} {Bs : S → List Sl}
/-- P.append(e) -/
theorem d_appP [Rp α] {td te : TE} {u : TS} {xs : List α} {up : List α → List Sl} {m : R α} {k : List α → Out S J ρ} (pl : Plc c B.W0 td As xs up) (lx : Lx Ls As) (h : Exr c B.W0 X te As m fun x => kFr c.K x) (hk : ∀ ys : List α, Den c X kr Ls Js B u (up ys) (k ys) Bs) :
    Den c X kr Ls Js B (tSeq (tDrop (tBM c.K "list" rAppend td (tCons te tNil))) u) As (m.to fun y => (R.app xs y).to k) Bs := fun D σ W a f => by
  have h' := h σ W a
  obtain ⟨v, fp, ev, o, chg, _⟩ := pl σ W a
  obtain ⟨p, vs, ew, ef, g, hh, al, l⟩ := o
  subst ew ef
  refine ev W (Le.refl _) _ fun Wa ea => ⟨.inl ⟨rfl, vs, .inl (.inl (ea.h _ _ hh))⟩, ?_⟩
  cases m with
  | no => exact False.elim f
  | ex e => exact h' Wa ea _ fun cls d W2 e2 z => f cls d σ W2 (lx_at lx (a.mono (ea.trans e2))) z
  | ok y =>
    refine h' Wa ea _ fun w W2 eb r => ?_
    have e := ea.trans eb
    have f' : Fin c X kr Ls Js B Bs D (R.to (if xs.length < sizeLine then R.ok (xs ++ [y]) else R.no) k) := by
      have f2 : Fin c X kr Ls Js B Bs D ((R.app xs y).to k) := f
      unfold R.app at f2
      exact f2
    have g2 : W2.G p = none := e.o p g (by rw [hh]; exact fun z => nomatch z)
    by_cases cz : xs.length < sizeLine
    · rw [if_pos cz] at f'
      refine ⟨p, vs, w, rfl, rfl, e.h _ _ hh, al.1 ▸ cz, ?_⟩
      exact hk _ D _ _ (chg W2 e (W2.mt p (.lst (vs ++ [w])) g2) _ [p] lx_mt ⟨p, _, rfl, rfl, g2, upd_same, (al_mono al e.g).app (Al.one r), by simp; omega⟩ fun b hb => .inl hb) f'
    · rw [if_neg cz] at f'
      exact False.elim f'
variable [DecidableEq κ] [Rp κ] [DKy κ]
/-- P[k] = e -/
theorem d_dputP [Rp α] {td te ti : TE} {u : TS} {xs : Dq κ α} {up : Dq κ α → List Sl} {m : R α} {n : R κ} {k : Dq κ α → Out S J ρ} (pl : Plc c B.W0 td As xs up) (lx : Lx Ls As) (h : Exr c B.W0 X te As m fun x => kFr c.K x) (hn : Exr c B.W0 X ti As n fun x => kFr c.K x)
    (hk : ∀ ys : Dq κ α, Den c X kr Ls Js B u (up ys) (k ys) Bs) :
    Den c X kr Ls Js B (tSeq (sDPut td ti te) u) As (m.to fun y => n.to fun j => (R.dput (Dk.mk xs.l) j y).to fun z => k (Dq.mk z.l)) Bs := fun D σ W a f => by
  have h' := h σ W a
  have hn' := hn σ W a
  obtain ⟨v, fp, ev, o, chg, _⟩ := pl σ W a
  obtain ⟨p, q, ep, ef, g, hh, d, l⟩ := o
  subst ep ef
  cases m with
  | no => exact False.elim f
  | ex e => exact h' W (Le.refl _) _ fun cls d W2 e2 z => f cls d σ W2 (lx_at lx (a.mono e2)) z
  | ok y =>
    refine h' W (Le.refl _) _ fun w W0 e0 r0 => ev W0 e0 _ fun W1 e01 => ?_
    have e1 := e0.trans e01
    have r : Rp.rep c.K y w W1.G := Rp.mono e01.g r0
    cases n with
    | no => exact False.elim f
    | ex e => exact hn' W1 e1 _ fun cls d W2 e2 z => f cls d σ W2 (lx_at lx (a.mono (e1.trans e2))) z
    | ok j =>
      refine hn' W1 e1 _ fun jv W2 e2 rj => ?_
      have e12 := e1.trans e2
      have f' : Fin c X kr Ls Js B Bs D (R.to (if xs.l.length < sizeLine then R.ok (Dk.mk (Fw.dput xs.l j y)) else .no) fun z => k (Dq.mk z.l)) := by
        have f2 : Fin c X kr Ls Js B Bs D ((R.dput (Dk.mk xs.l) j y).to fun z => k (Dq.mk z.l)) := f
        unfold R.dput at f2
        exact f2
      by_cases cz : xs.l.length < sizeLine
      · rw [if_pos cz] at f'
        have hh2 := e12.h _ _ hh
        have g2 : W2.G p = none := e12.o p g (by rw [hh]; exact fun z => nomatch z)
        refine ⟨p, _, rfl, DKy.put (v := w) rj W2.sub hh2 (by rw [← d.len]; exact cz), ?_⟩
        exact hk _ D _ _ (chg W2 e12 (W2.mt p (DKy.ho (putK q j w)) g2 (ho_mut _)) ⟨Fw.dput xs.l j y⟩ [p] lx_mt ⟨p, _, rfl, rfl, g2, upd_same, (d.mono e12.g).put (Rp.mono e2.g r), Nat.le_trans (dput_len _ _ _) cz⟩ fun b hb => .inl hb) f'
      · rw [if_neg cz] at f'
        exact False.elim f'
/-- o.n = e, a new field -/
theorem d_fnew {φ : Type} {n cls : Str} [Fs φ] {C : Addr} {ns : List Str} [Fz α] {te : TE} {u : TS} {x : Ins cls φ} {pin : Option V} {m : R α} {k : Ins cls (Fd φ n α) → Out S J ρ} (ct : ClT c.K cls C ns) (hn : n ∈ ns) (hf : n ∉ Fs.names φ) (hl : (Fs.names φ).length < 1000) (i : Nat) (hi : As[i]? = some (.ow pin x)) (lx : Lx Ls As)
    (h : Exr c B.W0 X te As m fun y => kNw c.K y) (hk : ∀ y : Ins cls (Fd φ n α), Den c X kr Ls Js B u (As.set i (.ow pin y)) (k y) Bs) :
    Den c X kr Ls Js B (tSeq (sFld c.K (tVar i) te n) u) As (m.to fun y => lt (Ins.mk (Fd.mk x.f y)) k) Bs := fun D σ W a f => by
  have h' := h σ W a
  obtain ⟨v, fp, hv, o, n0, chg⟩ := a.chgG hi
  obtain ⟨p, C', dx, fs, f1, ev, ef, np, g, hp, hc, of⟩ := o
  obtain rfl := ct.eq hc
  subst ev ef
  cases m with
  | no => exact False.elim f
  | ex e => exact h' W (Le.refl _) _ fun cls d W2 e2 z => f cls d σ W2 (lx_at lx (a.mono e2)) z
  | ok y =>
    refine h' W (Le.refl _) _ fun w W2 e2 ⟨f2, o2, n2⟩ => ⟨_, hv, p, _, dx, fs, rfl, e2.h _ _ hp, ct.cl, ct.no n hn, ?_, ?_⟩
    · have := congrArg List.length (Fs.nm of)
      rw [List.length_map] at this
      omega
    · have hm : n ∉ fs.map (·.1) := by rw [Fs.nm of]; exact hf
      have g2 : W2.G p = none := e2.o p g (by rw [hp]; exact fun z => nomatch z)
      have pf2 : p ∉ f2 := fun z => by
        have := n2 p z
        rw [hp] at this; cases this
      rw [putF_new hm]
      have lx2 : LeX W (p :: f1) (W2.mt p (.ins C' dx (fs ++ [(n, w)])) g2) := lx_of e2 (lx_mono (f := [p]) (fun b hb => by rw [List.mem_singleton.mp hb]; exact List.mem_cons_self) lx_mt)
      have keep : ∀ b, b ≠ p → (W2.mt p (.ins C' dx (fs ++ [(n, w)])) g2).H b = W2.H b := fun b hb => upd_ne hb
      have of2 := fs_up of e2
      refine hk ⟨⟨x.f, y⟩⟩ D σ _ (chg (Ins cls (Fd φ n α)) _ ⟨⟨x.f, y⟩⟩ _ (p :: (f1 ++ f2)) lx2.g lx2.o lx2.h ⟨p, C', dx, _, f1 ++ f2, rfl, rfl, fun z => (List.mem_append.mp z).elim np pf2, g2, upd_same, hc, fs, w, f1, f2, rfl, rfl,
        Fs.keep of2 (Inc.refl _) (fun b hb => (Fs.foot of2 b hb).1) (fun b hb => keep b fun z => np (z ▸ hb)), Ob.keep o2 (Inc.refl _) (fun b hb => (Ob.foot o2 b hb).1) (fun b hb => keep b fun z => pf2 (z ▸ hb)), fun b hb hb2 => (Fs.foot of b hb).2 (n2 b hb2)⟩ fun b hb => ?_) f
      rcases List.mem_cons.mp hb with z | z
      · exact .inl (by rw [z]; exact List.mem_cons_self)
      · rcases List.mem_append.mp z with z | z
        · exact .inl (List.mem_cons_of_mem _ z)
        · exact .inr (n2 b z)
end
section
variable {α : Type} {c : Cn} {W0 : Wd} {X : WX} {As : List Sl}
theorem r_nwFr [Rp α] {te : TE} {m : R α} (h : Exr c W0 X te As m fun x => kFr c.K x) : Exr c W0 X te As (m.bind fun x => .ok (Fr.mk x)) fun x : Fr α => kNw c.K x := fun σ W a => by
  have h' := h σ W a
  cases m with
  | no => trivial
  | ex e => exact h'
  | ok x => exact fun W1 e Q q => h' W1 e Q fun v W2 e2 p => q v W2 e2 ⟨[], ⟨rfl, p⟩, fun a ha => by cases ha⟩
theorem e_nwFr [Rp α] {te : TE} {x : α} (h : Exp c W0 te As (kFr c.K x)) : Exp c W0 te As (kNw c.K (Fr.mk x)) := exp_w h fun _ _ _ p => ⟨[], ⟨rfl, p⟩, fun a ha => by cases ha⟩
end
end Fw

namespace Fw
open PySem L2
/-! ### d.setdefault(k, x), keys of any kind -/
def tDSetG (td ty tx : TE) : TE := fun σ H Q => td σ H fun x H1 => ∃ a, x = .ref a ∧ IsD H1 a ∧ ty σ H1 fun y H2 => tx σ H2 fun z H3 => ∃ o, DGet H3 a y o ∧ (∀ v, o = some v → Q v H3) ∧ (o = none → ∃ H4, DPut H3 a y z H4 ∧ Q z H4)
section
open PySem.Spec PyProof.Rows
variable {X : Cx} {pins : List (Addr × Obj)} {σ : L2.St} {H : Hp} {s : Shared} {a : Addr} {y d : V} {u r : Value} {o : Option V} {A : Around} {E : Value → Shared → Prop}
theorem d_setdG {Q : Value → Shared → Prop} (hu : A.units + 1 < cLine) (I : Inv X pins σ H s) (g : DGet H a y o) (ry : RelV y u) (rd : RelV d r) (h1 : ∀ v, o = some v → ∀ w' s', Inv X pins σ H s' → RelV v w' → Q w' s')
    (h2 : o = none → ∃ H', DPut H a y d H' ∧ ∀ w' s', Inv X pins σ H' s' → RelV d w' → Q w' s') : wpAny (model X.prog X.w) A (call (.builtin "dict.setdefault") [.ref a, u, r]) Q E s := by
  cases o with
  | some v =>
    rcases g with ⟨kvs, k, e, ey, l⟩ | ⟨kvs, k, b, e, ey, eb, l⟩
    · subst ey
      obtain ⟨z, hd, vs, rel, dd⟩ := dk_rd I.hok e
      have hz : vs.length ≤ sizeLine := by rw [← rel.length]; exact z
      obtain ⟨w, hw, rw_⟩ := RelO.some_of (v := v) (o := valueAt vs k) (by rw [l]; exact rel.val k)
      refine call_meetsIn PySem.F.slot_dict_setdefault dd.typeIs PySem.F.entry_dict_setdefault (PySem.F.args_dict_setdefault_3 _ _ _) (kt_meets_setdefault (mixKind X.prog X.w) a (kV_is ry) hd r) ⟨vs, dd, hz, fun v2 hv2 => ?_, fun hn h' dd' hs => ?_⟩
      · rw [hw] at hv2
        cases hv2
        exact h1 v rfl _ _ (I.tok _) rw_
      · rw [hw] at hn; cases hn
    · subst ey
      cases (show u = Value.ref b from ry)
      obtain ⟨z, hd, xs, rel, dd⟩ := dt_rd I.hok e
      have hz : xs.length ≤ sizeLine := by rw [← Paired.length rel]; exact z
      obtain ⟨w, hw, rw_⟩ := RelO.some_of (v := v) (o := (atKey xs k).map (·.2)) (by rw [l]; exact rel.val k)
      obtain ⟨p, hp, hp2⟩ := Option.map_eq_some_iff.mp hw
      refine call_setdefault_heap (hsz := hz) (tupleKind_room_in1 hu) (key_of I.hok eb) hd dd (fun p2 hp3 => ?_) fun hn => ?_
      · rw [hp] at hp3
        cases hp3
        rw [hp2]
        exact h1 v rfl _ _ (I.tok _) rw_
      · rw [hp] at hn; cases hn
  | none =>
    obtain ⟨H', pt, q⟩ := h2 rfl
    rcases pt with ⟨kvs, k, e, ey, l, eH⟩ | ⟨kvs, k, b, e, ey, eb, l, eH⟩
    · subst ey eH
      have hv : valV kvs k = none := by
        rcases g with ⟨kvs2, k2, e2, ey2, l2⟩ | ⟨kvs2, k2, b2, e2, ey2, eb2, l2⟩
        · have ek : k2 = k := by
            cases k with
            | inl i => cases k2 with
              | inl j => cases ey2; rfl
              | inr j => cases ey2
            | inr i => cases k2 with
              | inl j => cases ey2
              | inr j => cases ey2; rfl
          subst ek
          rcases e2 with e2 | ⟨ob, e2⟩
          · rw [e] at e2; cases e2; exact l2.symm
          · rw [e] at e2; cases e2
        · cases k with
          | inl i => cases ey2
          | inr i => cases ey2
      refine L2.d_setd I e ry rd l (fun v h => ?_) fun _ w' s' I' rw' => q w' s' I' rw'
      rw [hv] at h; cases h
    · subst ey eH
      cases (show u = Value.ref b from ry)
      obtain ⟨z, hd, xs, rel, dd⟩ := dt_of I.hok e
      have hz : xs.length ≤ sizeLine := by rw [← Paired.length rel]; exact z
      have hl : (putK kvs k d).length ≤ sizeLine := by have := length_putK kvs k d; omega
      have hv : valV kvs k = none := by
        rcases g with ⟨kvs2, k2, e2, ey2, l2⟩ | ⟨kvs2, k2, b2, e2, ey2, eb2, l2⟩
        · cases k2 with
          | inl i => cases ey2
          | inr i => cases ey2
        · cases ey2
          rw [eb] at eb2
          have ek : k = k2 := by
            have inj : ∀ p q : List L2.Key, p.map L2.kV = q.map L2.kV → p = q := fun p => by
              induction p with
              | nil => intro q h; cases q with
                | nil => rfl
                | cons x q => simp at h
              | cons x p ih => intro q h; cases q with
                | nil => simp at h
                | cons x2 q =>
                  rw [List.map_cons, List.map_cons] at h
                  injection h with h1 h2
                  rw [ih q h2]
                  congr 1
                  cases x with
                  | inl i => cases x2 with
                    | inl j => cases h1; rfl
                    | inr j => cases h1
                  | inr i => cases x2 with
                    | inl j => cases h1
                    | inr j => cases h1; rfl
            injection eb2 with eb2
            injection eb2 with eb2
            exact inj _ _ eb2
          subst ek
          rcases e2 with e2 | ⟨ob, e2⟩
          · rw [e] at e2; cases e2; exact l2.symm
          · rw [e] at e2; cases e2
      refine call_setdefault_heap (hsz := hz) (tupleKind_room_in1 hu) (key_of I.hok eb) hd dd (fun p2 hp3 => ?_) fun hn h' dd' hs => ?_
      · have := rel.val k
        rw [hv] at this
        have hp4 : (atKey xs k).map (·.2) = some p2.2 := by rw [hp3]; rfl
        rw [hp4] at this
        exact this.elim
      · obtain ⟨qo, es, ep, hq, h2, h3, h4, _, h5⟩ := dd'
        refine q _ _ (d_write I (by rw [e]; exact True.intro) hs ⟨qo, hq⟩ ⟨hl, hd, _, (rel.put k eb rd).keeps fun c ys ec => ?_, qo, es, ep, hq, h2, h3, h4, h5⟩) rd
        rw [upd_ne (ne_of ec e (fun z => nomatch z))]
        exact ec
variable {o e f : Expr} {td ty tx : TE} {apos cpos : Pos}
theorem pe_dsetG (hu : X.A.units + 1 < cLine) (ho : PE X o td) (he : PE X e ty) (hf : PE X f tx) (m : M2 X o "setdefault" apos e f cpos) : PE X (.Call (.Attribute o "setdefault" apos) [e, f] [] cpos) (tDSetG td ty tx) := by
  refine ⟨fun pins s σ H Q I h => ?_⟩
  refine wpAny_Call_method m.base m.few m.line PySem.F.plainAttrs_dict PySem.F.slot_dict_setdefault PySem.F.type_dict_setdefault (thn (ho.run pins s σ H _ I h) fun u s1 ⟨x, H1, I1, rx, a, ex, d, q1⟩ => ?_)
  subst ex
  obtain rfl : u = Value.ref a := rx
  obtain ⟨t1, t2, _⟩ := isD_at I1 d
  refine ⟨t1, t2, ?_⟩
  rw [m.trees]
  exact Calls.callWith_builtin rfl (Calls.evalArgs_plain (Calls.spliced_cons (thn (he.run pins s1 σ H1 _ I1 q1) fun iv s2 ⟨y, H2, I2, ry, q2⟩ =>
    Calls.spliced_cons (thn (hf.run pins s2 σ H2 _ I2 q2) fun fv s3 ⟨z, H3, I3, rz, ov, gt, q3, q4⟩ => Calls.spliced_nil (d_setdG hu I3 gt ry rz (fun v hv w' s4 I4 rw' => ⟨v, _, I4, rw', q3 v hv⟩) fun hn => (q4 hn).elim fun H4 ⟨pt, q5⟩ => ⟨H4, pt, fun w' s4 I4 rw' => ⟨z, _, I4, rw', q5⟩⟩)))))
end
/-! ### a dict of one's own lists, keys of any kind -/
structure DGk (κ α : Type) where
  l : List (κ × List α)
deriving DecidableEq
section
variable {κ α : Type} [DecidableEq κ] [Rp κ] [DKy κ] [Rp α]
theorem dk_of' {K : Frag} {β : Type} [Rp β] {G : Hp} : ∀ {x : List (κ × β)} {q : List (κ × V)}, q.map (·.1) = x.map (·.1) → Al (fun x v => Rp.rep K x v G) (x.map (·.2)) (q.map (·.2)) → DR K x q G
  | [], [], _, _ => trivial
  | p :: x, e :: q, h, a => by
    rw [List.map_cons, List.map_cons] at h
    injection h with h1 h2
    exact ⟨h1.symm, a.2 0 p.2 e.2 rfl rfl, dk_of' h2 ⟨by have := a.1; simpa using this, fun i y w h1 h2 => a.2 (i + 1) y w h1 h2⟩⟩
  | [], _ :: _, h, _ => by simp at h
  | _ :: _, [], h, _ => by simp at h
instance : Rp (DGk κ α) := ⟨fun K x v G => Rp.rep K (Dq.mk x.l : Dq κ (List α)) v G, fun s h => Rp.mono s h⟩
def ownK (K : Frag) (x : DGk κ α) (v : V) (f : List Addr) (W : Wd) : Prop := ∃ (p : Addr) (q : List (κ × V)) (qs : List Addr), v = .ref p ∧ f = p :: qs ∧ (p :: qs).Nodup ∧ W.G p = none ∧ W.H p = some (DKy.ho q) ∧ q.map (·.1) = x.l.map (·.1) ∧ q.map (·.2) = qs.map V.ref ∧ (x.l.map (·.1)).Nodup ∧ DRows K (x.l.map (·.2)) qs W ∧ x.l.length ≤ sizeLine
theorem ho_ne (q : List (κ × V)) : some (DKy.ho q) ≠ none := fun z => nomatch z
instance : Fz (DGk κ α) where
  own := ownK
  keep := fun {K x v f W W'} ⟨p, q, qs, e, ef, nd, g, h, k1, k2, kn, r, l⟩ s n k => by
    subst ef
    exact ⟨p, q, qs, e, rfl, nd, n p (by simp), (k p (by simp)).trans h, k1, k2, kn, r.keep s (fun b hb => n b (List.mem_cons_of_mem _ hb)) fun b hb => k b (List.mem_cons_of_mem _ hb), l⟩
  foot := fun {K x v f W} ⟨p, q, qs, e, ef, nd, g, h, k1, k2, kn, r, l⟩ b hb => by
    subst ef
    rcases List.mem_cons.mp hb with z | hb
    · subst z
      exact ⟨g, by rw [h]; exact ho_ne q⟩
    · exact r.foot b hb
  fz := fun {K x v f W} ⟨p, q, qs, e, ef, nd, g, h, k1, k2, kn, r, l⟩ => by
    subst ef
    refine ⟨p, q, e, (Wd.fz_in (by simp)).trans h, dk_of' k1 ?_, l⟩
    rw [k2]
    exact r.rep Wd.fz_sub fun q hq => Wd.fz_in (List.mem_cons_of_mem _ hq)
variable {c : Cn} {W0 : Wd} {X : WX} {As : List Sl}
theorem e_gkq {te : TE} {x : DGk κ α} (h : Exp c W0 te As (kFr c.K x)) : Exp c W0 te As (kFr c.K (Dq.mk x.l : Dq κ (List α))) := exp_w h fun _ _ _ p => p
theorem e_gknew {te : TE} (ht : te = fun _ H Q => ∀ p, H p = none → Q (.ref p) (upd H p (DKy.ho ([] : List (κ × V))))) : Exp c W0 te As (kNw c.K (DGk.mk ([] : List (κ × List α)))) := fun σ W a W1 e Q q => by
  subst ht
  exact fun p hp => q _ (W1.no p _ hp (ho_mut _)) (Le.no hp) ⟨[p], ⟨p, [], [], rfl, rfl, by simp, W1.sub.nope hp, upd_same, rfl, rfl, List.nodup_nil, trivial, Nat.zero_le _⟩, fun a ha => by rw [List.mem_singleton.mp ha]; exact hp⟩
theorem k_find {k : κ} : ∀ {q : List (κ × V)} {xl : List (κ × List α)} {qs : List Addr}, q.map (·.1) = xl.map (·.1) → q.map (·.2) = qs.map V.ref → ∀ {v}, valV q k = some v → ∃ (j : Nat) (a : Addr) (r : List α), qs[j]? = some a ∧ v = .ref a ∧ xl[j]? = some (k, r) ∧ dval xl k = some r
  | [], _, _, _, _, v, h => by cases h
  | e :: q, p :: xl, a :: qs, h1, h2, v, h => by
    rw [List.map_cons, List.map_cons] at h1 h2
    injection h1 with e1 h1
    injection h2 with e2 h2
    by_cases z : e.1 = k
    · rw [valV_pos z] at h
      refine ⟨0, a, p.2, rfl, ?_, ?_, ?_⟩
      · rw [← Option.some.inj h, e2]
      · rw [← z, e1]; rfl
      · unfold dval
        rw [if_pos (e1.symm.trans z)]
    · rw [valV_neg z] at h
      obtain ⟨j, b, r, g1, g2, g3, g4⟩ := k_find h1 h2 h
      refine ⟨j + 1, b, r, g1, g2, g3, ?_⟩
      unfold dval
      rw [if_neg (fun w => z (e1.trans w))]
      exact g4
  | e :: q, [], _, h1, _, _, _ => by simp at h1
  | e :: q, _ :: _, [], _, h2, _, _ => by simp at h2
theorem k_none {k : κ} : ∀ {q : List (κ × V)} {xl : List (κ × List α)}, q.map (·.1) = xl.map (·.1) → valV q k = none → dval xl k = none ∧ k ∉ xl.map (·.1)
  | [], [], _, _ => ⟨rfl, by simp⟩
  | e :: q, p :: xl, h1, h => by
    rw [List.map_cons, List.map_cons] at h1
    injection h1 with e1 h1
    by_cases z : e.1 = k
    · rw [valV_pos z] at h; cases h
    · rw [valV_neg z] at h
      obtain ⟨g1, g2⟩ := k_none h1 h
      refine ⟨?_, ?_⟩
      · unfold dval
        rw [if_neg (fun w => z (e1.trans w))]
        exact g1
      · rw [List.map_cons, List.mem_cons]
        rintro (w | w)
        · exact z (e1.trans w.symm)
        · exact g2 w
  | [], _ :: _, h, _ => by simp at h
  | _ :: _, [], h, _ => by simp at h
theorem dput_keysK {k : κ} {y : List α} (xl : List (κ × List α)) (h : (dval xl k).isSome = true) : (dput xl k y).map (·.1) = xl.map (·.1) := by
  unfold dput
  rw [if_pos h, List.map_map]
  refine List.map_congr_left fun p _ => ?_
  show (if p.1 = k then (p.1, y) else p).1 = p.1
  split <;> rfl
theorem dput_valsK {k : κ} {y : List α} : ∀ {xl : List (κ × List α)} {j : Nat} {r : List α}, (xl.map (·.1)).Nodup → xl[j]? = some (k, r) → (xl.map (fun p => if p.1 = k then (p.1, y) else p)).map (·.2) = (xl.map (·.2)).set j y
  | [], j, r, _, h => by simp at h
  | p :: xl, 0, r, nd, h => by
    have e : p = (k, r) := by simpa using h
    subst e
    rw [List.map_cons] at nd
    have nk := (List.nodup_cons.mp nd).1
    rw [List.map_cons, List.map_cons, List.map_cons, List.set_cons_zero, if_pos rfl]
    congr 1
    rw [List.map_map]
    refine List.map_congr_left fun p hp => ?_
    show (if p.1 = k then (p.1, y) else p).2 = p.2
    rw [if_neg fun z => nk (by show k ∈ _; rw [← z]; exact List.mem_map_of_mem hp)]
  | p :: xl, j + 1, r, nd, h => by
    rw [List.map_cons] at nd
    obtain ⟨nk, nd2⟩ := List.nodup_cons.mp nd
    have h' : xl[j]? = some (k, r) := by simpa using h
    have hk : k ∈ xl.map (·.1) := List.mem_map.mpr ⟨_, List.mem_of_getElem? h', rfl⟩
    rw [List.map_cons, List.map_cons, List.map_cons, List.set_cons_succ, dput_valsK nd2 h']
    congr 1
    show (if p.1 = k then (p.1, y) else p).2 = p.2
    rw [if_neg fun z => nk (by rw [z]; exact hk)]
theorem refs_inj : ∀ a b : List Addr, a.map V.ref = b.map V.ref → a = b := fun a => by
  induction a with
  | nil => intro b h; cases b with
    | nil => rfl
    | cons => simp at h
  | cons x a ih => intro b h; cases b with
    | nil => simp at h
    | cons y b =>
      rw [List.map_cons, List.map_cons] at h
      injection h with h1 h2
      injection h1 with h1
      rw [h1, ih b h2]
/-- the list at a key: a place within a place -/
theorem plc_item {td tk : TE} {x : DGk κ α} {up : DGk κ α → List Sl} {k : κ} {row : List α} (pl : Plc c W0 td As x up) (hk : Exp c W0 tk As (kFr c.K k)) (hr : dval x.l k = some row) :
    Plc c W0 (tOp rDGet td tk) As row (fun y : List α => up ⟨dput x.l k y⟩) := fun σ W a => by
  obtain ⟨v, f, ev, o, chg, chg0⟩ := pl σ W a
  obtain ⟨p, q, qs, e, ef, nd, g, hh, k1, k2, kn, dr, l⟩ := o
  subst e ef
  have hv : ∃ u, valV q k = some u := by
    cases hq : valV q k with
    | some u => exact ⟨u, rfl⟩
    | none => rw [(k_none k1 hq).1] at hr; cases hr
  obtain ⟨u, hu⟩ := hv
  obtain ⟨j, b, r, j1, j2, j3, j4⟩ := k_find k1 k2 hu
  subst j2
  rw [hr] at j4
  cases j4
  have hrow : (x.l.map (·.2))[j]? = some row := by rw [List.getElem?_map, j3]; rfl
  obtain ⟨b', hb', gb, vs, hvs, al, lr⟩ := dr.get hrow
  rw [j1] at hb'
  cases hb'
  have bq : b ∈ qs := List.mem_of_getElem? j1
  have pb : p ≠ b := fun z => (List.nodup_cons.mp nd).1 (z ▸ bq)
  refine ⟨.ref b, [b], fun W1 e1 Q q1 => ev W1 e1 _ fun W2 e2 => hk σ W a W2 (e1.trans e2) _ fun w W3 e3 rw_ => ?_, ⟨b, vs, rfl, rfl, gb, hvs, al, lr⟩, fun W1 e1 W' y f' lx o' hf => ?_, fun W1 e1 W' f' lx o' hf => ?_⟩
  · exact ⟨p, .ref b, rfl, by rw [← hu]; exact DKy.get rw_ W3.sub (.inl ((e1.trans (e2.trans e3)).h _ _ hh)), q1 W3 (e2.trans e3)⟩
  all_goals
    obtain ⟨b2, vs2, eb2, ef2, gb2, hb2, al2, l2⟩ := o'
    cases eb2
    subst ef2
    have his : (dval x.l k).isSome = true := by rw [hr]; rfl
    have fW : ∀ d ∈ p :: qs, W.G d = none ∧ W.H d ≠ none := Ob.foot (show Ob.own c.K x (.ref p) (p :: qs) W from ⟨p, q, qs, rfl, rfl, nd, g, hh, k1, k2, kn, dr, l⟩)
    have lx' : LeX W [b] W' := lx_of e1 lx
    have dput' : ∀ (y : List α), DRow c.K y b W' → DRows c.K ((x.l.map (·.2)).set j y) qs W' := fun y hy => DRows.put hy lx'.g (fun d hd gd nd => ⟨lx'.o d (fun z => hd (List.mem_singleton.mp z)) gd nd, lx'.h d (fun z => hd (List.mem_singleton.mp z)) nd⟩) dr j1 (List.nodup_cons.mp nd).2
    have gp' := lx'.o p (fun z => pb (List.mem_singleton.mp z)) g (fW p (by simp)).2
    have hp' := (lx'.h p (fun z => pb (List.mem_singleton.mp z)) (fW p (by simp)).2).trans hh
    have sb' : LeX W1 (p :: qs) W' := lx_mono (fun a ha => by rw [List.mem_singleton.mp ha]; exact List.mem_cons_of_mem _ bq) lx
  · refine chg W1 e1 W' ⟨dput x.l k y⟩ (p :: qs) sb' ⟨p, q, qs, rfl, rfl, nd, gp', hp', by rw [dput_keysK x.l his]; exact k1, k2, by rw [dput_keysK x.l his]; exact kn, ?_, ?_⟩ fun d hd => .inl hd
    · have ed : (dput x.l k y).map (·.2) = (x.l.map (·.2)).set j y := by
        unfold dput
        rw [if_pos his]
        exact dput_valsK kn j3
      show DRows c.K ((dput x.l k y).map (·.2)) qs _
      rw [ed]
      exact dput' y ⟨gb2, vs2, hb2, al2, l2⟩
    · have := congrArg List.length (dput_keysK (y := y) x.l his)
      rw [List.length_map, List.length_map] at this
      show (dput x.l k y).length ≤ _
      rw [this]
      exact l
  · refine chg0 W1 e1 W' (p :: qs) sb' ⟨p, q, qs, rfl, rfl, nd, gp', hp', k1, k2, kn, ?_, l⟩ fun d hd => .inl hd
    have := dput' row ⟨gb2, vs2, hb2, al2, l2⟩
    rwa [set_same hrow] at this
variable {J S ρ : Type} {kr : ρ → Kd} {Ls : List Sl} {Js : J → List Sl} {B : Bd} {Bs : S → List Sl}
@[irreducible] def R.sdk (x : DGk κ α) (k : κ) (y : α) : R (DGk κ α) := if x.l.length < sizeLine ∧ ((Fw.dval x.l k).getD []).length < sizeLine then .ok ⟨Fw.dput x.l k ((Fw.dval x.l k).getD [] ++ [y])⟩ else .no
/-- P.setdefault(k, []).append(y) -/
theorem d_sdAppP {td tk ty : TE} {u : TS} {x : DGk κ α} {up : DGk κ α → List Sl} {n : R κ} {m : R α} {kk : DGk κ α → Out S J ρ} (pl : Plc c B.W0 td As x up) (lx : Lx Ls As) (hn : Exr c B.W0 X tk As n fun x => kFr c.K x) (hy : Exr c B.W0 X ty As m fun x => kFr c.K x) (hyu : ∀ z, Exr c B.W0 X ty (up z) m fun x => kFr c.K x)
    (hk : ∀ z : DGk κ α, Den c X kr Ls Js B u (up z) (kk z) Bs) :
    Den c X kr Ls Js B (tSeq (tDrop (tBM c.K "list" rAppend (tDSetG td tk (tLst tNil)) (tCons ty tNil))) u) As (n.to fun k => m.np.to fun y => (R.sdk x k y).to kk) Bs := fun D σ W a f => by
  have h' := hn σ W a
  obtain ⟨v, fp, ev, o, chg, _⟩ := pl σ W a
  obtain ⟨p, q, qs, e, ef, nd, g, hh, k1, k2, kn, dr, l⟩ := o
  subst e ef
  refine ev W (Le.refl _) _ fun Wa ea => ⟨p, rfl, DKy.isD (.inl (ea.h _ _ hh)), ?_⟩
  cases n with
  | no => exact False.elim f
  | ex e => exact h' Wa ea _ fun cls d W2 e2 z => f cls d σ W2 (lx_at lx (a.mono (ea.trans e2))) z
  | ok k =>
    refine h' Wa ea _ fun w W2 eb rw_ => ?_
    have e2 := ea.trans eb
    cases m with
    | no => exact False.elim f
    | ex e => exact False.elim f
    | ok y =>
      have f2 : Fin c X kr Ls Js B Bs D ((R.sdk x k y).to kk) := f
      have f3 : Fin c X kr Ls Js B Bs D ((if x.l.length < sizeLine ∧ ((dval x.l k).getD []).length < sizeLine then R.ok (⟨dput x.l k ((dval x.l k).getD [] ++ [y])⟩ : DGk κ α) else R.no).to kk) := by
        unfold R.sdk at f2
        exact f2
      by_cases cz : x.l.length < sizeLine ∧ ((dval x.l k).getD []).length < sizeLine
      case neg => rw [if_neg cz] at f3; exact False.elim f3
      rw [if_pos cz] at f3
      have f' : Fin c X kr Ls Js B Bs D (kk ⟨dput x.l k ((dval x.l k).getD [] ++ [y])⟩) := f3
      have drl := dr.len
      rw [List.length_map] at drl
      have qlen : q.length = x.l.length := by have := congrArg List.length k1; simpa using this
      have fW : ∀ d ∈ p :: qs, W.G d = none ∧ W.H d ≠ none := Ob.foot (show Ob.own c.K x (.ref p) (p :: qs) W from ⟨p, q, qs, rfl, rfl, nd, g, hh, k1, k2, kn, dr, l⟩)
      refine ⟨Nat.zero_le _, fun r hr => ?_⟩
      have e3 : Le W2 (W2.no r (.lst []) hr) := Le.no hr
      have e23 := e2.trans e3
      have h3 : (W2.no r (.lst []) hr).H p = some (DKy.ho q) := e23.h _ _ hh
      refine ⟨valV q k, DKy.get (Rp.mono e3.g rw_) (W2.no r (.lst []) hr).sub (.inl h3), fun v hv2 => ?_, fun hn2 => ?_⟩
      · obtain ⟨j, b, r0, j1, j2, j3, j4⟩ := k_find k1 k2 hv2
        subst j2
        have hrow : (x.l.map (·.2))[j]? = some r0 := by rw [List.getElem?_map, j3]; rfl
        obtain ⟨b', hb', gb, vs, hvs, al, lr⟩ := dr.get hrow
        rw [j1] at hb'
        cases hb'
        have bq : b ∈ qs := List.mem_of_getElem? j1
        have pb : p ≠ b := fun z => (List.nodup_cons.mp nd).1 (z ▸ bq)
        refine ⟨.inl ⟨rfl, vs, .inl (.inl (e23.h _ _ hvs))⟩, ?_⟩
        refine hy σ W a _ e23 _ fun v3 W3 e4 rv => ?_
        have e34 := e23.trans e4
        have gb3 : W3.G b = none := e34.o b gb (by rw [hvs]; exact fun z => nomatch z)
        have lr2 : r0.length < sizeLine := by have := cz.2; rw [j4] at this; exact this
        refine ⟨b, vs, v3, rfl, rfl, e34.h _ _ hvs, by rw [← al.1]; exact lr2, ?_⟩
        have hd : (dval x.l k).getD [] = r0 := by rw [j4]; rfl
        have his : (dval x.l k).isSome = true := by rw [j4]; rfl
        rw [hd] at f'
        have lx4 : LeX W3 [b] (W3.mt b (.lst (vs ++ [v3])) gb3) := lx_mt
        have lx' := lx_of e34 lx4
        refine hk _ D _ _ (chg W3 e34 (W3.mt b (.lst (vs ++ [v3])) gb3) ⟨dput x.l k (r0 ++ [y])⟩ (p :: qs) (lx_mono (fun a ha => by rw [List.mem_singleton.mp ha]; exact List.mem_cons_of_mem _ bq) lx4) ⟨p, q, qs, rfl, rfl, nd, lx'.o p (fun z => pb (List.mem_singleton.mp z)) g (fW p (by simp)).2, (lx'.h p (fun z => pb (List.mem_singleton.mp z)) (fW p (by simp)).2).trans hh, by rw [dput_keysK x.l his]; exact k1, k2, by rw [dput_keysK x.l his]; exact kn, ?_, ?_⟩ fun d hd => .inl hd) f'
        · have ed : (dput x.l k (r0 ++ [y])).map (·.2) = (x.l.map (·.2)).set j (r0 ++ [y]) := by
            unfold dput
            rw [if_pos his]
            exact dput_valsK kn j3
          show DRows c.K ((dput x.l k (r0 ++ [y])).map (·.2)) qs _
          rw [ed]
          exact DRows.put (W' := W3.mt b (.lst (vs ++ [v3])) gb3) ⟨gb3, vs ++ [v3], upd_same, (al_mono al e34.g).app (Al.one rv), by simp; omega⟩ lx'.g (fun d hd gd nd => ⟨lx'.o d (fun z => hd (List.mem_singleton.mp z)) gd nd, lx'.h d (fun z => hd (List.mem_singleton.mp z)) nd⟩) dr j1 (List.nodup_cons.mp nd).2
        · have := congrArg List.length (dput_keysK (y := r0 ++ [y]) x.l his)
          rw [List.length_map, List.length_map] at this
          show (dput x.l k (r0 ++ [y])).length ≤ _
          rw [this]
          exact l
      · obtain ⟨n1, n2⟩ := k_none k1 hn2
        have ed : dput x.l k ((dval x.l k).getD [] ++ [y]) = x.l ++ [(k, [y])] := by
          unfold dput
          rw [n1]
          rfl
        rw [ed] at f'
        have rn : r ∉ p :: qs := fun z => by
          have := (fW r z).2
          cases q9 : W.H r with
          | none => exact this q9
          | some u => rw [e2.h _ _ q9] at hr; cases hr
        have rp : r ≠ p := fun z => rn (by rw [z]; simp)
        have hrr : (W2.no r (.lst []) hr).H r = some (.lst []) := upd_same
        have gp2 : (W2.no r (.lst []) hr).G p = none := e2.o p g (fW p (by simp)).2
        have rrep : Rp.rep c.K k w (W2.no r (.lst []) hr).G := Rp.mono e3.g rw_
        refine ⟨_, DKy.put (v := .ref r) rrep (W2.no r (.lst []) hr).sub h3 (by omega), ?_⟩
        have eput : putK q k (.ref r) = q ++ [(k, V.ref r)] := by
          unfold putK
          rw [valV_any, hn2]
          rfl
        rw [eput]
        have W4d : ∃ W4 : Wd, W4.G = W2.G ∧ W4.H = upd (upd W2.H r (.lst [])) p (DKy.ho (q ++ [(k, V.ref r)])) := ⟨(W2.no r (.lst []) hr).mt p _ gp2 (ho_mut _), rfl, rfl⟩
        obtain ⟨W4, G4, H4⟩ := W4d
        have hkeep : ∀ d, d ≠ p → d ≠ r → W4.H d = W2.H d := fun d h1 h2 => by
          rw [H4, upd_ne h1, upd_ne h2]
        have h4r : W4.H r = some (.lst []) := by rw [H4, upd_ne rp]; exact hrr
        have h4p : W4.H p = some (DKy.ho (q ++ [(k, V.ref r)])) := by rw [H4, upd_same]
        have pnq := (List.nodup_cons.mp nd).1
        have lx4 : LeX W2 (p :: qs) W4 := ⟨by rw [G4]; exact Inc.refl _, fun d _ gd _ => by rw [G4]; exact gd, fun d hd nd => hkeep d (fun z => hd (by rw [z]; simp)) fun z => nd (by rw [z]; exact hr)⟩
        have lx4' := lx_of e2 lx4
        have drW2 : DRows c.K (x.l.map (·.2)) qs W2 := dr.keep e2.g (fun d hd => e2.o d (dr.foot d hd).1 (dr.foot d hd).2) fun d hd => by
          cases q9 : W.H d with
          | none => exact absurd q9 (dr.foot d hd).2
          | some u => exact e2.h d u q9
        have dr4 : DRows c.K (x.l.map (·.2)) qs W4 := drW2.keep (by rw [G4]; exact Inc.refl _) (fun d hd => by rw [G4]; exact (drW2.foot d hd).1) fun d hd => hkeep d (fun z => pnq (z ▸ hd)) fun z => rn (z ▸ List.mem_cons_of_mem _ hd)
        have gr4 : W4.G r = none := by rw [G4]; exact W2.sub.nope hr
        have own4 : ∀ (W5 : Wd) (ys : List α), W5.G p = none → W5.H p = some (DKy.ho (q ++ [(k, V.ref r)])) → DRows c.K (x.l.map (·.2)) qs W5 → DRow c.K ys r W5 → Ob.own c.K (⟨x.l ++ [(k, ys)]⟩ : DGk κ α) (.ref p) (p :: (qs ++ [r])) W5 := fun W5 ys g5 h5 d5 r5 => by
          refine ⟨p, q ++ [(k, V.ref r)], qs ++ [r], rfl, rfl, ?_, g5, h5, by rw [List.map_append, List.map_append, k1]; rfl, by rw [List.map_append, List.map_append, k2]; rfl, ?_, ?_, by simp; omega⟩
          · rw [← List.cons_append, List.nodup_append]
            exact ⟨nd, by simp, fun b hb d hd z => rn (by rw [List.mem_singleton] at hd; subst hd; subst z; exact hb)⟩
          · show ((x.l ++ [(k, ys)]).map fun e : κ × List α => e.1).Nodup
            rw [List.map_append, List.nodup_append]
            exact ⟨kn, by simp, fun b hb d hd z => n2 (by
              have hd' : d = k := by simpa using hd
              rw [← hd', ← z]; exact hb)⟩
          · show DRows c.K ((x.l ++ [(k, ys)]).map fun e : κ × List α => e.2) _ _
            rw [List.map_append]
            exact d5.snoc r5
        have a4 : At c.K B.W0 (up ⟨x.l ++ [(k, [])]⟩) σ W4 := chg W2 e2 W4 ⟨x.l ++ [(k, [])]⟩ (p :: (qs ++ [r])) lx4 (own4 W4 [] (by rw [G4]; exact e2.o p g (fW p (by simp)).2) h4p dr4 ⟨gr4, [], h4r, Al.nil, Nat.zero_le _⟩) fun d hd => by
          rcases List.mem_cons.mp hd with z | hd
          · exact .inl (by rw [z]; simp)
          · rcases List.mem_append.mp hd with z | z
            · exact .inl (List.mem_cons_of_mem _ z)
            · rw [List.mem_singleton.mp z]; exact .inr hr
        have H4' : upd (upd W2.H r (.lst [])) p (DKy.ho (q ++ [(k, V.ref r)])) = W4.H := H4.symm
        rw [H4']
        refine ⟨.inl ⟨rfl, [], .inl (.inl h4r)⟩, ?_⟩
        refine hyu _ σ W4 a4 W4 (Le.refl _) _ fun v3 W5 e5 rv => ?_
        have gr5 : W5.G r = none := e5.o r gr4 (by rw [h4r]; exact fun z => nomatch z)
        refine ⟨r, [], v3, rfl, rfl, e5.h _ _ h4r, by rw [sizeLine_eq]; decide, ?_⟩
        have pr : p ≠ r := fun z => rp z.symm
        have gp4 : W4.G p = none := by rw [G4]; exact e2.o p g (fW p (by simp)).2
        have gp5 : W5.G p = none := e5.o p gp4 (by rw [h4p]; exact ho_ne _)
        have k6 : ∀ d, d ≠ r → (W5.mt r (.lst [v3]) gr5).H d = W5.H d := fun d hd => upd_ne hd
        have dr6 : DRows c.K (x.l.map (·.2)) qs (W5.mt r (.lst [v3]) gr5) := dr4.keep e5.g (fun d hd => e5.o d (dr4.foot d hd).1 (dr4.foot d hd).2) fun d hd => by
          rw [k6 d fun z => rn (z ▸ List.mem_cons_of_mem _ hd)]
          cases q9 : W4.H d with
          | none => exact absurd q9 (dr4.foot d hd).2
          | some u => exact e5.h d u q9
        have lx6 : LeX W2 (p :: qs) (W5.mt r (.lst [v3]) gr5) := ⟨lx4.g.trans e5.g, fun d hd gd nd => e5.o d (lx4.o d hd gd nd) (by rw [lx4.h d hd nd]; exact nd), fun d hd nd => by
          rw [k6 d fun z => nd (by rw [z]; exact hr)]
          cases q9 : W4.H d with
          | none => rw [lx4.h d hd nd] at q9; exact absurd q9 nd
          | some u => rw [e5.h d u q9, ← q9]; exact lx4.h d hd nd⟩
        refine hk _ D _ _ (chg W2 e2 _ ⟨x.l ++ [(k, [y])]⟩ (p :: (qs ++ [r])) lx6 (own4 _ [y] gp5 (by rw [k6 p pr]; exact e5.h _ _ h4p) dr6 ⟨gr5, [v3], upd_same, Al.one rv, by rw [sizeLine_eq]; show 1 ≤ 16777216; decide⟩) fun d hd => ?_) f'
        rcases List.mem_cons.mp hd with z | hd
        · exact .inl (by rw [z]; simp)
        · rcases List.mem_append.mp hd with z | z
          · exact .inl (List.mem_cons_of_mem _ z)
          · rw [List.mem_singleton.mp z]; exact .inr hr
/-- a dict of one's own lists is frozen for good, and locked -/
theorem d_lkP {td : TE} {t : TS} {x : DGk κ α} {up : Fr (Dk κ (List α)) → List Sl} {m : Out S J ρ} (pl : Plc c B.W0 td As x up) (hk : Den c X kr Ls Js B t (up ⟨⟨x.l⟩⟩) m Bs) : Den c X kr Ls Js B (tLkS t) As m Bs := fun D σ W a f => by
  obtain ⟨v, fp, ev, o, chg, _⟩ := pl σ W a
  obtain ⟨p, q, qs, e, ef, nd, g, hh, k1, k2, kn, dr, l⟩ := o
  subst e ef
  have pnq := (List.nodup_cons.mp nd).1
  refine ⟨p, _, hh, DKy.mu q, fun od => ?_⟩
  let W' : Wd := (W.fz qs).nf p (.frz od (DKy.ho q))
  have gq : ∀ a, a ∈ qs → W'.G a = W.H a := fun a ha => by
    show upd (W.fz qs).G p _ a = _
    rw [upd_ne (fun z : a = p => pnq (by rw [← z]; exact ha)), Wd.fz_in ha]
  have sb : Inc W.G W'.G := fun a o h => by
    have ap : a ≠ p := fun z => by rw [z, g] at h; cases h
    show upd (W.fz qs).G p _ a = _
    rw [upd_ne ap]
    exact Wd.fz_sub a o h
  have lx : LeX W (p :: qs) W' := ⟨sb, fun a n h _ => by
    rw [List.mem_cons, not_or] at n
    show upd (W.fz qs).G p _ a = none
    rw [upd_ne n.1, Wd.fz_ni n.2]; exact h, fun a n _ => by
    rw [List.mem_cons, not_or] at n
    show upd W.H p _ a = _
    rw [upd_ne n.1]⟩
  refine hk D σ W' (chg W (Le.refl _) W' ⟨⟨x.l⟩⟩ [] lx ⟨rfl, p, q, od, rfl, upd_same, dk_of' k1 ?_, l⟩ fun a ha => by cases ha) f
  rw [k2]
  exact dr.rep sb gq
end
end Fw

namespace Fw
open PySem L2
/-! ### methods -/
/-- o.m(..), what is raised wished for at the caller's slots -/
def tMethD (C : Addr) (m : Str) (sp : Sp) (E : St → XK) (ta : TE) (t : TA) : TE := fun σ H Q => ta σ H fun x H1 => ∃ a dx fs, x = .ref a ∧ H1 a = some (.ins C dx fs) ∧ fs.lookup m = none ∧ t σ H1 fun vs H2 => sp (x :: vs) H2 Q (E σ)
/-- C(..) -/
def tMakeD (C : Addr) (sp : Sp) (E : St → XK) (t : TA) : TE := fun σ H Q => t σ H fun vs H1 => ∀ x dx, H1 x = none → H1 dx = none → dx ≠ x → sp (.ref x :: vs) (upd (upd H1 dx (.own x)) x (.ins C dx [])) (fun v H2 => v = .non ∧ Q (.ref x) H2) (E σ)
section
open PySem.Spec PyProof.Rows
variable {X : Cx} {CX : CXT} {k : Nat} {f C : Addr} {fd : FuncData} {ps : List Str} {sp : Sp} {E : L2.St → XK} {x m : Str} {p pos apos : Pos} {e o : Expr} {es : List Expr} {ta : TE} {t : TA}
theorem pe_methD {pl : Sem Bool} (F : FnOk X.prog X.w X.K X.mg X.base CX k f fd ps sp) (hr : Room k X.A) (he : PE X o ta) (cl : Cls X.K C) (hm : Meth X.K C m f) (hb : Binds X.K fd ps []) (hx : ∀ σ, PassesAt CX X σ (E σ)) (ha : PA X (e :: es) t)
    (hst : starEach (e :: es) X.env = (false, eval e X.env) :: starEach es X.env := by rfl) (hpl : (backTo pos (starEach es X.env)).any (·.1) = false := by rfl)
    (ht : eval (.Call (.Attribute o m apos) (e :: es) [] pos) X.env = (do let ov ← eval o X.env; standAt apos.atName; let (f, first) ← holding [ov] (getMethod ov m pl); callWith pos f first (backTo pos (starEach (e :: es) X.env)) (backToKw pos (keywordEach [] X.env))) := by rfl) :
    PE X (.Call (.Attribute o m apos) (e :: es) [] pos) (tMethD C m sp E ta t) := by
  refine ⟨fun pins s σ H Q I h => PySem.W.methodCall_KW (pl := pl) (thn (he.run pins s σ H _ I h) fun u s1 ⟨x, H1, I1, rx, a, dx, fs, ex, ea, l, q⟩ => ?_) ht⟩
  subst ex
  obtain rfl : u = Value.ref a := rx
  exact getmeth_ok I1 ea cl hm l (PySem.W.callWith_K (first := [.ref a]) (h₀ := X.base) I.ok.mod.kin hm.kp (thn (ha.run pos pins s1 σ H1 _ I1 q) fun us s2 ⟨vs, H2, I2, r, q2⟩ => ⟨I2.kIn, run_fnSD (dvs := []) (us := .ref a :: us) (vs := .ref a :: vs) F hr hb .nil (hx σ) I2 (.cons rfl r) (by rw [List.append_nil]; exact q2)⟩) hst hpl)
theorem pe_methD0 {pl : Sem Bool} (F : FnOk X.prog X.w X.K X.mg X.base CX k f fd ps sp) (hr : Room k X.A) (he : PE X o ta) (cl : Cls X.K C) (hm : Meth X.K C m f) (hb : Binds X.K fd ps []) (hx : ∀ σ, PassesAt CX X σ (E σ))
    (ht : eval (.Call (.Attribute o m apos) [] [] pos) X.env = (do let ov ← eval o X.env; standAt apos.atName; let (f, first) ← holding [ov] (getMethod ov m pl); callWith pos f first (backTo pos (starEach [] X.env)) (backToKw pos (keywordEach [] X.env))) := by rfl) :
    PE X (.Call (.Attribute o m apos) [] [] pos) (tMethD C m sp E ta tNil) := by
  refine ⟨fun pins s σ H Q I h => PySem.W.methodCall_KW (pl := pl) (thn (he.run pins s σ H _ I h) fun u s1 ⟨x, H1, I1, rx, a, dx, fs, ex, ea, l, q⟩ => ?_) ht⟩
  subst ex
  obtain rfl : u = Value.ref a := rx
  exact getmeth_ok I1 ea cl hm l (PySem.W.callWith_K0 (first := [.ref a]) I1.kIn hm.kp (run_fnSD (dvs := []) (us := [.ref a]) (vs := [.ref a]) F hr hb .nil (hx σ) I1 (.cons rfl .nil) q))
theorem run_mkD {pins : List (Addr × Obj)} {σ : L2.St} {H : Hp} {s : Shared} {Q : VK} {us : List Value} {vs : List V} (M : Mk X.K C f) (F : FnOk X.prog X.w X.K X.mg X.base CX k f fd ps sp) (hr : Room (k + 1) X.A) (hb : Binds X.K fd ps []) (hx : PassesAt CX X σ (E σ)) (I : Inv X pins σ H s) (r : Vals vs us)
    (hxn : ∀ (e : Value) (s1 s' : Shared) (H1 : Hp), Inv X pins σ H1 s1 → CX X.stack H1 s1 (E σ) e s' → X.xe e s')
    (h : ∀ x dx, H x = none → H dx = none → dx ≠ x → sp (.ref x :: vs) (upd (upd H dx (.own x)) x (.ins C dx [])) (fun v H2 => v = .non ∧ Q (.ref x) H2) (E σ)) : wpAny (model X.prog X.w) X.A (call (.ref C) us) (EP X pins σ Q) X.xe s := by
  have hq := h (s.heap.objs.size + 1) s.heap.objs.size (I.hok.fresh (Nat.le_succ _)) (I.hok.fresh (Nat.le_refl _)) (Nat.ne_of_lt (Nat.lt_succ_self _))
  have J := Inv.made (C := C) I
  have r2 : Vals (V.ref (s.heap.objs.size + 1) :: vs) (Value.ref (s.heap.objs.size + 1) :: us) := .cons rfl r
  have hl : (Value.ref (s.heap.objs.size + 1) :: us).length = ps.length := by have := F.len _ _ _ _ hq; rw [r2.length] at this; exact this
  have hbb := hb _ (Value.ref (s.heap.objs.size + 1) :: us) J.kIn (by rw [List.append_nil]; exact hl)
  rw [List.append_nil] at hbb
  refine wpAny_call (make_map (f := f) I.kIn M.makes M.init (beq_iff_eq.mp M.fn) (codeAny_mono (F.run _ X.stack _ _ ⟨_, []⟩ _ _ _ (E σ) (hr.make C us []) (J.env0.make C us []) hbb r2 hq) fun r s' hq' => ?_))
  match r, hq' with
  | .error e, z => exact hxn e _ s' _ J z
  | .ok (.ret u), z =>
    obtain ⟨v, H', I3, rv, ev, q3⟩ := J.after z
    subst ev
    exact ⟨rv, ⟨V.ref (s.heap.objs.size + 1), H', I3, rfl, q3⟩⟩
  | .ok .next, z => exact z.elim
  | .ok .brk, z => exact z.elim
  | .ok .cont, z => exact z.elim
theorem pe_makeD (M : Mk X.K C f) (F : FnOk X.prog X.w X.K X.mg X.base CX k f fd ps sp) (hr : Room (k + 1) X.A) (hg : Gl X x) (hm : X.mg x = some (.ref C)) (hb : Binds X.K fd ps []) (hx : ∀ σ, PassesAt CX X σ (E σ)) (ha : PA X (e :: es) t)
    (hdb : (x == ("__debug__" : Str)) = false := by decide) (he : starEach (e :: es) X.env = (false, eval e X.env) :: starEach es X.env := by rfl) (hpl : (backTo pos (starEach es X.env)).any (·.1) = false := by rfl) :
    PE X (.Call (.Name x p) (e :: es) [] pos) (tMakeD C sp E t) :=
  ⟨fun pins s σ H Q I h => wpAny_Call_Name_kw (ld_glob I hg hm (PySem.W.callWith_K (h₀ := X.base) I.ok.mod.kin M.kp (thn (ha.run pos pins s σ H _ I h) fun us s1 ⟨vs, H1, I1, r, q⟩ => ⟨I1.kIn, run_mkD (E := E) M F hr hb (hx σ) I1 r (hxn := fun e s1 s' H1 J z => hx σ pins H1 s1 e s' J z) q⟩) he hpl) hdb)⟩
end
/-! ### promises of methods -/
section
variable {α β ρ τ : Type} {c : Cn}
def spM (c : Cn) [Args τ] [Ob α] [Ob β] (f : α → τ → R (ρ × β)) (kr : ρ → Kd) : Sp := fun vs H Q E => ∃ (W : Wd) (y : α) (x : τ) (v : V) (vs1 : List V) (fp : List Addr),
  W.H = H ∧ vs = v :: vs1 ∧ Ob.own c.K y v fp W ∧ Args.reps c.K x vs1 W.G ∧ match f y x with
    | .ok r => ∀ u (W' : Wd) fp', LeX W fp W' → (kr r.1).p W u W' → Ob.own c.K r.2 v fp' W' → (∀ a ∈ fp', a ∈ fp ∨ W.H a = none) → Q u W'.H
    | .ex e => ∀ cls d (W' : Wd) fp', LeX W fp W' → ExAt c.M e cls d W' → Ob.own c.K y v fp' W' → (∀ a ∈ fp', a ∈ fp ∨ W.H a = none) → E cls d W'.H
    | .no => False
/-- __init__ -/
def spN (c : Cn) [Args τ] [Ob β] (cls : Str) (f : τ → R β) : Sp := fun vs H Q E => ∃ (W : Wd) (x : τ) (p : Addr) (vs1 : List V), W.H = H ∧ vs = .ref p :: vs1 ∧ Ob.own c.K (Ins.mk Fn.mk : Ins cls Fn) (.ref p) [p] W ∧ Args.reps c.K x vs1 W.G ∧ match f x with
    | .ok y => ∀ (W' : Wd) fp', LeX W [p] W' → Ob.own c.K y (.ref p) fp' W' → (∀ a ∈ fp', a ∈ [p] ∨ W.H a = none) → Q .non W'.H
    | .ex e => ∀ cls d (W' : Wd), LeX W [p] W' → ExAt c.M e cls d W' → E cls d W'.H
    | .no => False
theorem spM_len [Args τ] [Ob α] [Ob β] {f : α → τ → R (ρ × β)} {kr : ρ → Kd} (vs : List V) (H : Hp) (Q : VK) (E : XK) (h : spM c f kr vs H Q E) : vs.length = Args.num τ + 1 := by
  obtain ⟨W, y, x, v, vs1, fp, e, ev, o, r, _⟩ := h
  rw [ev, List.length_cons, Args.len r]
theorem spN_len [Args τ] [Ob β] {cls : Str} {f : τ → R β} (vs : List V) (H : Hp) (Q : VK) (E : XK) (h : spN c cls f vs H Q E) : vs.length = Args.num τ + 1 := by
  obtain ⟨W, x, p, vs1, e, ev, o, r, _⟩ := h
  rw [ev, List.length_cons, Args.len r]
/-- a body's end: the state of what was handed in | raising too -/
def moF (o : Out β Unit (Unit × β)) : R (Unit × β) := match o with
  | .nx y => .ok ((), y)
  | .rt r => .ok r
  | _ => .no
def moR (o : Out Empty Unit (ρ × β)) : R (ρ × β) := match o with
  | .rt r => .ok r
  | _ => .no
def moFX (o : Out β Unit (Unit × β)) : R (Unit × β) := match o with
  | .nx y => .ok ((), y)
  | .rt r => .ok r
  | .ex e => .ex e
  | _ => .no
def moRX (o : Out Empty Unit (ρ × β)) : R (ρ × β) := match o with
  | .rt r => .ok r
  | .ex e => .ex e
  | _ => .no
def moN (o : Out β Unit (Unit × β)) : R β := match o with
  | .nx y => .ok y
  | .ex e => .ex e
  | _ => .no
variable {N : List Str} {n : Nat} {t : TS} {vs : List V} {H : Hp} {Q : VK} {E : XK} [Args τ] [Ob α] [Ob β]
theorem m_start {W : Wd} {x : τ} {y : α} {vs1 : List V} {v : V} {fp : List Addr} (hN : N.length = Args.num τ + 1 + n) (o : Ob.own c.K y v fp W) (r : Args.reps c.K x vs1 W.G) :
    At c.K (W.wo fp fun a h => (Ob.foot o a h).1) (.ow (some v) y :: (Args.sl x ++ uns n)) (L2.start N (v :: vs1)) W := by
  have e : L2.start N (v :: vs1) = some v :: (vs1.map some ++ List.replicate n none) := by
    unfold L2.start
    have h : N.length - (v :: vs1).length = n := by rw [hN, List.length_cons, Args.len r]; omega
    rw [h]
    simp
  rw [e]
  have a0 : At c.K (W.wo fp fun a h => (Ob.foot o a h).1) (uns n) (List.replicate n none) W := (at_uns n).re Le.wo
  exact (Args.at_ r a0).consO (Args.no x _ (noOw_uns n)) o fun a ha => wo_in ha
theorem io_done' {W W' : Wd} {y : α} {v : V} {fp f : List Addr} (o : Ob.own c.K y v fp W) (e : Le (W.wo fp fun a h => (Ob.foot o a h).1) W') (hf : ∀ a ∈ f, (W.wo fp fun a h => (Ob.foot o a h).1).H a = none) : LeX W fp W' ∧ ∀ a ∈ f, a ∈ fp ∨ W.H a = none := by
  refine ⟨LeX.of e, fun a ha => ?_⟩
  by_cases q : a ∈ fp
  · exact .inl q
  · exact .inr (by have := hf a ha; rw [wo_ni q] at this; exact this)
theorem fn_mF {f : α → τ → R (Unit × β)} {m : α → τ → Out β Unit (Unit × β)} {Bs : V → β → List Sl} (h : spM c f (fun x => kFr c.K x) vs H Q E) (hN : N.length = Args.num τ + 1 + n) (hm : ∀ y x, f y x = moF (m y x)) (hj : ∀ v y, (Bs v y)[0]? = some (.ow (some v) y))
    (hd : ∀ (W : Wd) y x v, Den c (x0 E) (krIO c.K (fun x : Unit => kFr c.K x) v) (uns N.length) (fun _ : Unit => []) (bd0 W) t (.ow (some v) y :: (Args.sl x ++ uns n)) (m y x) (Bs v)) : t { nx := fun _ H' => Q .non H', rt := Q } (L2.start N vs) H := by
  obtain ⟨W, y, x, v, vs1, fp, eh, ev, o, r, k⟩ := h
  subst eh ev
  refine hd (W.wo fp fun a h => (Ob.foot o a h).1) y x v _ _ W (m_start hN o r) ?_
  rw [hm] at k
  revert k
  generalize m y x = q
  intro k
  cases q with
  | nx y' =>
    refine fun σ W' a => ?_
    obtain ⟨u, f', hu, o', pn, n0⟩ := a.varO (hj v y')
    have eu := pn v rfl
    subst eu
    obtain ⟨lx, hf⟩ := io_done' o a.le n0
    exact k _ W' f' lx rfl o' hf
  | rt r =>
    refine fun u W' l ⟨p, f', o', n0⟩ => ?_
    obtain ⟨lx, hf⟩ := io_done' o l n0
    exact k u W' f' lx p o' hf
  | bk j => exact k.elim
  | ct j => exact k.elim
  | ex e => exact k.elim
  | no => exact k.elim
theorem fn_mR {f : α → τ → R (ρ × β)} {m : α → τ → Out Empty Unit (ρ × β)} {kr : ρ → Kd} (pl : Plain kr) (h : spM c f kr vs H Q E) (hN : N.length = Args.num τ + 1 + n) (hm : ∀ y x, f y x = moR (m y x))
    (hd : ∀ (W : Wd) y x v, Den c (x0 E) (krIO c.K kr v) (uns N.length) (fun _ : Unit => []) (bd0 W) t (.ow (some v) y :: (Args.sl x ++ uns n)) (m y x) noSl) : t { nx := fun _ H' => Q .non H', rt := Q } (L2.start N vs) H := by
  obtain ⟨W, y, x, v, vs1, fp, eh, ev, o, r, k⟩ := h
  subst eh ev
  refine hd (W.wo fp fun a h => (Ob.foot o a h).1) y x v _ _ W (m_start hN o r) ?_
  rw [hm] at k
  revert k
  generalize m y x = q
  intro k
  cases q with
  | nx y' => exact y'.elim
  | rt r =>
    refine fun u W' l ⟨p, f', o', n0⟩ => ?_
    obtain ⟨lx, hf⟩ := io_done' o l n0
    exact k u W' f' lx (pl _ _ _ _ _ p) o' hf
  | bk j => exact k.elim
  | ct j => exact k.elim
  | ex e => exact k.elim
  | no => exact k.elim
theorem fn_mFX {f : α → τ → R (Unit × β)} {m : α → τ → Out β Unit (Unit × β)} {Bs : V → β → List Sl} (h : spM c f (fun x => kFr c.K x) vs H Q E) (hN : N.length = Args.num τ + 1 + n) (hm : ∀ y x, f y x = moFX (m y x)) (hj : ∀ v y, (Bs v y)[0]? = some (.ow (some v) y))
    (hd : ∀ (W : Wd) y x v, Den c (x0 E) (krIO c.K (fun x : Unit => kFr c.K x) v) (.ow (some v) y :: uns (N.length - 1)) (fun _ : Unit => []) (bd0 W) t (.ow (some v) y :: (Args.sl x ++ uns n)) (m y x) (Bs v)) : t { nx := fun _ H' => Q .non H', rt := Q } (L2.start N vs) H := by
  obtain ⟨W, y, x, v, vs1, fp, eh, ev, o, r, k⟩ := h
  subst eh ev
  refine hd (W.wo fp fun a h => (Ob.foot o a h).1) y x v _ _ W (m_start hN o r) ?_
  rw [hm] at k
  revert k
  generalize m y x = q
  intro k
  cases q with
  | nx y' =>
    refine fun σ W' a => ?_
    obtain ⟨u, f', hu, o', pn, n0⟩ := a.varO (hj v y')
    have eu := pn v rfl
    subst eu
    obtain ⟨lx, hf⟩ := io_done' o a.le n0
    exact k _ W' f' lx rfl o' hf
  | rt r =>
    refine fun u W' l ⟨p, f', o', n0⟩ => ?_
    obtain ⟨lx, hf⟩ := io_done' o l n0
    exact k u W' f' lx p o' hf
  | bk j => exact k.elim
  | ct j => exact k.elim
  | ex e =>
    refine fun cls d σ W' a z => ?_
    obtain ⟨u, f', hu, o', pn, n0⟩ := a.varO (show (.ow (some v) y :: uns (N.length - 1))[0]? = some (.ow (some v) y) from rfl)
    have eu := pn v rfl
    subst eu
    obtain ⟨lx, hf⟩ := io_done' o a.le n0
    exact k cls d W' f' lx z o' hf
  | no => exact k.elim
theorem fn_mRX {f : α → τ → R (ρ × β)} {m : α → τ → Out Empty Unit (ρ × β)} {kr : ρ → Kd} (pl : Plain kr) (h : spM c f kr vs H Q E) (hN : N.length = Args.num τ + 1 + n) (hm : ∀ y x, f y x = moRX (m y x))
    (hd : ∀ (W : Wd) y x v, Den c (x0 E) (krIO c.K kr v) (.ow (some v) y :: uns (N.length - 1)) (fun _ : Unit => []) (bd0 W) t (.ow (some v) y :: (Args.sl x ++ uns n)) (m y x) noSl) : t { nx := fun _ H' => Q .non H', rt := Q } (L2.start N vs) H := by
  obtain ⟨W, y, x, v, vs1, fp, eh, ev, o, r, k⟩ := h
  subst eh ev
  refine hd (W.wo fp fun a h => (Ob.foot o a h).1) y x v _ _ W (m_start hN o r) ?_
  rw [hm] at k
  revert k
  generalize m y x = q
  intro k
  cases q with
  | nx y' => exact y'.elim
  | rt r =>
    refine fun u W' l ⟨p, f', o', n0⟩ => ?_
    obtain ⟨lx, hf⟩ := io_done' o l n0
    exact k u W' f' lx (pl _ _ _ _ _ p) o' hf
  | bk j => exact k.elim
  | ct j => exact k.elim
  | ex e =>
    refine fun cls d σ W' a z => ?_
    obtain ⟨u, f', hu, o', pn, n0⟩ := a.varO (show (.ow (some v) y :: uns (N.length - 1))[0]? = some (.ow (some v) y) from rfl)
    have eu := pn v rfl
    subst eu
    obtain ⟨lx, hf⟩ := io_done' o a.le n0
    exact k cls d W' f' lx z o' hf
  | no => exact k.elim
theorem fn_N {cls : Str} {f : τ → R β} {m : τ → Out β Unit (Unit × β)} {Bs : V → β → List Sl} (h : spN c cls f vs H Q E) (hN : N.length = Args.num τ + 1 + n) (hm : ∀ x, f x = moN (m x)) (hj : ∀ v y, (Bs v y)[0]? = some (.ow (some v) y))
    (hd : ∀ (W : Wd) x v, Den c (x0 E) (krIO c.K (fun x : Unit => kFr c.K x) v) (uns N.length) (fun _ : Unit => []) (bd0 W) t (.ow (some v) (Ins.mk Fn.mk : Ins cls Fn) :: (Args.sl x ++ uns n)) (m x) (Bs v)) : t { nx := fun _ H' => Q .non H', rt := Q } (L2.start N vs) H := by
  obtain ⟨W, x, p, vs1, eh, ev, o, r, k⟩ := h
  subst eh ev
  refine hd (W.wo [p] fun a h => (Ob.foot o a h).1) x (.ref p) _ _ W (m_start hN o r) ?_
  rw [hm] at k
  revert k
  generalize m x = q
  intro k
  cases q with
  | nx y' =>
    refine fun σ W' a => ?_
    obtain ⟨u, f', hu, o', pn, n0⟩ := a.varO (hj (.ref p) y')
    have eu := pn _ rfl
    subst eu
    obtain ⟨lx, hf⟩ := io_done' o a.le n0
    exact k W' f' lx o' hf
  | rt r => exact k.elim
  | bk j => exact k.elim
  | ct j => exact k.elim
  | ex e => exact fun cls d σ W' a z => k cls d W' (LeX.of (h := fun b hb => (Ob.foot o b hb).1) a.le) z
  | no => exact k.elim
end
end Fw

namespace Fw
open PySem L2
/-! ### calls of methods -/
section
variable {α β γ ρ τ φ φ' : Type} {cls m : Str} {C : Addr} {ns : List Str} {c : Cn} {W0 : Wd} {X : WX} {As : List Sl} [Args τ] [Fs φ] [Fs φ']
/-- a method that changes nothing, of a frozen instance -/
theorem r_meth {f : Ins cls φ × τ → R ρ} {kr : ρ → Kd} {te : TE} {ta : TA} {mo : R (Ins cls φ)} {n : R τ} (ct : ClT c.K cls C ns) (hm : m ∉ Fs.names φ) (ho : Exr c W0 X te As mo fun x => kFr c.K x) (ha : Axr c W0 X ta As n fun x => kAs c.K x) :
    Exr c W0 X (tMethD C m (spF c f kr) (WE X) te ta) As (mo.bind fun o => n.bind fun z => f (o, z)) kr := fun σ W a => by
  have ho' := ho σ W a
  have ha' := ha σ W a
  cases mo with
  | no => trivial
  | ex e => exact fun W1 e1 Q q => ho' W1 e1 _ q
  | ok o =>
    have ins : ∀ {W2 : Wd} {v : V}, Rp.rep c.K o v W2.G → ∃ p dx fs, v = .ref p ∧ W2.H p = some (.ins C dx fs) ∧ fs.lookup m = none := fun {W2 v} ⟨p, C', dx, fs, ev, hp, hc, r⟩ => by
      obtain rfl := ct.eq hc
      exact ⟨p, dx, fs, ev, W2.sub _ _ hp, lookup_none (by rw [Fs.rm r]; exact hm)⟩
    cases n with
    | no => trivial
    | ex e =>
      intro W1 e1 Q q
      refine ho' W1 e1 _ fun v W2 e2 p => ?_
      have p' : Rp.rep c.K o v W2.G := p
      obtain ⟨b, dx, fs, ev, hb, hl⟩ := ins (W2 := W2) (v := v) p'
      exact ⟨b, dx, fs, ev, hb, hl, ha' W2 (e1.trans e2) _ fun cls d W3 e3 z => q cls d W3 (e2.trans e3) z⟩
    | ok z =>
      show SatR (f (o, z)) _ _
      have go : ∀ W1, Le W W1 → ∀ (Q : VK) (E : XK), (∀ v vs W2 W3, Le W1 W2 → Le W2 W3 → Rp.rep c.K o v W3.G → Args.reps c.K z vs W3.G → spF c f kr (v :: vs) W3.H Q E) → E = WE X σ → tMethD C m (spF c f kr) (WE X) te ta σ W1.H Q := by
        intro W1 e1 Q E hsp hE
        refine ho' W1 e1 _ fun v W2 e2 p => ?_
        have p' : Rp.rep c.K o v W2.G := p
        obtain ⟨b, dx, fs, ev, hb, hl⟩ := ins (W2 := W2) (v := v) p'
        refine ⟨b, dx, fs, ev, hb, hl, ha' W2 (e1.trans e2) _ fun vs W3 e3 r => ?_⟩
        rw [← hE]
        exact hsp v vs W2 W3 e2 e3 (Rp.mono e3.g p') r
      cases hf : f (o, z) with
      | no => trivial
      | ex e =>
        intro W1 e1 Q q
        refine go W1 e1 Q _ (fun v vs W2 W3 e2 e3 r1 r2 => ?_) rfl
        refine ⟨W3, (o, z), rfl, ⟨v, vs, rfl, r1, r2⟩, ?_⟩
        rw [hf]
        exact fun cls d W4 e4 z => q cls d W4 (e2.trans (e3.trans e4)) z
      | ok y =>
        intro W1 e1 Q q
        refine go W1 e1 Q _ (fun v vs W2 W3 e2 e3 r1 r2 => ?_) rfl
        refine ⟨W3, (o, z), rfl, ⟨v, vs, rfl, r1, r2⟩, ?_⟩
        rw [hf]
        exact fun u W4 e4 k => q u W4 (e2.trans (e3.trans e4)) ((kr y).dn (e2.trans e3) k)
/-- C(..) -/
theorem r_make [Ob β] {f : τ → R β} {ta : TA} {n : R τ} (ct : ClT c.K cls C ns) (ha : Axr c W0 X ta As n fun x => kAs c.K x) : Exr c W0 X (tMakeD C (spN c cls f) (WE X) ta) As (n.bind f) fun y => kNw c.K y := fun σ W a => by
  have ha' := ha σ W a
  cases n with
  | no => trivial
  | ex e => exact fun W1 e1 Q q => ha' W1 e1 _ q
  | ok z =>
    show SatR (f z) _ _
    have mk : ∀ {W2 : Wd} {x dx : Addr}, W2.H x = none → W2.H dx = none → dx ≠ x → ∃ W3 : Wd, W3.H = upd (upd W2.H dx (.own x)) x (.ins C dx []) ∧ Le W2 W3 ∧ Ob.own c.K (Ins.mk Fn.mk : Ins cls Fn) (.ref x) [x] W3 := fun {W2 x dx} hx hd hne => by
      have hx2 : (W2.nf dx (.own x)).H x = none := by show upd W2.H dx _ x = none; rw [upd_ne (Ne.symm hne)]; exact hx
      have l1 : Le W2 (W2.nf dx (.own x)) := Le.nf hd
      exact ⟨(W2.nf dx (.own x)).no x (.ins C dx []) hx2, rfl, l1.trans (Le.no hx2), x, C, dx, [], [], rfl, rfl, by simp, (W2.nf dx (.own x)).sub.nope hx2, upd_same, ct.at_, rfl, rfl⟩
    have up : ∀ {W1 W2 W3 W4 : Wd} {x dx : Addr}, W2.H x = none → Le W2 W3 → LeX W3 [x] W4 → Le W2 W4 := fun {W1 W2 W3 W4 x dx} hx l3 lx => ⟨l3.g.trans lx.g, fun a o h => by
      have ax : a ≠ x := ne_of_none h hx
      rw [lx.h a (fun z => ax (List.mem_singleton.mp z)) (by rw [l3.h a o h]; exact fun z => nomatch z)]
      exact l3.h a o h, fun a g n => by
      have ax : a ≠ x := fun z => n (by rw [z]; exact hx)
      exact lx.o a (fun z => ax (List.mem_singleton.mp z)) (l3.o a g n) (fun z => n (l3.h.nope z))⟩
    cases hf : f z with
    | no => trivial
    | ex e =>
      intro W1 e1 Q q
      refine ha' W1 e1 _ fun vs W2 e2 r x dx hx hd hne => ?_
      obtain ⟨W3, h3, l3, o3⟩ := mk (W2 := W2) hx hd hne
      rw [← h3]
      refine ⟨W3, z, x, vs, rfl, rfl, o3, Args.mono l3.g r, ?_⟩
      rw [hf]
      exact fun cls d W4 lx ea => q cls d W4 (e2.trans (up (W1 := W1) (dx := dx) hx l3 lx)) ea
    | ok y =>
      intro W1 e1 Q q
      refine ha' W1 e1 _ fun vs W2 e2 r x dx hx hd hne => ?_
      obtain ⟨W3, h3, l3, o3⟩ := mk (W2 := W2) hx hd hne
      rw [← h3]
      refine ⟨W3, z, x, vs, rfl, rfl, o3, Args.mono l3.g r, ?_⟩
      rw [hf]
      refine fun W4 f4 lx o4 hf4 => ⟨rfl, q _ W4 (e2.trans (up (W1 := W1) (dx := dx) hx l3 lx)) ⟨f4, o4, fun a ha => ?_⟩⟩
      rcases hf4 a ha with z | z
      · rw [List.mem_singleton.mp z]; exact e2.h.nope hx
      · exact e2.h.nope (l3.h.nope z)
variable {J S : Type} {ρ' : Type} {kr' : ρ' → Kd} {Ls : List Sl} {Js : J → List Sl} {B : Bd} {Bs : S → List Sl}
/-- P.m(..): the call alone; what is raised leaves all as it is -/
theorem d_callM [Ob β] {f : Ins cls φ → τ → R (ρ × β)} {kr : ρ → Kd} {td : TE} {ta : TA} {n : R τ} {x : Ins cls φ} {up : β → List Sl} {u : TS} {k : β → Out S J ρ'} (ct : ClT c.K cls C ns) (hm : m ∉ Fs.names φ) (pl : Plc c B.W0 td As x up) (lx : Lx Ls As)
    (ha : Axr c B.W0 X ta As n fun x => kAs c.K x) (hk : ∀ y, Den c X kr' Ls Js B u (up y) (k y) Bs) :
    Den c X kr' Ls Js B (tSeq (tDrop (tMethD C m (spM c f kr) (WE X) td ta)) u) As (n.to fun z => (f x z).to fun r => k r.2) Bs := fun D σ W a fn => by
  obtain ⟨v, fp, ev, o, chg, chg0⟩ := pl σ W a
  have ha' := ha σ W a
  have o0 := o
  obtain ⟨p, C', dx, fs, f1, e1, ef, np, g, hp, hc, of⟩ := o
  obtain rfl := ct.eq hc
  subst e1 ef
  have hl : fs.lookup m = none := lookup_none (by rw [Fs.nm of]; exact hm)
  refine ev W (Le.refl _) _ fun Wa ea => ⟨p, dx, fs, rfl, ea.h _ _ hp, hl, ?_⟩
  cases n with
  | no => exact False.elim fn
  | ex e => exact ha' Wa ea _ fun cls d W2 e2 z => fn cls d σ W2 (lx_at lx (a.mono (ea.trans e2))) z
  | ok z =>
    refine ha' Wa ea _ fun vs W2 eb r => ?_
    have e2 := ea.trans eb
    have own2 : Ob.own c.K x (.ref p) (p :: f1) W2 := own_up o0 e2
    have fn' : Fin c X kr' Ls Js B Bs D ((f x z).to fun r => k r.2) := fn
    refine ⟨W2, x, z, .ref p, vs, p :: f1, rfl, rfl, own2, r, ?_⟩
    cases hf : f x z with
    | no => rw [hf] at fn'; exact False.elim fn'
    | ex e =>
      rw [hf] at fn'
      exact fun cls d W3 f3 lx3 ea3 o3 h3 => fn' cls d σ W3 (lx_at lx (chg0 W2 e2 W3 f3 lx3 o3 h3)) ea3
    | ok r =>
      rw [hf] at fn'
      exact fun u W3 f3 lx3 _ o3 h3 => hk _ D σ W3 (chg W2 e2 W3 r.2 f3 lx3 o3 h3) fn'
end
end Fw

namespace Fw
open PySem L2
/-! ### changes of the fields of what a slot holds -/
section
variable {φ φ' α β κ τ ρ : Type} {n m cls : Str} [Fs φ] [Fs φ'] {J S ρ' : Type} {c : Cn} {X : WX} {kr : ρ' → Kd} {Ls : List Sl} {Js : J → List Sl} {B : Bd} {As : List Sl} {Bs : S → List Sl} {C : Addr} {ns : List Str} {x : Ins cls φ} {pin : Option V}
variable [DecidableEq κ] [Rp κ] [DKy κ]
theorem d_dputF [Rp α] {te ti : TE} {u : TS} {mo : R α} {no : R κ} {k : Ins cls φ' → Out S J ρ'} (s : Sel φ φ' n (Dq κ α) (Dq κ α)) (ct : ClT c.K cls C ns) (hn : n ∈ ns) (i : Nat) (hi : As[i]? = some (.ow pin x)) (lx : Lx Ls As) (h : Exr c B.W0 X te As mo fun x => kFr c.K x) (hk1 : Exr c B.W0 X ti As no fun x => kFr c.K x)
    (g : Dq κ α) (hg : s.get x.f = g) (v : Dq κ α → Ins cls φ') (hv : ∀ d, Ins.mk (s.set x.f d) = v d) (hk : ∀ z : Ins cls φ', Den c X kr Ls Js B u (As.set i (.ow pin z)) (k z) Bs) :
    Den c X kr Ls Js B (tSeq (sDPut (tFld c.K (tVar i) n) ti te) u) As (mo.to fun y => no.to fun j => (R.dput (Dk.mk g.l) j y).to fun z => lt (v (Dq.mk z.l)) k) Bs := by
  obtain rfl : (fun d => Ins.mk (s.set x.f d)) = v := funext hv
  subst hg
  exact d_dputP (k := fun d => k (Ins.mk (s.set x.f d))) (plc_fld s ct hn i hi) lx h hk1 fun ys => hk _
theorem d_sdAppF [Rp α] {tk ty : TE} {u : TS} {no : R κ} {mo : R α} {k : Ins cls φ' → Out S J ρ'} (s : Sel φ φ' n (DGk κ α) (DGk κ α)) (ct : ClT c.K cls C ns) (hn : n ∈ ns) (i : Nat) (hi : As[i]? = some (.ow pin x)) (lx : Lx Ls As) (h : Exr c B.W0 X tk As no fun x => kFr c.K x) (hy : Exr c B.W0 X ty As mo fun x => kFr c.K x)
    (hyu : ∀ z : Ins cls φ', Exr c B.W0 X ty (As.set i (.ow pin z)) mo fun x => kFr c.K x) (g : DGk κ α) (hg : s.get x.f = g) (v : DGk κ α → Ins cls φ') (hv : ∀ d, Ins.mk (s.set x.f d) = v d) (hk : ∀ z : Ins cls φ', Den c X kr Ls Js B u (As.set i (.ow pin z)) (k z) Bs) :
    Den c X kr Ls Js B (tSeq (tDrop (tBM c.K "list" rAppend (tDSetG (tFld c.K (tVar i) n) tk (tLst tNil)) (tCons ty tNil))) u) As (no.to fun q => mo.np.to fun y => (R.sdk g q y).to fun z => lt (v z) k) Bs := by
  obtain rfl : (fun d => Ins.mk (s.set x.f d)) = v := funext hv
  subst hg
  exact d_sdAppP (kk := fun d => k (Ins.mk (s.set x.f d))) (plc_fld s ct hn i hi) lx h hy (fun z => hyu _) fun ys => hk _
theorem d_lkF [Rp α] {t : TS} {k : Ins cls φ' → Out S J ρ'} (s : Sel φ φ' n (DGk κ α) (Fr (Dk κ (List α)))) (ct : ClT c.K cls C ns) (hn : n ∈ ns) (i : Nat) (hi : As[i]? = some (.ow pin x)) (v : Ins cls φ') (hv : Ins.mk (s.set x.f ⟨⟨(s.get x.f).l⟩⟩) = v) (hk : ∀ z : Ins cls φ', Den c X kr Ls Js B t (As.set i (.ow pin z)) (k z) Bs) :
    Den c X kr Ls Js B (tLkS t) As (lt v k) Bs := hv ▸ d_lkP (plc_fld s ct hn i hi) (hk _)
/-- x.m(..), x one's own: the call alone -/
theorem d_callS [Args τ] {f : Ins cls φ → τ → R (ρ × Ins cls φ')} {kr' : ρ → Kd} {ta : TA} {no : R τ} {u : TS} {k : Ins cls φ' → Out S J ρ'} (ct : ClT c.K cls C ns) (hm : m ∉ Fs.names φ) (i : Nat) (hi : As[i]? = some (.ow pin x)) (lx : Lx Ls As) (ha : Axr c B.W0 X ta As no fun x => kAs c.K x) (hk : ∀ y, Den c X kr Ls Js B u (As.set i (.ow pin y)) (k y) Bs) :
    Den c X kr Ls Js B (tSeq (tDrop (tMethD C m (spM c f kr') (WE X) (tVar i) ta)) u) As (no.to fun z => (f x z).to fun r => lt r.2 k) Bs := d_callM ct hm (plc_var i hi) lx ha hk
/-- return, where a thing handed in was changed -/
theorem d_retN0 [Ob α] {J : Type} {Ls : List Sl} {Js : J → List Sl} {B : Bd} {v : V} {u : TS} {y : α} {S : Type} {Bs : S → List Sl} (j : Nat) (hj : As[j]? = some (.ow (some v) y)) : Den c X (krIO c.K (fun x : Unit => kFr c.K x) v) Ls Js B (tSeq tRetN u) As (.rt ((), y)) Bs := fun D σ W a f => by
  refine f .non W a.le ?_
  obtain ⟨u', f', hu, o', pn, n0⟩ := a.varO hj
  have eu := pn v rfl
  subst eu
  exact ⟨rfl, f', o', fun b hb => B.le.h.nope (n0 b hb)⟩
end
section
variable {X : Cx} {K : Frag} {e : Expr} {f : Str} {pos : Pos} {ta : TE}
theorem pe_fldK (hK : X.K = K) (he : PE X e ta) (hb : attributeBase e f X.env (eval e X.env) = eval e X.env := by rfl) : PE X (.Attribute e f pos) (tFld K ta f) := hK ▸ pe_fld he hb
end
theorem noA_nil {K : Frag} {C : Addr} : ∀ n ∈ ([] : List Str), NoAttr K C n := fun n h => by cases h
theorem noA_cons {K : Frag} {C : Addr} {m : Str} {ns : List Str} (h : NoAttr K C m) (t : ∀ n ∈ ns, NoAttr K C n) : ∀ n ∈ m :: ns, NoAttr K C n := fun n hn => by
  rcases List.mem_cons.mp hn with z | z
  · rw [z]; exact h
  · exact t n z
/-! ### d.get(k) -/
section
variable {κ α : Type} [DecidableEq κ] [Rp κ] [DKy κ] [Rp α] {c : Cn} {W0 : Wd} {X : WX} {As : List Sl}
instance [KT α] : NN (Ky α) := ⟨fun ⟨p, e, _⟩ z => by rw [e] at z; cases z⟩
theorem r_dget1 [NN α] {td ty : TE} {m : R (Dk κ α)} {n : R κ} (h : Exr c W0 X td As m fun x => kDs c.K x) (hn : Exr c W0 X ty As n fun x => kFr c.K x) : Exr c W0 X (tDGet1 td ty) As (m.bind fun x => n.bind fun k => .ok (dval x.l k)) fun x : Option α => kFr c.K x := fun σ W a => by
  have h1 := h σ W a
  have h2 := hn σ W a
  cases m with
  | no => trivial
  | ex e => exact fun W1 e1 Q q => h1 W1 e1 _ q
  | ok x =>
    cases n with
    | no => trivial
    | ex e =>
      intro W1 e1 Q q
      refine h1 W1 e1 _ fun v W2 e2 ⟨p, qs, ev, hp, d, l⟩ => ?_
      exact ⟨p, ev, DKy.isD hp, h2 W2 (e1.trans e2) _ fun cls d W3 e3 z => q cls d W3 (e2.trans e3) z⟩
    | ok k =>
      intro W1 e1 Q q
      refine h1 W1 e1 _ fun v W2 e2 ⟨p, qs, ev, hp, d, l⟩ => ?_
      refine ⟨p, ev, DKy.isD hp, h2 W2 (e1.trans e2) _ fun w W3 e3 pk => ⟨valV qs k, DKy.get pk W3.sub (rd_inc e3.h hp), q _ W3 (e2.trans e3) ?_⟩⟩
      show Rp.rep c.K (dval x.l k) _ _
      cases hv : dval x.l k with
      | none => rw [d.none hv]; rfl
      | some y =>
        obtain ⟨t, et, rt⟩ := d.some hv
        rw [et]
        exact ⟨NN.nn rt, Rp.mono e3.g rt⟩
end
end Fw

namespace Fw
open PySem L2
/-! ### a, b = a list -/
def R.two {α : Type} : List α → R (α × α)
  | [a, b] => .ok (a, b)
  | _ => .no
section
variable {J S ρ α : Type} {c : Cn} {X : WX} {kr : ρ → Kd} {Ls : List Sl} {Js : J → List Sl} {B : Bd} {As : List Sl} {Bs : S → List Sl} {W0 : Wd}
theorem d_getL2 [Rp α] {te : TE} {u : TS} {m : R (List α)} {k : α → α → Out S J ρ} (i j : Nat) (lx : Lx Ls As) (h : Exr c B.W0 X te As m fun x => kSh c.K x) (hk : ∀ y z, Den c X kr Ls Js B u ((As.set i (.fr y)).set j (.fr z)) (k y z) Bs) :
    Den c X kr Ls Js B (tSeq (tAsg te (gLst c.K 2 (gCons (gName i) (gCons (gName j) gNil)))) u) As ((m.bind R.two).to2 k) Bs := fun D σ W a f => by
  have h' := h σ W a
  cases m with
  | no => exact False.elim f
  | ex e => exact h' W (Le.refl _) _ fun cls d W2 e2 z => f cls d σ W2 (lx_at lx (a.mono e2)) z
  | ok x =>
    match x, h', f with
    | [], _, f => exact False.elim f
    | [_], _, f => exact False.elim f
    | _ :: _ :: _ :: _, _, f => exact False.elim f
    | [y, z], h', f =>
      refine h' W (Le.refl _) _ fun v W2 e ⟨p, vs, ev, hp, al, l⟩ => ?_
      obtain ⟨va, e1, r1⟩ := al.get (i := 0) (x := y) rfl
      obtain ⟨vb, e2, r2⟩ := al.get (i := 1) (x := z) rfl
      have e3 : vs = [va, vb] := by
        match vs, al.1, e1, e2 with
        | [a, b], _, e1, e2 => cases e1; cases e2; rfl
      subst e3
      exact ⟨p, _, ev, hp, rfl, va, [vb], rfl, vb, [], rfl, rfl, hk y z D _ W2 (((a.mono e).setF r1).setF r2) f⟩
end
/-! ### x < y, data that are alike -/
def rLtD (K : Frag) : V → V → Hp → VK → Prop := fun x y H Q => ∃ da db, RdD K da x H ∧ RdD K db y H ∧ PySem.W.alike da db = true ∧ da ≠ .none ∧ da.depth ≤ 8 ∧ Q (.bl (PySem.W.dataLt da db)) H
theorem op_ltD {X : Cx} (hu : X.A.units + 8 < cLine) : OpR X (compareOp .Lt) (rLtD X.K) := by
  rintro pins s σ H x y u v Q I rx ry ⟨da, db, ra, rb, al, nn, dp, q⟩
  exact PySem.W.lt_data (ra _ _ _ _ I.kIn I.hok rx) (rb _ _ _ _ I.kIn I.hok ry) al nn (by omega) ⟨V.bl _, H, I, rfl, q⟩
theorem hu8 {A : Around} {k : Nat} (hr : Room k A) : A.units + 8 < cLine := by have := hr.un; omega
section
variable {α : Type} [Rp α] [Pd α] [DecidableEq α] [Lt α] [Rdd α] {K : Frag}
theorem o_ltD (hn : ∀ x : α, Pd.pd x ≠ .none := by intro x; exact fun z => nomatch z) (h8 : Pd.n α ≤ 8 := by decide) : Op2 (rLtD K) (fun x : α => kFr K x) (fun x : α => kFr K x) (fun x y => .ok (Lt.lt x y)) (fun z : Bool => kFr K z) := fun x y W0 W v w hv hw Q q =>
  ⟨Pd.pd x, Pd.pd y, Rdd.rd W.sub hv, Rdd.rd W.sub hw, Lt.al x y, hn x, Nat.le_trans (Pd.dep hv) h8, q _ W (Le.refl _) (show V.bl _ = V.bl _ by rw [Lt.is])⟩
end
/-! ### a thing that is gone: nothing is known of it -/
structure Gone where
deriving DecidableEq
instance : Rp Gone := ⟨fun _ _ _ _ => True, fun _ h => h⟩
instance : Fz Gone where
  own := fun _ _ _ f _ => f = []
  keep := fun h _ _ _ => h
  foot := fun h a ha => by
    have h' := h
    subst h'
    cases ha
  fz := fun _ => trivial
section
variable {J S ρ α β γ : Type} {c : Cn} {X : WX} {kr : ρ → Kd} {Ls : List Sl} {Js : J → List Sl} {B : Bd} {As : List Sl} {Bs : S → List Sl} {W0 : Wd}
/-- x[0].append(any thing): that list is known no more -/
theorem d_gone0 [Rp α] [Fz β] [Rp γ] {pin : Option V} {u : TS} {x : List α × β} {y : γ} {k : Gone × β → Out S J ρ} {ti te : TE} (i : Nat) (hi : As[i]? = some (.ow pin x)) (hti : Exp c B.W0 ti As (kFr c.K (0 : Int))) (hte : Exp c B.W0 te As (kFr c.K y)) (hk : ∀ z : Gone × β, Den c X kr Ls Js B u (As.set i (.ow pin z)) (k z) Bs) :
    Den c X kr Ls Js B (tSeq (tDrop (tBM c.K "list" rAppend (tOp (rIxT c.K) (tVar i) ti) (tCons te tNil))) u) As ((if x.1.length < sizeLine then R.ok () else R.no).to fun _ => k (⟨⟩, x.2)) Bs := fun D σ W a f => by
  obtain ⟨v, fp, hv, o, n0, chg⟩ := a.chgG hi
  obtain ⟨p, va, vb, fa, fb, e, hp, ef, o1, o2, d⟩ := o
  subst e ef
  by_cases cz : x.1.length < sizeLine
  case neg => rw [if_neg cz] at f; exact False.elim f
  rw [if_pos cz] at f
  refine ⟨_, hv, hti σ W a W (Le.refl _) _ fun w W2 e2 hw => ?_⟩
  have hw' : w = .int 0 := hw
  subst hw'
  have hp2 := e2.g _ _ hp
  have o1' := own_up o1 e2
  obtain ⟨q, vs, e3, ef3, g, hh, al, l⟩ := o1'
  subst e3 ef3
  refine ⟨p, [.ref q, vb], 0, .ref q, rfl, rfl, W2.sub.sqt (.inl (.inl hp2)), rfl, .inl ⟨rfl, vs, .inl (.inl hh)⟩, ?_⟩
  refine hte σ W a W2 e2 _ fun t W3 e3 _ => ?_
  have e23 := e2.trans e3
  have g3 : W3.G q = none := e3.o q g (by rw [hh]; exact fun z => nomatch z)
  refine ⟨q, vs, t, rfl, rfl, e3.h _ _ hh, by rw [← al.1]; exact cz, ?_⟩
  have o2' := own_up o2 e23
  have nq : q ∉ fb := d q (List.mem_singleton.mpr rfl)
  have lx := lx_of e23 (lx_mt (W := W3) (p := q) (o := .lst (vs ++ [t])) (g := g3) (hi := rfl))
  refine hk (⟨⟩, x.2) D σ _ (chg (Gone × β) _ (⟨⟩, x.2) (W3.mt q (.lst (vs ++ [t])) g3) fb lx.g (fun b hb => lx.o b fun z => hb (List.mem_append_left _ z)) (fun b hb => lx.h b fun z => hb (List.mem_append_left _ z)) ⟨p, _, vb, [], fb, rfl, e3.g _ _ hp2, rfl, rfl, Ob.keep o2' (Inc.refl _) (fun b hb => (Ob.foot o2' b hb).1) (fun b hb => upd_ne fun z => nq (z ▸ hb)), fun b hb => by cases hb⟩ fun b hb => .inl (List.mem_append_right _ hb)) f
theorem d_gone1 [Fz α] [Rp β] [Rp γ] {pin : Option V} {u : TS} {x : α × List β} {y : γ} {k : α × Gone → Out S J ρ} {ti te : TE} (i : Nat) (hi : As[i]? = some (.ow pin x)) (hti : Exp c B.W0 ti As (kFr c.K (1 : Int))) (hte : Exp c B.W0 te As (kFr c.K y)) (hk : ∀ z : α × Gone, Den c X kr Ls Js B u (As.set i (.ow pin z)) (k z) Bs) :
    Den c X kr Ls Js B (tSeq (tDrop (tBM c.K "list" rAppend (tOp (rIxT c.K) (tVar i) ti) (tCons te tNil))) u) As ((if x.2.length < sizeLine then R.ok () else R.no).to fun _ => k (x.1, ⟨⟩)) Bs := fun D σ W a f => by
  obtain ⟨v, fp, hv, o, n0, chg⟩ := a.chgG hi
  obtain ⟨p, va, vb, fa, fb, e, hp, ef, o1, o2, d⟩ := o
  subst e ef
  by_cases cz : x.2.length < sizeLine
  case neg => rw [if_neg cz] at f; exact False.elim f
  rw [if_pos cz] at f
  refine ⟨_, hv, hti σ W a W (Le.refl _) _ fun w W2 e2 hw => ?_⟩
  have hw' : w = .int 1 := hw
  subst hw'
  have hp2 := e2.g _ _ hp
  have o2' := own_up o2 e2
  obtain ⟨q, vs, e3, ef3, g, hh, al, l⟩ := o2'
  subst e3 ef3
  refine ⟨p, [va, .ref q], 1, .ref q, rfl, rfl, W2.sub.sqt (.inl (.inl hp2)), rfl, .inl ⟨rfl, vs, .inl (.inl hh)⟩, ?_⟩
  refine hte σ W a W2 e2 _ fun t W3 e3 _ => ?_
  have e23 := e2.trans e3
  have g3 : W3.G q = none := e3.o q g (by rw [hh]; exact fun z => nomatch z)
  refine ⟨q, vs, t, rfl, rfl, e3.h _ _ hh, by rw [← al.1]; exact cz, ?_⟩
  have o1' := own_up o1 e23
  have nq : q ∉ fa := fun z => d q z (List.mem_singleton.mpr rfl)
  have lx := lx_of e23 (lx_mt (W := W3) (p := q) (o := .lst (vs ++ [t])) (g := g3) (hi := rfl))
  refine hk (x.1, ⟨⟩) D σ _ (chg (α × Gone) _ (x.1, ⟨⟩) (W3.mt q (.lst (vs ++ [t])) g3) (fa ++ []) lx.g (fun b hb => lx.o b fun z => hb (List.mem_append_right _ z)) (fun b hb => lx.h b fun z => hb (List.mem_append_right _ z)) ⟨p, va, _, fa, [], rfl, e3.g _ _ hp2, rfl, Ob.keep o1' (Inc.refl _) (fun b hb => (Ob.foot o1' b hb).1) (fun b hb => upd_ne fun z => nq (z ▸ hb)), rfl, fun b hb z => by cases z⟩ fun b hb => .inl (by rw [List.append_nil] at hb; exact List.mem_append_left _ hb)) f
end
end Fw

namespace Fw
open PySem L2
section
variable {J S ρ α β : Type} {c : Cn} {X : WX} {Ls : List Sl} {Js : J → List Sl} {B : Bd} {As : List Sl} {Bs : S → List Sl} {W0 : Wd}
/-- return (e, x): e new, x one's own -/
theorem d_retV [Fz α] [Fz β] {kr : (α × β) → Kd} {pin : Option V} {te : TE} {u : TS} {m : R α} {x : β} (i : Nat) (hi : As[i]? = some (.ow pin x)) (hr : kr = fun z : α × β => kNw c.K z) (lx : Lx Ls As) (h : Exr c B.W0 X te As m fun y => kNw c.K y) :
    Den c X kr Ls Js B (tSeq (tRet (tTup (tCons te (tCons (tVar i) tNil)))) u) As (m.to fun y => .rt (y, x)) Bs := fun D σ W a f => by
  subst hr
  obtain ⟨v, fp, hv, o, n, _⟩ := a.chg (β := β) (y := x) hi
  have h' := h σ W a
  cases m with
  | no => exact False.elim f
  | ex e => exact h' W (Le.refl _) _ fun cls d W2 e2 z => f cls d σ W2 (lx_at lx (a.mono e2)) z
  | ok y =>
    refine h' W (Le.refl _) _ fun w W2 e2 ⟨f2, o2, n2⟩ => ⟨v, hv, by show (2 : Nat) ≤ sizeLine; rw [sizeLine_eq]; decide, fun p hp => ?_⟩
    have l3 : Le W2 (W2.nf p (.tup [w, v])) := Le.nf hp
    refine f (.ref p) (W2.nf p (.tup [w, v])) (a.le.trans (e2.trans l3)) ?_
    refine ⟨f2 ++ fp, ⟨p, w, v, f2, fp, rfl, upd_same, rfl, own_up o2 l3, own_up o (e2.trans l3), fun b hb hb2 => (Ob.foot o b hb2).2 (n2 b hb)⟩, fun b hb => ?_⟩
    rcases List.mem_append.mp hb with z | z
    · exact (B.le.trans a.le).h.nope (n2 b z)
    · exact B.le.h.nope (n b z)
end
end Fw

namespace Fw
open PySem L2
section
variable {J S ρ α β γ δ : Type} {c : Cn} {X : WX} {kr : ρ → Kd} {Ls : List Sl} {Js : J → List Sl} {B : Bd} {As : List Sl} {Bs : S → List Sl} {W0 : Wd}
/-- x.append(any thing): that list is known no more -/
theorem d_gone [Rp α] [Rp γ] {pin : Option V} {u : TS} {x : List α} {y : γ} {k : Gone → Out S J ρ} {te : TE} (i : Nat) (hi : As[i]? = some (.ow pin x)) (hte : Exp c B.W0 te As (kFr c.K y)) (hk : ∀ z : Gone, Den c X kr Ls Js B u (As.set i (.ow pin z)) (k z) Bs) :
    Den c X kr Ls Js B (tSeq (tDrop (tBM c.K "list" rAppend (tVar i) (tCons te tNil))) u) As ((if x.length < sizeLine then R.ok () else R.no).to fun _ => k ⟨⟩) Bs := fun D σ W a f => by
  obtain ⟨v, fp, hv, o, n0, chg⟩ := a.chgG hi
  obtain ⟨q, vs, e3, ef3, g, hh, al, l⟩ := o
  subst e3 ef3
  by_cases cz : x.length < sizeLine
  case neg => rw [if_neg cz] at f; exact False.elim f
  rw [if_pos cz] at f
  refine ⟨_, hv, .inl ⟨rfl, vs, .inl (.inl hh)⟩, hte σ W a W (Le.refl _) _ fun t W3 e3 _ => ?_⟩
  have g3 : W3.G q = none := e3.o q g (by rw [hh]; exact fun z => nomatch z)
  refine ⟨q, vs, t, rfl, rfl, e3.h _ _ hh, by rw [← al.1]; exact cz, ?_⟩
  have lx := lx_of e3 (lx_mt (W := W3) (p := q) (o := .lst (vs ++ [t])) (g := g3) (hi := rfl))
  exact hk ⟨⟩ D σ _ (chg Gone _ ⟨⟩ (W3.mt q (.lst (vs ++ [t])) g3) [] lx.g lx.o lx.h rfl fun b hb => by cases hb) f
/-- x[:2], x of three -/
@[irreducible] def R.cut32 (x : T3 α β γ) (lo hi : Option Int) : R (α × β) := if lo = none ∧ hi = some 2 then .ok (x.a, x.b) else .no
theorem r_cut32 [Rp α] [Rp β] [Rp γ] {te : TE} {tl th : TO} {m : R (T3 α β γ)} {a b : R (Option Int)} (h : Exr c W0 X te As m fun x => kFr c.K x) (ha : Opo c W0 X tl As a) (hb : Opo c W0 X th As b) :
    Exr c W0 X (tSl (rSlT c.K) te tl th) As (m.bind fun x => a.bind fun lo => b.bind fun hi => R.cut32 x lo hi) fun ys => kFr c.K ys := fun σ W at_ => by
  have h' := h σ W at_
  have ha' := ha σ W at_
  have hb' := hb σ W at_
  cases m with
  | no => trivial
  | ex e => exact fun W1 e1 Q q => h' W1 e1 _ q
  | ok xs =>
    cases a with
    | no => trivial
    | ex e => exact fun W1 e1 Q q => h' W1 e1 _ fun v W2 e2 p => ha' W2 (e1.trans e2) _ fun cls d W3 e3 z => q cls d W3 (e2.trans e3) z
    | ok lo =>
      cases b with
      | no => trivial
      | ex e => exact fun W1 e1 Q q => h' W1 e1 _ fun v W2 e2 p => ha' W2 (e1.trans e2) _ fun W3 e3 => hb' W3 (e1.trans (e2.trans e3)) _ fun cls d W4 e4 z => q cls d W4 (e2.trans (e3.trans e4)) z
      | ok hi =>
        show SatR (R.cut32 xs lo hi) _ _
        unfold R.cut32
        split
        · rename_i hz
          obtain ⟨rfl, rfl⟩ := hz
          refine fun W1 e1 Q q => h' W1 e1 _ fun v W2 e2 ⟨p, va, vb, vc, ev, hs, r1, r2, r3⟩ => ha' W2 (e1.trans e2) _ fun W3 e3 => hb' W3 (e1.trans (e2.trans e3)) _ fun W4 e4 => ⟨p, [va, vb, vc], ev, W4.sub.sqt ((e3.trans e4).g.sqt hs), by show ¬ (HT.sIx 3 0 none = 0 ∧ HT.sIx 3 3 (some 2) = 3); decide, fun b hb => ?_⟩
          have eg := ((e3.trans e4).trans (Le.nf (o := .tup [va, vb]) hb)).g
          exact q _ (W4.nf b _) ((e2.trans (e3.trans e4)).trans (Le.nf hb)) ⟨b, va, vb, rfl, .inl (.inl upd_same), Rp.mono eg r1, Rp.mono eg r2⟩
        · trivial
end
end Fw

namespace Fw
open PySem L2
/-! ### x = xs.pop(0) -/
theorem Al.tail {α : Type} {P : α → V → Prop} {x : α} {xs : List α} {v : V} {vs : List V} (h : Al P (x :: xs) (v :: vs)) : Al P xs vs := ⟨by simpa using h.1, fun i y w a b => h.2 (i + 1) y w (by simpa using a) (by simpa using b)⟩
def R.pop0 {α : Type} (xs : List α) : R (α × List α) := match xs with
  | y :: ys => .ok (y, ys)
  | [] => .no
section
variable {J S ρ α : Type} {c : Cn} {X : WX} {kr : ρ → Kd} {Ls : List Sl} {Js : J → List Sl} {B : Bd} {As : List Sl} {Bs : S → List Sl}
theorem d_pop0 [Rp α] {pin : Option V} {te : TE} {u : TS} {xs : List α} {k : α → List α → Out S J ρ} (i j : Nat) (ij : i ≠ j) (hi : As[i]? = some (.ow pin xs)) (hte : Exp c B.W0 te As (kFr c.K (0 : Int))) (hk : ∀ (y : α) (ys : List α), Den c X kr Ls Js B u ((As.set i (.ow pin ys)).set j (.fr y)) (k y ys) Bs) :
    Den c X kr Ls Js B (tSeq (tAsg (tBM c.K "list" rPopAt (tVar i) (tCons te tNil)) (gName j)) u) As ((R.pop0 xs).to fun r => k r.1 r.2) Bs := fun D σ W a f => by
  obtain ⟨w, fp, hw, rw_, n0, chg⟩ := a.chg (β := List α) (y := xs.tail) hi
  obtain ⟨p, vs, ew, ef, g, hh, al, l⟩ := rw_
  subst ew ef
  refine ⟨_, hw, .inl ⟨rfl, vs, .inl (.inl hh)⟩, ?_⟩
  cases xs with
  | nil => exact False.elim f
  | cons y ys =>
    cases vs with
    | nil => exact absurd al.1 (by simp)
    | cons v vs =>
      have r : Rp.rep c.K y v W.G := al.2 0 y v rfl rfl
      refine hte σ W a W (Le.refl _) _ fun iv W2 e2 hv => ?_
      have ev : iv = .int 0 := hv
      subst ev
      have g2 : W2.G p = none := e2.o p g (by rw [hh]; exact fun z => nomatch z)
      refine ⟨p, v :: vs, 0, 0, v, rfl, rfl, e2.h _ _ hh, by decide, by decide, ?_, rfl, ?_⟩
      · unfold seqIndex?
        simp
      · obtain ⟨w', fp', hw', rw', n0', chg'⟩ := (a.mono e2).chg (β := List α) (y := ys) hi
        rw [hw] at hw'
        cases hw'
        obtain ⟨p', vs', ep, ef', _⟩ := rw'
        cases ep
        subst ef'
        have a3 := chg' (W2.mt p (.lst vs) g2) [p] (Inc.refl _) (fun b _ hb _ => hb) (fun b hb n => mut_keep g2 b hb n) ⟨p, vs, rfl, rfl, g2, upd_same, al_mono al.tail e2.g, by simp at l; omega⟩ (fun b hb => .inl hb)
        exact hk y ys D _ _ (a3.setF (show Rp.rep c.K y v W2.G from Rp.mono e2.g r)) f
end
/-! ### a pair: the first one's own, the second frozen -/
structure PF (α β : Type) where
  a : α
  b : β
instance {α β : Type} [Ob α] [Rp β] : Ob (PF α β) where
  own := fun K x v f W => ∃ p va vb, v = .ref p ∧ W.G p = some (.tup [va, vb]) ∧ Ob.own K x.a va f W ∧ Rp.rep K x.b vb W.G
  keep := fun {K x v f W W'} ⟨p, va, vb, e, hp, o, r⟩ s n k => ⟨p, va, vb, e, s _ _ hp, Ob.keep o s n k, Rp.mono s r⟩
  foot := fun {K x v f W} ⟨p, va, vb, e, hp, o, r⟩ a ha => Ob.foot o a ha
instance {α β : Type} [Ob α] [Rp β] [UfO α] [Uf β] : UfO (PF α β) := ⟨fun {K x v f W W'} t n k ⟨p, va, vb, e, hp, o, r⟩ => ⟨p, va, vb, e, t p _ rfl hp, UfO.uf t n k o, Uf.uf t r⟩⟩
section
variable {J S ρ α β : Type} {c : Cn} {X : WX} {kr : ρ → Kd} {Ls : List Sl} {Js : J → List Sl} {B : Bd} {As : List Sl} {Bs : S → List Sl} {W0 : Wd}
/-- return (x, e): x one's own, e frozen -/
theorem d_retPF [Ob α] [Rp β] {kr : PF α β → Kd} {pin : Option V} {te : TE} {u : TS} {m : R β} {x : α} (i : Nat) (hi : As[i]? = some (.ow pin x)) (hr : kr = fun z : PF α β => kNw c.K z) (lx : Lx Ls As) (h : Exr c B.W0 X te As m fun y => kFr c.K y) :
    Den c X kr Ls Js B (tSeq (tRet (tTup (tCons (tVar i) (tCons te tNil)))) u) As (m.to fun y => .rt (PF.mk x y)) Bs := fun D σ W a f => by
  subst hr
  obtain ⟨v, fp, hv, o, n, _⟩ := a.chg (β := α) (y := x) hi
  have h' := h σ W a
  refine ⟨v, hv, ?_⟩
  cases m with
  | no => exact False.elim f
  | ex e => exact h' W (Le.refl _) _ fun cls d W2 e2 z => f cls d σ W2 (lx_at lx (a.mono e2)) z
  | ok y =>
    refine h' W (Le.refl _) _ fun w W2 e2 r2 => ⟨by show (2 : Nat) ≤ sizeLine; rw [sizeLine_eq]; decide, fun p hp => ?_⟩
    have l3 : Le W2 (W2.nf p (.tup [v, w])) := Le.nf hp
    refine f (.ref p) (W2.nf p (.tup [v, w])) (a.le.trans (e2.trans l3)) ?_
    exact ⟨fp, ⟨p, v, w, rfl, upd_same, own_up o (e2.trans l3), Rp.mono l3.g r2⟩, fun b hb => B.le.h.nope (n b hb)⟩
/-- a, b = e -/
theorem d_getPF [Ob α] [Rp β] {te : TE} {u : TS} {m : R (PF α β)} {k : α → β → Out S J ρ} (i j : Nat) (lx : Lx Ls As) (h : Exr c B.W0 X te As m fun x => kNw c.K x) (hk : ∀ y z, Den c X kr Ls Js B u ((As.set i (.ow none y)).set j (.fr z)) (k y z) Bs) :
    Den c X kr Ls Js B (tSeq (tAsg te (gTup c.K 2 (gCons (gName i) (gCons (gName j) gNil)))) u) As (m.to fun r => k r.a r.b) Bs := fun D σ W a f => by
  have h' := h σ W a
  cases m with
  | no => exact False.elim f
  | ex e => exact h' W (Le.refl _) _ fun cls d W2 e2 z => f cls d σ W2 (lx_at lx (a.mono e2)) z
  | ok x =>
    refine h' W (Le.refl _) _ fun v W2 e ⟨fp, ⟨p, va, vb, ev, hp, o, r⟩, n⟩ => ?_
    exact ⟨p, [va, vb], ev, W2.sub.sqt (.inl (.inl hp)), rfl, va, [vb], rfl, vb, [], rfl, rfl, hk x.a x.b D _ W2 ((a.setO e o n).setF r) f⟩
/-- e[0] -/
theorem r_PF0 [Ob α] [Rp β] {te ti : TE} {m : R (PF α β)} (h : Exr c W0 X te As m fun x => kNw c.K x) (hi : Exp c W0 ti As (kFr c.K (0 : Int))) : Exr c W0 X (tOp (rIxT c.K) te ti) As (m.bind fun x => .ok x.a) fun x => kNw c.K x := fun σ W a => by
  have h' := h σ W a
  cases m with
  | no => trivial
  | ex e => exact fun W1 e1 Q q => h' W1 e1 _ q
  | ok x =>
    exact fun W1 e1 Q q => h' W1 e1 _ fun v W2 e2 ⟨fp, ⟨p, va, vb, ev, hp, o, r⟩, n⟩ => hi σ W a W2 (e1.trans e2) _ fun w W3 e3 hw => by
      have hw' : w = .int 0 := hw
      subst hw' ev
      exact ⟨p, [va, vb], 0, va, rfl, rfl, W3.sub.sqt (.inl (.inl (e3.g _ _ hp))), rfl, q va W3 (e2.trans e3) ⟨fp, own_up o e3, n⟩⟩
end
/-! ### sorted(d), d by tuples; by whole numbers -/
section
open PySem.Spec PyProof.Rows PySem.Calls
variable {P : Program} {w : World} {A : Around} {E : Value → Shared → Prop} {s : Shared}
theorem call_sorted_src {T : String} {r d : Addr} {n : Nat} {Pn : Nat → Value → Prop} {OK : Heap → Prop} {Q : Value → Shared → Prop}
    (W : PySem.W.KdlSrc P w T r d n Pn OK) (hh : A.handled = none) (ok : OK s.heap) (hn : n ≤ sizeLine)
    (h : ∀ (h' : Heap) (tk : Nat) (acc : Array Value), (∀ (b : Addr) (o : Obj), s.heap.get? b = some o → h'.get? b = some o) → ItemsOf Pn acc n →
      ∀ E', wpAny (model P w) A.in1 (call (.builtin "list.sort") [.ref h'.objs.size]) (fun _ s2 => Q (.ref h'.objs.size) s2) E' { s with heap := h'.push { cls := .type "list", data := .seq acc.toList.toArray }, toks := tk }) :
    wpAny (model P w) A (call (.builtin "sorted") [.ref r]) Q E s := by
  refine wpAny_call (codeAny_call_builtin PyProof.Rows.plain_sorted PyProof.Rows.entry_sorted ?_)
  have ha := PyProof.Rows.args_sorted1 (.ref r)
  have hh1 : A.in1.handled = none := by simp [hh]
  have hc : checkBuiltinCall "sorted" { pos := [.ref r] } = pure () := by
    unfold checkBuiltinCall
    simp only [PyProof.Rows.kind_sorted]
    exact ha
  rw [hc]
  refine wpAny_pure ?_
  unfold Builtin.sorted
  refine wpAny_bind ?_
  refine wpAny_pure ?_
  refine wpAny_bind (PySem.W.kdu_collect W hh1 ok hn fun h' tk acc hk hi => ?_)
  refine wpAny_bind (wpAny_newList ?_ (by rw [Array.length_toList, hi.1]; exact hn))
  refine wpAny_bind (wpAny_holding ?_)
  refine wpAny_mono (h h' tk acc hk hi _) (fun v s2 q => ?_) fun _ _ e => e
  exact wpAny_pure q
/-- sorted(d), d a dict by tuples -/
def rSortDT (K : Frag) : List V → Hp → VK → Prop := fun vs H Q => ∃ (d : Addr) (kvs : List (List L2.Key × V)), vs = [V.ref d] ∧ Rd H d (.dT kvs) ∧ ∀ bs, IsKeys H kvs bs → ∃ kz : List PyData, Al (fun d v => RdD K d v H) kz (bs.map V.ref) ∧ PySem.W.AllAlike kz ∧ PySem.W.Sortable kz ∧ (∀ d ∈ kz, d.depth ≤ 8) ∧
  ∀ p, H p = none → Q (.ref p) (upd H p (.lst ((((bs.map V.ref).zip kz).mergeSort (PySem.W.dataLe false Prod.snd)).map Prod.fst)))
theorem cr_sortDT {X : Cx} {k : Nat} (hc : X.calm = true) (hr : Room k X.A) : CallR X (.builtin "sorted") (rSortDT X.K) := by
  intro pins s σ H vs us Q I r h
  obtain ⟨d, kvs, rfl, hd, q⟩ := h
  obtain ⟨u, rfl, ru⟩ := r.one
  obtain rfl : u = Value.ref d := ru
  obtain ⟨z, hsy, xs, kt, o, es, ep, ho, hex, hdat, hes, his, hnd⟩ := dt_rd I.hok hd
  have hk := isKeys_of kt
  obtain ⟨kz, al, hal, hsk, hdp, q⟩ := q _ hk
  have lx : xs.length = kvs.length := (Paired.length kt).symm
  have le : es.size = xs.length := by
    have := congrArg List.length hes
    simpa using this
  have es_at : ∀ (i : Nat) (v : Value), (∃ en, es[i]? = some en ∧ v = en.key) → ∃ b, (xs.map fun x => x.2.1)[i]? = some b ∧ v = .ref b := by
    rintro i v ⟨en, e1, rfl⟩
    have e2 : es.toList[i]? = some en := by rw [Array.getElem?_toList]; exact e1
    rw [hes, List.getElem?_map] at e2
    cases ex : xs[i]? with
    | none => rw [ex] at e2; cases e2
    | some x => rw [ex] at e2; cases e2; exact ⟨x.2.1, by rw [List.getElem?_map, ex]; rfl, rfl⟩
  generalize hbs : (xs.map fun x => x.2.1) = bs at al es_at q hk
  have lb : bs.length = xs.length := by rw [← hbs, List.length_map]
  have lk : kz.length = bs.length := by rw [al.1, List.length_map]
  refine call_sorted_src (kdl_raw hsy hex hdat) (I.ok.hd hc) ho (by omega) fun h' tk acc hk' hi E' => ?_
  obtain ⟨hi1, hi2⟩ := hi
  have I' := I.turnedL (h' := h') (t' := tk) (ch := []) (fun b o _ e => hk' b o e) (fun b hb => by cases hb)
  have I2 := I'.turnedL (h' := h'.push { cls := .type "list", data := .seq acc.toList.toArray }) (t' := tk) (ch := []) (fun b o _ e => Heap.get?_push_of_some _ e) (fun b hb => by cases hb)
  have la : acc.toList.length = bs.length := by rw [Array.length_toList, hi1]; omega
  have lz : ((bs.map V.ref).zip kz).length = bs.length := by rw [List.length_zip, List.length_map, lk, Nat.min_self]
  have hkz : ((bs.map V.ref).zip kz).map Prod.snd = kz := List.map_snd_zip (by rw [List.length_map, lk]; exact Nat.le_refl _)
  have itm : ∀ (i : Nat) (u : Value) (b : V × PyData), acc.toList[i]? = some u → ((bs.map V.ref).zip kz)[i]? = some b → (bs.map V.ref)[i]? = some b.1 ∧ kz[i]? = some b.2 ∧ RelV b.1 u := fun i u b eu eb => by
    obtain ⟨x, d⟩ := b
    rw [List.getElem?_zip_eq_some] at eb
    obtain ⟨y, ey, rfl⟩ := es_at i u (hi2 i u (by rw [← Array.getElem?_toList]; exact eu))
    refine ⟨eb.1, eb.2, ?_⟩
    have e1 := eb.1
    rw [List.getElem?_map, ey] at e1
    cases e1
    rfl
  have hL : ((bs.map V.ref).zip kz).length ≤ sizeLine := by omega
  refine PySem.W.list_sort_data (vs := acc.toList) (R := fun u (b : V × PyData) => RelV b.1 u) (enc := Prod.snd) (bs := (bs.map V.ref).zip kz) (n := 0) (Heap.get?_push_size _ rfl) (each_of (by rw [la, lz]) fun i u b eu eb => (itm i u b eu eb).2.2) (each_of (by rw [la, lz]) fun i u b eu eb => ?_) (by rw [hkz]; exact hal) (by rw [hkz]; exact hsk) hL (fun b hb => ?_) fun out ho' eo => ?_
  · obtain ⟨e1, e2, e3⟩ := itm i u b eu eb
    exact ⟨[], al.2 i b.2 b.1 e2 e1 _ _ _ _ I2.kIn I2.hok e3, by simp⟩
  · have h1 := hr.un
    have h2 : b.2 ∈ kz := by rw [← hkz]; exact List.mem_map_of_mem hb
    have := hdp _ h2
    have e1 : X.A.in1.units = X.A.units + 1 := rfl
    omega
  · obtain ⟨ep', he'⟩ := PyProof.Rows.sortedHeap_at (out := out.toArray) (vs := acc.toList) (n := 0) (Heap.get?_push_size h' (o := PyProof.Rows.seqObj "list" acc.toList.toArray 0) rfl)
    have vo : Vals ((((bs.map V.ref).zip kz).mergeSort (PySem.W.dataLe false Prod.snd)).map Prod.fst) out := each_vals eo
    have hlo : ((((bs.map V.ref).zip kz).mergeSort (PySem.W.dataLe false Prod.snd)).map Prod.fst).length ≤ sizeLine := by
      rw [List.length_map, List.length_mergeSort]; exact hL
    refine ⟨.ref _, upd H h'.objs.size (.lst ((((bs.map V.ref).zip kz).mergeSort (PySem.W.dataLe false Prod.snd)).map Prod.fst)), I'.laid (t' := tk) (fun b u e => ?_) (Nat.le_refl _) ⟨hlo, _, ep', vo, he'⟩, rfl, q _ (I'.hok.fresh (Nat.le_refl _))⟩
    have hb := Heap.lt_size e
    rw [PyProof.Rows.sortedHeap_old (Nat.ne_of_lt hb) (by rw [Heap.size_push]; exact Nat.lt_succ_of_lt hb)]
    exact Heap.get?_push_of_some _ e
end
section
variable {K : Frag} {κ β : Type} [Rp κ] [KT κ] [DecidableEq κ] [Rp β]
theorem keys_al {W : Wd} {x : List (Ky κ × β)} {q : List (Ky κ × V)} {bs : List Addr} (dr : DR K x q W.G) (ik : IsKeys W.H (q.map fun p => (kyk p.1, p.2)) bs) (ok : ∀ p ∈ x, KT.ok p.1.k) : Al (fun (y : Ky κ) v => Rp.rep K y v W.G) (x.map (·.1)) (bs.map V.ref) := by
  obtain ⟨hl, hk⟩ := paired_get ik
  have h1 := dr_fst dr
  have lq : q.length = x.length := by have := congrArg List.length h1; simpa using this
  refine ⟨by rw [List.length_map, List.length_map, ← hl, List.length_map, lq], fun i y v ex ev => ?_⟩
  rw [List.getElem?_map] at ex ev
  cases e1 : x[i]? with
  | none => rw [e1] at ex; cases ex
  | some y =>
    rw [e1] at ex
    cases ex
    cases e2 : bs[i]? with
    | none => rw [e2] at ev; cases ev
    | some b =>
      rw [e2] at ev
      cases ev
      have e3 : (q.map (·.1))[i]? = some y.1 := by rw [h1, List.getElem?_map, e1]; rfl
      rw [List.getElem?_map] at e3
      cases e4 : q[i]? with
      | none => rw [e4] at e3; cases e3
      | some t =>
        rw [e4] at e3
        have e5 : t.1 = y.1 := Option.some.inj e3
        have := hk i (kyk t.1, t.2) b (by rw [List.getElem?_map, e4]; rfl) e2
        have this2 : W.H b = some (.tup ((KT.ks t.1.k).map L2.kV)) := this
        rw [e5] at this2
        exact ⟨b, rfl, W.im b _ this2 rfl, ok y (List.mem_of_getElem? e1)⟩
noncomputable def R.sortDT [Pd (Ky κ)] [Lt (Ky κ)] (x : Dk (Ky κ) β) : R (List (Ky κ)) := (R.listDT x).bind fun l => .ok (sortL l)
theorem o_sortDT [Pd (Ky κ)] [Lt (Ky κ)] [Rdd (Ky κ)] [TupD (Ky κ)] (h8 : Pd.n (Ky κ) ≤ 8 := by decide) : OpA (rSortDT K) (fun z : Dk (Ky κ) β × Unit => aCons (kDs K z.1) aNil) (fun z => R.sortDT z.1) (fun x : List (Ky κ) => kNw K x) := fun z => by
  unfold R.sortDT R.listDT
  dsimp only
  by_cases ok : ∀ p ∈ z.1.l, KT.ok p.1.k
  · rw [if_pos ok]
    intro W0 W vs ⟨v, r, e, ⟨d, q, ev, hd, dr, l⟩, en⟩ Q qq
    subst e en ev
    refine ⟨d, _, rfl, hd, fun bs ik => ?_⟩
    have al := keys_al dr ik ok
    obtain ⟨e1, e2⟩ := sortL_zip (ds := (z.1.l.map (·.1)).map Pd.pd) al.1 rfl
    refine ⟨(z.1.l.map (·.1)).map Pd.pd, ⟨by rw [List.length_map]; exact al.1, fun i d v ed ev => ?_⟩, PySem.W.AllAlike.of fun a b => Lt.al a b, PySem.W.Sortable.tuples fun b => TupD.tup b, fun d hd => ?_, fun b hb => ?_⟩
    · rw [List.getElem?_map] at ed
      cases e : (z.1.l.map (·.1))[i]? with
      | none => rw [e] at ed; cases ed
      | some y =>
        rw [e] at ed
        cases ed
        exact Rdd.rd W.sub (al.2 i y v e ev)
    · obtain ⟨y, hy, rfl⟩ := List.mem_map.mp hd
      obtain ⟨i, hi, ei⟩ := List.getElem_of_mem hy
      obtain ⟨v, _, rv⟩ := al.get (List.getElem?_eq_some_iff.mpr ⟨hi, ei⟩)
      exact Nat.le_trans (Pd.dep rv) h8
    · refine qq (.ref b) (W.no b (.lst ((((bs.map V.ref).zip ((z.1.l.map (·.1)).map Pd.pd)).mergeSort (PySem.W.dataLe false Prod.snd)).map Prod.fst)) hb) (Le.no hb) ?_
      have hlen : (sortL (z.1.l.map (·.1))).length ≤ sizeLine := by unfold sortL; rw [List.length_mergeSort, List.length_map]; exact l
      refine nw_list (Le.refl _) hb ?_ hlen
      rw [e1, e2]
      refine ⟨by simp, fun i x v ex ev => ?_⟩
      rw [List.getElem?_map] at ex ev
      cases e : (((z.1.l.map (·.1)).zip (bs.map V.ref)).mergeSort fun s t => !Lt.lt t.1 s.1)[i]? with
      | none => rw [e] at ex; cases ex
      | some t =>
        rw [e] at ex ev
        cases ex; cases ev
        have : t ∈ (z.1.l.map (·.1)).zip (bs.map V.ref) := (List.mergeSort_perm _ _).mem_iff.mp (List.mem_of_getElem? e)
        obtain ⟨j, hj, ej⟩ := List.getElem_of_mem this
        have e'' := List.getElem?_zip_eq_some.mp (show ((z.1.l.map (·.1)).zip (bs.map V.ref))[j]? = some (t.1, t.2) from List.getElem?_eq_some_iff.mpr ⟨hj, ej⟩)
        exact al.2 j _ _ e''.1 e''.2
  · rw [if_neg ok]; trivial
end
section
variable {K : Frag} {α : Type} [Rp α]
def rSortedDI : List V → Hp → VK → Prop := fun xs H Q => ∃ (a : Addr) (kvs : List (Key × V)) (ks : List Int), xs = [.ref a] ∧ Rd H a (.dK kvs) ∧ kvs.map (·.1) = ks.map Sum.inl ∧ ks.length < 64 ∧
    ∀ (ys : List Int) (p : Addr), ys.Perm ks → ys.Pairwise (· ≤ ·) → H p = none → Q (.ref p) (upd H p (.lst (ys.map V.int)))
@[irreducible] def R.sortDI (x : Dk Int α) : R (List Int) := if x.l.length < 64 then .ok (Fw.sortI (x.l.map (·.1))) else .no
theorem dr_keysI {G : Hp} : ∀ {x : List (Int × α)} {q : List (Int × V)}, DR K x q G → q.map (·.1) = x.map (·.1)
  | [], [], _ => rfl
  | a :: x, b :: q, h => by
    rw [List.map_cons, List.map_cons, dr_keysI h.2.2, h.1]
  | [], _ :: _, h => h.elim
  | _ :: _, [], h => h.elim
theorem o_sortDI : OpA rSortedDI (fun z : Dk Int α × Unit => aCons (kDs K z.1) aNil) (fun z => R.sortDI z.1) (fun x : List Int => kNw K x) := fun z => by
  unfold R.sortDI
  dsimp only
  by_cases h : z.1.l.length < 64
  · rw [if_pos h]
    intro W0 W vs ⟨v, r, e, ⟨p, kv, ev, hs, al, l⟩, en⟩ Q q
    subst e en ev
    refine ⟨p, _, z.1.l.map (·.1), rfl, hs, ?_, by rw [List.length_map]; exact h, fun ys a pm so hn => ?_⟩
    · show (kv.map fun p => (kI p.1, p.2)).map (·.1) = _
      rw [List.map_map, ← dr_keysI al, List.map_map]
      rfl
    have e2 := sortI_of pm so
    subst e2
    have hl : (Fw.sortI (z.1.l.map (·.1))).length = z.1.l.length := by rw [(sortI_perm (z.1.l.map (·.1))).length_eq, List.length_map]
    exact q _ (W.no a _ hn) (Le.no hn) (nw_list (Le.refl _) hn al_of_ints (by rw [hl]; exact l))
  · rw [if_neg h]; trivial
end
end Fw

namespace Fw
open PySem L2
/-! ### x = d.pop(k), keys of any kind -/
def DPop (H : Hp) (a : Addr) (y v : V) (H' : Hp) : Prop :=
  (∃ (kvs : List (Key × V)) (k : Key), H a = some (.dK kvs) ∧ y = L2.kV k ∧ valV kvs k = some v ∧ H' = upd H a (.dK (dropK kvs k))) ∨
  ∃ (kvs : List (List Key × V)) (k : List Key) (b : Addr), H a = some (.dT kvs) ∧ y = .ref b ∧ H b = some (.tup (k.map L2.kV)) ∧ valV kvs k = some v ∧ H' = upd H a (.dT (dropK kvs k))
def tDPopG (td ty : TE) : TE := fun σ H Q => td σ H fun x H1 => ∃ a, x = .ref a ∧ IsD H1 a ∧ ty σ H1 fun y H2 => ∃ v H3, DPop H2 a y v H3 ∧ Q v H3
theorem paired_filter {α β : Type} {R : α → β → Prop} {p : α → Bool} {q : β → Bool} : ∀ {l : List α} {r : List β}, Paired R l r → (∀ x y, R x y → p x = q y) → Paired R (l.filter p) (r.filter q)
  | [], [], _, _ => .nil
  | x :: l, y :: r, .cons h t, e => by
    rw [List.filter_cons, List.filter_cons, e x y h]
    cases q y with
    | true => exact .cons h (paired_filter t e)
    | false => exact paired_filter t e
section
open PySem.Spec PyProof.Rows
variable {X : Cx} {pins : List (Addr × Obj)} {σ : L2.St} {H H' : Hp} {s : Shared} {a : Addr} {y v : V} {u : Value} {A : Around} {E : Value → Shared → Prop}
theorem d_popG {Q : Value → Shared → Prop} (hu : A.units + 1 < cLine) (I : Inv X pins σ H s) (g : DPop H a y v H') (ry : RelV y u) (h : ∀ w' s', Inv X pins σ H' s' → RelV v w' → Q w' s') : wpAny (model X.prog X.w) A (call (.builtin "dict.pop") [.ref a, u]) Q E s := by
  rcases g with ⟨kvs, k, e, ey, ev, eH⟩ | ⟨kvs, k, b, e, ey, eb, ev, eH⟩
  · subst ey eH
    exact L2.d_pop I e ry ev (.inl rfl) h
  · subst ey eH
    cases (show u = Value.ref b from ry)
    obtain ⟨z, hd, xs, rel, dd⟩ := dt_of I.hok e
    have hz : xs.length ≤ sizeLine := by rw [← Paired.length rel]; exact z
    obtain ⟨w, hw, rw_⟩ := RelO.some_of (v := v) (o := (atKey xs k).map (·.2)) (by rw [← ev]; exact rel.val k)
    obtain ⟨p, hp, hp2⟩ := Option.map_eq_some_iff.mp hw
    refine call_pop_heap (hsz := hz) (.inl rfl) (PySem.F.args_dict_pop_2 _ _) (tupleKind_room_in1 hu) (key_of I.hok eb) hd dd hp fun h' dd' hs => ?_
    obtain ⟨qo, es, ep, hq, h2, h3, h4, _, h5⟩ := dd'
    have hl : (dropK kvs k).length ≤ sizeLine := Nat.le_trans (List.length_filter_le _ _) z
    have rel' : L2.KT H (dropK kvs k) (withoutH xs k) := paired_filter rel fun x y r => by rw [r.1]
    refine h _ _ (d_write I (by rw [e]; exact True.intro) hs ⟨qo, hq⟩ ⟨hl, hd, _, rel'.keeps fun c ys ec => ?_, qo, es, ep, hq, h2, h3, h4, h5⟩) (hp2 ▸ rw_)
    rw [upd_ne (ne_of ec e (fun z => nomatch z))]
    exact ec
variable {o e : Expr} {td ty : TE} {apos cpos : Pos}
theorem pe_dpopG (hu : X.A.units + 1 < cLine) (ho : PE X o td) (he : PE X e ty) (m : M1 X o "pop" apos e cpos) : PE X (.Call (.Attribute o "pop" apos) [e] [] cpos) (tDPopG td ty) := by
  refine ⟨fun pins s σ H Q I h => ?_⟩
  refine wpAny_Call_method m.base m.few m.line PySem.F.plainAttrs_dict PySem.F.slot_dict_pop PySem.F.type_dict_pop (thn (ho.run pins s σ H _ I h) fun u s1 ⟨x, H1, I1, rx, a, ex, d, q1⟩ => ?_)
  subst ex
  obtain rfl : u = Value.ref a := rx
  obtain ⟨t1, t2, _⟩ := isD_at I1 d
  refine ⟨t1, t2, ?_⟩
  rw [m.trees]
  exact Calls.callWith_builtin rfl (Calls.evalArgs_plain (Calls.spliced_cons (thn (he.run pins s1 σ H1 _ I1 q1) fun iv s2 ⟨y, H2, I2, ry, v, H3, gt, q2⟩ =>
    Calls.spliced_nil (d_popG hu I2 gt ry fun w' s4 I4 rw' => ⟨v, _, I4, rw', q2⟩))))
end
section
theorem dropK_inj {κ μ : Type} [DecidableEq κ] [DecidableEq μ] {f : κ → μ} (hf : ∀ a b, f a = f b → a = b) (k : κ) (kvs : List (κ × V)) : dropK (kvs.map fun p => (f p.1, p.2)) (f k) = (dropK kvs k).map fun p => (f p.1, p.2) := by
  unfold dropK
  rw [List.filter_map]
  congr 1
  refine List.filter_congr fun p _ => ?_
  show decide (f p.1 ≠ f k) = decide (p.1 ≠ k)
  by_cases e : p.1 = k
  · rw [e]; simp
  · rw [decide_eq_true (show p.1 ≠ k from e), decide_eq_true (show f p.1 ≠ f k from fun z => e (hf _ _ z))]
class PKy (κ : Type) [DecidableEq κ] [Rp κ] extends DKy κ where
  pop : ∀ {K : Frag} {G H : Hp} {k : κ} {y v : V} {p : Addr} {kvs : List (κ × V)}, Rp.rep K k y G → Inc G H → H p = some (DKy.ho kvs) → valV kvs k = some v → DPop H p y v (upd H p (DKy.ho (dropK kvs k)))
instance : PKy Int where
  pop := fun {K G H k y v p kvs} r _ e l => by
    have r' : y = .int k := r
    subst r'
    refine .inl ⟨_, kI k, e, rfl, ?_, ?_⟩
    · rw [valV_inj kI_inj]; exact l
    · rw [dropK_inj kI_inj]; rfl
instance : PKy Str where
  pop := fun {K G H k y v p kvs} r _ e l => by
    have r' : y = .str k := r.1
    subst r'
    refine .inl ⟨_, kS k, e, rfl, ?_, ?_⟩
    · rw [valV_inj kS_inj]; exact l
    · rw [dropK_inj kS_inj]; rfl
instance {α : Type} [Rp α] [KT α] [DecidableEq α] : PKy (Ky α) where
  pop := fun {K G H k y v p kvs} ⟨b, r, hb, _⟩ s e l => by
    subst r
    refine .inr ⟨_, kyk k, b, e, rfl, s _ _ hb, ?_, ?_⟩
    · rw [valV_inj kyk_inj]; exact l
    · rw [dropK_inj kyk_inj]; rfl
end
section
variable {κ α : Type} [DecidableEq κ] [Rp κ] [PKy κ] [Rp α]
theorem DR.drop {K : Frag} {G : Hp} {k : κ} : ∀ {x : List (κ × α)} {q : List (κ × V)}, DR K x q G → DR K (x.filter fun p => decide (p.1 ≠ k)) (dropK q k) G
  | [], [], _ => trivial
  | p :: x, e :: q, h => by
    unfold dropK
    rw [List.filter_cons, List.filter_cons]
    obtain ⟨h1, h2, h3⟩ := h
    by_cases z : e.1 = k
    · rw [decide_eq_false (show ¬ p.1 ≠ k from fun w => w (h1 ▸ z)), decide_eq_false (show ¬ e.1 ≠ k from fun w => w z)]
      exact DR.drop h3
    · rw [decide_eq_true (show p.1 ≠ k from fun w => z (h1 ▸ w)), decide_eq_true (show e.1 ≠ k from z), if_pos rfl, if_pos rfl]
      exact ⟨h1, h2, DR.drop h3⟩
  | [], _ :: _, h => h.elim
  | _ :: _, [], h => h.elim
theorem dr_valv {K : Frag} {G : Hp} {k : κ} {y : α} : ∀ {x : List (κ × α)} {q : List (κ × V)}, DR K x q G → dval x k = some y → ∃ v, valV q k = some v ∧ Rp.rep K y v G
  | [], [], _, h => by cases h
  | p :: x, e :: q, ⟨h1, h2, h3⟩, h => by
    unfold dval at h
    by_cases z : p.1 = k
    · rw [if_pos z] at h
      cases h
      exact ⟨e.2, valV_pos (h1.symm.trans z), h2⟩
    · rw [if_neg z] at h
      obtain ⟨v, ev, r⟩ := dr_valv h3 h
      exact ⟨v, by rw [valV_neg (fun w => z (h1.trans w))]; exact ev, r⟩
  | [], _ :: _, h, _ => h.elim
  | _ :: _, [], h, _ => h.elim
def R.popK (x : Dk κ α) (k : κ) : R (α × Dk κ α) := match dval x.l k with
  | some v => .ok (v, ⟨x.l.filter fun p => decide (p.1 ≠ k)⟩)
  | none => .no
variable {J S ρ : Type} {c : Cn} {X : WX} {kr : ρ → Kd} {Ls : List Sl} {Js : J → List Sl} {B : Bd} {As : List Sl} {Bs : S → List Sl}
theorem d_popK {pin : Option V} {te : TE} {u : TS} {xs : Dk κ α} {m : R κ} {k : α → Dk κ α → Out S J ρ} (i j : Nat) (ij : i ≠ j) (hi : As[i]? = some (.ow pin xs)) (lx : Lx Ls As) (h : Exr c B.W0 X te As m fun x => kFr c.K x) (hk : ∀ (y : α) (ys : Dk κ α), Den c X kr Ls Js B u ((As.set i (.ow pin ys)).set j (.fr y)) (k y ys) Bs) :
    Den c X kr Ls Js B (tSeq (tAsg (tDPopG (tVar i) te) (gName j)) u) As (m.to fun q => (R.popK xs q).to fun r => k r.1 r.2) Bs := fun D σ W a f => by
  have h' := h σ W a
  obtain ⟨w, fp, hw, rw_, _⟩ := a.chg (β := Dk κ α) (y := xs) hi
  obtain ⟨p0, q0, ep0, ef0, g0, hh0, d0, l0⟩ := rw_
  subst ep0 ef0
  refine ⟨_, hw, p0, rfl, DKy.isD (.inl hh0), ?_⟩
  cases m with
  | no => exact False.elim f
  | ex e => exact h' W (Le.refl _) _ fun cls d W2 e2 z => f cls d σ W2 (lx_at lx (a.mono e2)) z
  | ok q =>
    refine h' W (Le.refl _) _ fun jv W2 e2 rj => ?_
    have f2 : Fin c X kr Ls Js B Bs D ((R.popK xs q).to fun r => k r.1 r.2) := f
    unfold R.popK at f2
    cases ed : dval xs.l q with
    | none => rw [ed] at f2; exact False.elim f2
    | some y =>
      rw [ed] at f2
      obtain ⟨w', fp', hw', rw', n0', chg'⟩ := (a.mono e2).chg (β := Dk κ α) (y := ⟨xs.l.filter fun p => decide (p.1 ≠ q)⟩) hi
      rw [hw] at hw'
      cases hw'
      obtain ⟨p, qq, ep, ef, g, hh, d, l⟩ := rw'
      cases ep
      subst ef
      obtain ⟨v, ev, r⟩ := dr_valv d ed
      refine ⟨v, _, PKy.pop rj W2.sub hh ev, ?_⟩
      have a3 := chg' (W2.mt p0 (DKy.ho (dropK qq q)) g (ho_mut _)) [p0] (Inc.refl _) (fun b _ hb _ => hb) (fun b hb n => mut_keep g b hb n) ⟨p0, _, rfl, rfl, g, upd_same, d.drop, Nat.le_trans (List.length_filter_le _ _) l⟩ (fun b hb => .inl hb)
      exact hk _ _ D _ _ (a3.setF r) f2
end
end Fw

namespace Fw
open PySem L2
/-! ### four in a tuple: the first and the last two lists of one's own -/
section
variable {α β γ δ : Type} [Rp α] [Rp β] [Rp γ] [Rp δ]
def own4 (K : Frag) (x : T4 (List α) β (List γ) (List δ)) (v : V) (f : List Addr) (W : Wd) : Prop := ∃ (p : Addr) (vb : V) (qa qc qd : Addr) (va vc vd : List V), v = .ref p ∧ W.G p = some (.tup [.ref qa, vb, .ref qc, .ref qd]) ∧ f = [qa, qc, qd] ∧ [qa, qc, qd].Nodup ∧ (∀ q ∈ [qa, qc, qd], W.G q = none) ∧
  W.H qa = some (.lst va) ∧ W.H qc = some (.lst vc) ∧ W.H qd = some (.lst vd) ∧ Al (fun x v => Rp.rep K x v W.G) x.a va ∧ Al (fun x v => Rp.rep K x v W.G) x.c vc ∧ Al (fun x v => Rp.rep K x v W.G) x.d vd ∧ Rp.rep K x.b vb W.G ∧ x.a.length ≤ sizeLine ∧ x.c.length ≤ sizeLine ∧ x.d.length ≤ sizeLine
instance : Fz (T4 (List α) β (List γ) (List δ)) where
  own := own4
  keep := fun {K x v f W W'} ⟨p, vb, qa, qc, qd, va, vc, vd, e, hp, ef, nd, g, h1, h2, h3, a1, a2, a3, rb, l⟩ s n k => by
    subst ef
    exact ⟨p, vb, qa, qc, qd, va, vc, vd, e, s _ _ hp, rfl, nd, n, (k qa (by simp)).trans h1, (k qc (by simp)).trans h2, (k qd (by simp)).trans h3, a1.imp fun _ _ r => Rp.mono s r, a2.imp fun _ _ r => Rp.mono s r, a3.imp fun _ _ r => Rp.mono s r, Rp.mono s rb, l⟩
  foot := fun {K x v f W} ⟨p, vb, qa, qc, qd, va, vc, vd, e, hp, ef, nd, g, h1, h2, h3, _⟩ a ha => by
    subst ef
    refine ⟨g a ha, ?_⟩
    simp only [List.mem_cons, List.not_mem_nil, or_false] at ha
    rcases ha with z | z | z <;> subst z
    · rw [h1]; exact fun z => nomatch z
    · rw [h2]; exact fun z => nomatch z
    · rw [h3]; exact fun z => nomatch z
  fz := fun {K x v f W} ⟨p, vb, qa, qc, qd, va, vc, vd, e, hp, ef, nd, g, h1, h2, h3, a1, a2, a3, rb, l1, l2, l3⟩ => by
    subst ef
    have s := Wd.fz_sub (W := W) (f := [qa, qc, qd])
    exact ⟨p, _, _, _, _, e, .inl (.inl (s _ _ hp)), ⟨qa, va, rfl, (Wd.fz_in (by simp)).trans h1, a1.imp fun _ _ r => Rp.mono s r, l1⟩, Rp.mono s rb, ⟨qc, vc, rfl, (Wd.fz_in (by simp)).trans h2, a2.imp fun _ _ r => Rp.mono s r, l2⟩, ⟨qd, vd, rfl, (Wd.fz_in (by simp)).trans h3, a3.imp fun _ _ r => Rp.mono s r, l3⟩⟩
end
/-- .. of which the lengths alone are known -/
structure Tri where
  la : Nat
  lc : Nat
  ld : Nat
def ownTri (x : Tri) (v : V) (f : List Addr) (W : Wd) : Prop := ∃ (p : Addr) (vb : V) (qa qc qd : Addr) (va vc vd : List V), v = .ref p ∧ W.G p = some (.tup [.ref qa, vb, .ref qc, .ref qd]) ∧ f = [qa, qc, qd] ∧ [qa, qc, qd].Nodup ∧ (∀ q ∈ [qa, qc, qd], W.G q = none) ∧
  W.H qa = some (.lst va) ∧ W.H qc = some (.lst vc) ∧ W.H qd = some (.lst vd) ∧ va.length = x.la ∧ vc.length = x.lc ∧ vd.length = x.ld
instance : Ob Tri where
  own := fun _ => ownTri
  keep := fun {K x v f W W'} ⟨p, vb, qa, qc, qd, va, vc, vd, e, hp, ef, nd, g, h1, h2, h3, l⟩ s n k => by
    subst ef
    exact ⟨p, vb, qa, qc, qd, va, vc, vd, e, s _ _ hp, rfl, nd, n, (k qa (by simp)).trans h1, (k qc (by simp)).trans h2, (k qd (by simp)).trans h3, l⟩
  foot := fun {K x v f W} ⟨p, vb, qa, qc, qd, va, vc, vd, e, hp, ef, nd, g, h1, h2, h3, _⟩ a ha => by
    subst ef
    refine ⟨g a ha, ?_⟩
    simp only [List.mem_cons, List.not_mem_nil, or_false] at ha
    rcases ha with z | z | z <;> subst z
    · rw [h1]; exact fun z => nomatch z
    · rw [h2]; exact fun z => nomatch z
    · rw [h3]; exact fun z => nomatch z
section
variable {α β γ δ ε : Type} [Rp α] [Rp β] [Rp γ] [Rp δ] [Rp ε]
variable {J S ρ : Type} {c : Cn} {X : WX} {kr : ρ → Kd} {Ls : List Sl} {Js : J → List Sl} {B : Bd} {As : List Sl} {Bs : S → List Sl} {W0 : Wd}
/-- return (x, e, y, z): x one's own, e frozen, y and z new -/
theorem d_ret4 {kr : T4 (List α) β (List γ) (List δ) → Kd} {pin : Option V} {t1 t2 t3 : TE} {u : TS} {m1 : R β} {m2 : R (List γ)} {m3 : R (List δ)} {x : List α} (i : Nat) (hi : As[i]? = some (.ow pin x)) (hr : kr = fun z : T4 (List α) β (List γ) (List δ) => kNw c.K z) (lx : Lx Ls As)
    (h1 : Exr c B.W0 X t1 As m1 fun y => kFr c.K y) (h2 : Exr c B.W0 X t2 As m2 fun y => kNw c.K y) (h3 : Exr c B.W0 X t3 As m3 fun y => kNw c.K y) :
    Den c X kr Ls Js B (tSeq (tRet (tTup (tCons (tVar i) (tCons t1 (tCons t2 (tCons t3 tNil)))))) u) As (m1.to fun y => m2.to fun z => m3.to fun w => .rt (T4.mk x y z w)) Bs := fun D σ W a f => by
  subst hr
  obtain ⟨v, fp, hv, o, n, _⟩ := a.chg (β := List α) (y := x) hi
  have g1 := h1 σ W a
  have g2 := h2 σ W a
  have g3 := h3 σ W a
  refine ⟨v, hv, ?_⟩
  cases m1 with
  | no => exact False.elim f
  | ex e => exact g1 W (Le.refl _) _ fun cls d W2 e2 z => f cls d σ W2 (lx_at lx (a.mono e2)) z
  | ok y =>
    refine g1 W (Le.refl _) _ fun v1 W1 e1 r1 => ?_
    cases m2 with
    | no => exact False.elim f
    | ex e => exact g2 W1 e1 _ fun cls d W2 e2 z => f cls d σ W2 (lx_at lx (a.mono (e1.trans e2))) z
    | ok z =>
      refine g2 W1 e1 _ fun v2 W2 e2 ⟨f2, o2, n2⟩ => ?_
      cases m3 with
      | no => exact False.elim f
      | ex e => exact g3 W2 (e1.trans e2) _ fun cls d W3 e3 z => f cls d σ W3 (lx_at lx (a.mono (e1.trans (e2.trans e3)))) z
      | ok w =>
        refine g3 W2 (e1.trans e2) _ fun v3 W3 e3 ⟨f3, o3, n3⟩ => ⟨by show (4 : Nat) ≤ sizeLine; rw [sizeLine_eq]; decide, fun p hp => ?_⟩
        have l4 : Le W3 (W3.nf p (.tup [v, v1, v2, v3])) := Le.nf hp
        have ee := e1.trans (e2.trans (e3.trans l4))
        refine f (.ref p) (W3.nf p (.tup [v, v1, v2, v3])) (a.le.trans ee) ?_
        obtain ⟨qa, va, ea, ef, ga, ha, al1, b1⟩ := own_up o ee
        obtain ⟨qc, vc, ec, ef2, gc, hc, al2, b2⟩ := own_up o2 (e3.trans l4)
        obtain ⟨qd, vd, ed, ef3, gd, hd, al3, b3⟩ := own_up o3 l4
        subst ea ef ec ef2 ed ef3
        have hqa := (Ob.foot o qa (by simp)).2
        have hqc := (Ob.foot o2 qc (by simp)).2
        have nc := n2 qc (by simp)
        have nd := n3 qd (by simp)
        have qac : qa ≠ qc := fun z => hqa ((e1.h.nope (z ▸ nc)))
        have qad : qa ≠ qd := fun z => hqa ((e1.trans e2).h.nope (z ▸ nd))
        have qcd : qc ≠ qd := fun z => hqc (z ▸ nd)
        refine ⟨[qa, qc, qd], ⟨p, v1, qa, qc, qd, va, vc, vd, rfl, upd_same, rfl, ?_, fun q hq => ?_, ha, hc, hd, al1, al2, al3, Rp.mono (e2.trans (e3.trans l4)).g r1, b1, b2, b3⟩, fun b hb => ?_⟩
        · simp only [List.nodup_cons, List.mem_cons, List.not_mem_nil, or_false, not_or, List.nodup_nil, and_true, not_false_eq_true]
          exact ⟨⟨qac, qad⟩, qcd⟩
        · simp only [List.mem_cons, List.not_mem_nil, or_false] at hq
          rcases hq with z | z | z <;> subst z
          · exact ga
          · exact gc
          · exact gd
        · simp only [List.mem_cons, List.not_mem_nil, or_false] at hb
          rcases hb with z | z | z <;> subst z
          · exact B.le.h.nope (n _ (by simp))
          · exact (B.le.trans (a.le.trans e1)).h.nope nc
          · exact (B.le.trans (a.le.trans (e1.trans e2))).h.nope nd
/-- for r in [x[0], x[2], x[3]]: r.append(y); x is known no more -/
theorem d_gone3 {pin : Option V} {te ta tb tc : TE} {u : TS} {x : T4 (List α) β (List γ) (List δ)} {y : ε} {k : Out S J ρ} (i j : Nat) (hi : As[i]? = some (.ow pin x)) (hj : ∃ A, As[j]? = some A) (ij : i ≠ j)
    (hta : Exp c B.W0 ta As (kFr c.K (0 : Int))) (htb : Exp c B.W0 tb As (kFr c.K (2 : Int))) (htc : Exp c B.W0 tc As (kFr c.K (3 : Int))) (hte : ∀ (As' : List Sl) W0', Exp c W0' te As' (kFr c.K y)) (hk : Den c X kr Ls Js B u ((As.set i .un).set j .un) k Bs) :
    Den c X kr Ls Js B (tSeq (tFor (iList c.K (tLst (tCons (tOp (rIxT c.K) (tVar i) ta) (tCons (tOp (rIxT c.K) (tVar i) tb) (tCons (tOp (rIxT c.K) (tVar i) tc) tNil))))) (gName j) (tSeq (tDrop (tBM c.K "list" rAppend (tVar j) (tCons te tNil))) tNext)) u) As
      ((if x.a.length < sizeLine ∧ x.c.length < sizeLine ∧ x.d.length < sizeLine then R.ok () else R.no).to fun _ => k) Bs := fun D σ W a f => by
  by_cases hall : x.a.length < sizeLine ∧ x.c.length < sizeLine ∧ x.d.length < sizeLine
  case neg => rw [if_neg hall] at f; exact False.elim f
  rw [if_pos hall] at f
  have f' : Fin c X kr Ls Js B Bs D k := f
  obtain ⟨v, fp, hv, o, n0, chg⟩ := a.chgG hi
  obtain ⟨p, vb, qa, qc, qd, va, vc, vd, e, hp, ef, nd, g, h1, h2, h3, a1, a2, a3, rb, l⟩ := o
  subst e ef
  refine ⟨_, hv, hta σ W a W (Le.refl _) _ fun w1 W1 e1 hw1 => ?_⟩
  have hw1' : w1 = .int 0 := hw1
  subst hw1'
  refine ⟨p, [.ref qa, vb, .ref qc, .ref qd], 0, .ref qa, rfl, rfl, W1.sub.sqt (.inl (.inl (e1.g _ _ hp))), rfl, ?_⟩
  refine ⟨_, hv, htb σ W a W1 e1 _ fun w2 W2 e2 hw2 => ?_⟩
  have hw2' : w2 = .int 2 := hw2
  subst hw2'
  refine ⟨p, [.ref qa, vb, .ref qc, .ref qd], 2, .ref qc, rfl, rfl, W2.sub.sqt (.inl (.inl ((e1.trans e2).g _ _ hp))), rfl, ?_⟩
  refine ⟨_, hv, htc σ W a W2 (e1.trans e2) _ fun w3 W3 e3 hw3 => ?_⟩
  have hw3' : w3 = .int 3 := hw3
  subst hw3'
  have e123 := e1.trans (e2.trans e3)
  refine ⟨p, [.ref qa, vb, .ref qc, .ref qd], 3, .ref qd, rfl, rfl, W3.sub.sqt (.inl (.inl (e123.g _ _ hp))), rfl, ?_⟩
  refine ⟨by show (3 : Nat) ≤ sizeLine; rw [sizeLine_eq]; decide, fun L hL => ?_⟩
  have eL : Le W3 (W3.nf L (.lst [.ref qa, .ref qc, .ref qd])) := Le.nf hL
  have eW := e123.trans eL
  generalize hW4 : W3.nf L (.lst [.ref qa, .ref qc, .ref qd]) = W4 at eL eW
  have hLG : W4.G L = some (.lst [.ref qa, .ref qc, .ref qd]) := by rw [← hW4]; exact upd_same
  rw [show upd W3.H L (.lst [.ref qa, .ref qc, .ref qd]) = W4.H by rw [← hW4]; rfl]
  have hsL : ∀ {Wi : Wd}, Inc W4.G Wi.G → SqL c.K Wi.H L [.ref qa, .ref qc, .ref qd] := fun {Wi} s => .inl (.inl (Wi.sub _ _ (s _ _ hLG)))
  refine ⟨L, rfl, ⟨_, hsL (Inc.refl _)⟩, ?_⟩
  have up : ∀ q, q ∈ [qa, qc, qd] → W4.G q = none ∧ ∀ vs, W.H q = some (.lst vs) → W4.H q = some (.lst vs) := fun q hq => by
    have hn : W.H q ≠ none := by
      simp only [List.mem_cons, List.not_mem_nil, or_false] at hq
      rcases hq with z | z | z <;> subst z
      · rw [h1]; exact fun z => nomatch z
      · rw [h2]; exact fun z => nomatch z
      · rw [h3]; exact fun z => nomatch z
    exact ⟨eW.o q (g q hq) hn, fun vs e => eW.h _ _ e⟩
  have hil : i < As.length := (List.getElem?_eq_some_iff.mp hi).1
  have ap0 := chg Tri inferInstance ⟨x.a.length, x.c.length, x.d.length⟩ W4 [qa, qc, qd] eW.g (fun b hb gb nb => eW.o b gb nb) (fun b hb nb => by
    cases q : W.H b with
    | none => exact absurd q nb
    | some u => exact eW.h b u q) ⟨p, vb, qa, qc, qd, va, vc, vd, rfl, eW.g _ _ hp, rfl, nd, fun q hq => (up q hq).1, (up qa (by simp)).2 _ h1, (up qc (by simp)).2 _ h2, (up qd (by simp)).2 _ h3, a1.1.symm, a2.1.symm, a3.1.symm⟩ fun b hb => .inl hb
  have ap1 := ap0.repin (pin' := some (.ref p)) (by rw [List.getElem?_set_self hil]) hv fun u e => Option.some.inj e
  rw [List.set_set] at ap1
  have ap := ap1.wk (Wk.setU _ j)
  let Wb := B.W0.rb W4 ap.le
  have eb : Le B.W0 Wb := Le.rb0 ap.le
  let Ti : Nat → Tri := fun n => ⟨x.a.length + min n 1, x.c.length + min (n - 1) 1, x.d.length + min (n - 2) 1⟩
  have hG0 : Inc W4.G Wb.G := Inc.refl _
  refine ⟨fun n m σ' H => ∃ Wi : Wd, H = Wi.H ∧ At c.K Wb ((As.set i (.ow (some (.ref p)) (Ti n))).set j .un) σ' Wi ∧ m = 3 - n ∧ n ≤ 3, ⟨3, W4, rfl, ap.rb, rfl, Nat.zero_le _⟩, ?_⟩
  rintro n m σ' H ⟨Wi, rfl, ai, rfl, n3⟩
  have hi2 : ((As.set i (.ow (some (.ref p)) (Ti n))).set j .un)[i]? = some (.ow (some (.ref p)) (Ti n)) := by
    rw [List.getElem?_set_ne (Ne.symm ij), List.getElem?_set_self hil]
  have hG : Wi.G p = some (.tup [.ref qa, vb, .ref qc, .ref qd]) := ai.le.g _ _ (eW.g _ _ hp)
  obtain ⟨v', fp', hv', o', _, chg'⟩ := ai.chg (β := Tri) (y := Ti (n + 1)) hi2
  obtain ⟨v'', _, hv'', _, pn', _⟩ := ai.varO hi2
  rw [hv'] at hv''
  cases hv''
  have pe := pn' _ rfl
  subst pe
  obtain ⟨p', vb', qa', qc', qd', wa, wc, wd, e', hp', ef', nd', g', k1, k2, k3, l1, l2, l3⟩ := o'
  cases e'
  rw [hG] at hp'
  cases hp'
  subst ef'
  have hs : SqL c.K Wi.H L [.ref qa, .ref qc, .ref qd] := hsL ai.le.g
  by_cases ci : n = 3
  · refine .inl ⟨⟨_, hs, by rw [ci]; exact Nat.le_refl _⟩, ?_⟩
    have a4 := (ai.re eb).wk (Wk.setU _ i)
    have es : ((As.set i (.ow (some (.ref p)) (Ti n))).set j .un).set i .un = (As.set i .un).set j .un := by
      rw [List.set_comm _ _ (Ne.symm ij), List.set_set]
    rw [es] at a4
    exact hk D σ' Wi a4 f'
  · have hjl : j < σ'.length := by
      obtain ⟨A, hA⟩ := hj
      have h1 := (List.getElem?_eq_some_iff.mp hA).1
      have h2 := ai.len
      rw [h2, List.length_set, List.length_set]
      exact h1
    -- the list of this turn
    have turn : ∃ (b : Addr) (vs : List V), [V.ref qa, .ref qc, .ref qd][n]? = some (.ref b) ∧ b ∈ [qa, qc, qd] ∧ Wi.H b = some (.lst vs) ∧ vs.length < sizeLine ∧ ∀ (W3 : Wd) (v3 : V) (e3 : Le Wi W3) (gb3 : W3.G b = none), ownTri (Ti (n + 1)) (.ref p) [qa, qc, qd] (W3.mt b (.lst (vs ++ [v3])) gb3) := by
      simp only [List.nodup_cons, List.mem_cons, List.not_mem_nil, or_false, not_or, List.nodup_nil, and_true, not_false_eq_true] at nd'
      obtain ⟨⟨n1, n2⟩, n4⟩ := nd'
      have nn : ∀ q, q ∈ [qa, qc, qd] → Wi.H q ≠ none := fun q hq => by
        simp only [List.mem_cons, List.not_mem_nil, or_false] at hq
        rcases hq with z | z | z <;> subst z
        · rw [k1]; exact fun z => nomatch z
        · rw [k2]; exact fun z => nomatch z
        · rw [k3]; exact fun z => nomatch z
      have ndl : [qa, qc, qd].Nodup := nd
      match n, n3, ci, l1, l2, l3 with
      | 0, _, _, l1, l2, l3 =>
        refine ⟨qa, wa, rfl, by simp, k1, by rw [l1]; exact hall.1, fun W3 v3 e3 gb3 => ⟨p, vb, qa, qc, qd, wa ++ [v3], wc, wd, rfl, e3.g _ _ hG, rfl, ndl, fun q hq => e3.o q (g' q hq) (nn q hq), upd_same, ?_, ?_, by rw [List.length_append, l1]; rfl, l2, l3⟩⟩
        · show upd W3.H qa _ qc = _
          rw [upd_ne (Ne.symm n1)]; exact e3.h _ _ k2
        · show upd W3.H qa _ qd = _
          rw [upd_ne (Ne.symm n2)]; exact e3.h _ _ k3
      | 1, _, _, l1, l2, l3 =>
        refine ⟨qc, wc, rfl, by simp, k2, by rw [l2]; exact hall.2.1, fun W3 v3 e3 gb3 => ⟨p, vb, qa, qc, qd, wa, wc ++ [v3], wd, rfl, e3.g _ _ hG, rfl, ndl, fun q hq => e3.o q (g' q hq) (nn q hq), ?_, upd_same, ?_, l1, by rw [List.length_append, l2]; rfl, l3⟩⟩
        · show upd W3.H qc _ qa = _
          rw [upd_ne n1]; exact e3.h _ _ k1
        · show upd W3.H qc _ qd = _
          rw [upd_ne (Ne.symm n4)]; exact e3.h _ _ k3
      | 2, _, _, l1, l2, l3 =>
        refine ⟨qd, wd, rfl, by simp, k3, by rw [l3]; exact hall.2.2, fun W3 v3 e3 gb3 => ⟨p, vb, qa, qc, qd, wa, wc, wd ++ [v3], rfl, e3.g _ _ hG, rfl, ndl, fun q hq => e3.o q (g' q hq) (nn q hq), ?_, ?_, upd_same, l1, l2, by rw [List.length_append, l3]; rfl⟩⟩
        · show upd W3.H qd _ qa = _
          rw [upd_ne n2]; exact e3.h _ _ k1
        · show upd W3.H qd _ qc = _
          rw [upd_ne n4]; exact e3.h _ _ k2
      | n + 3, h, ci, _, _, _ => exact absurd (by omega) ci
    obtain ⟨b, vs, hb, bq, hvs, hlen, own'⟩ := turn
    refine .inr ⟨⟨_, .ref b, hs, hb⟩, fun σ' H' => ∃ Wi : Wd, H' = Wi.H ∧ At c.K Wb ((As.set i (.ow (some (.ref p)) (Ti (n + 1)))).set j .un) σ' Wi, fun σ' H' ⟨W', e1, e2'⟩ => ⟨3 - (n + 1), by omega, W', e1, e2', rfl, by omega⟩, fun v2 H' ⟨eh, kv⟩ => ?_⟩
    subst eh
    have e5 := kv _ hs
    rw [hb] at e5
    cases e5
    have a5 : At c.K Wb ((As.set i (.ow (some (.ref p)) (Ti n))).set j .un) (σ'.set j (some (.ref b))) Wi := by
      have := ai.set (i := j) (A := .un) (o := some (.ref b)) trivial
      rw [List.set_set] at this
      exact this
    refine ⟨.ref b, List.getElem?_set_self hjl, .inl ⟨rfl, vs, .inl (.inl hvs)⟩, ?_⟩
    refine hte _ _ _ Wi a5 Wi (Le.refl _) _ fun v3 W3' e3' rv => ?_
    refine ⟨b, vs, v3, rfl, rfl, e3'.h _ _ hvs, hlen, ?_⟩
    have gb3 : W3'.G b = none := e3'.o b (g' b bq) (by rw [hvs]; exact fun z => nomatch z)
    have a6 := chg' (W3'.mt b (.lst (vs ++ [v3])) gb3) [qa, qc, qd] e3'.g (fun d _ gd nd => e3'.o d gd nd)
      (fun d hd nd => upd_keep e3' (fun z => hd (by rw [z]; exact bq)) nd) (own' W3' v3 e3' gb3) (fun d hd => .inl hd)
    refine ⟨W3'.mt b (.lst (vs ++ [v3])) gb3, rfl, ?_⟩
    have a7 := a6.set (i := j) (A := .un) (o := some (.ref b)) trivial
    have es : (((As.set i (.ow (some (.ref p)) (Ti n))).set j .un).set i (.ow (some (.ref p)) (Ti (n + 1)))).set j .un = (As.set i (.ow (some (.ref p)) (Ti (n + 1)))).set j .un := by
      rw [List.set_comm (l := As) _ _ ij, List.set_set, List.set_comm (l := As) _ _ (Ne.symm ij), List.set_set]
    rw [es] at a7
    exact a7
end
end Fw

namespace Fw
open PySem PySem.Spec PyProof.Rows L2
/-! ### values of many kinds: plain data of a bounded depth -/
structure Dy (n : Nat) where
  d : PyData
instance {n : Nat} : Rp (Dy n) := ⟨fun K x v G => Dp K G v x.d ∧ x.d.depth ≤ n ∧ x.d.canLay0 = true, fun s ⟨h, a, b⟩ => ⟨dp_mono s h, a, b⟩⟩
/-- what can be looked at as such a value -/
class Dn (α : Type) [Rp α] where
  toD : α → PyData
  dp : ∀ {K : Frag} {x : α} {v : V} {G : Hp}, Rp.rep K x v G → Dp K G v (toD x)
  n : Nat
  dep : ∀ {K : Frag} {x : α} {v : V} {G : Hp}, Rp.rep K x v G → (toD x).depth ≤ n
  lay : ∀ {K : Frag} {x : α} {v : V} {G : Hp}, Rp.rep K x v G → (toD x).canLay0 = true
instance : Dn Int := ⟨.int, Pd.dp, 0, Pd.dep, Pd.lay⟩
instance : Dn Bool := ⟨.bool, Pd.dp, 0, Pd.dep, Pd.lay⟩
instance : Dn Str := ⟨.str, Pd.dp, 0, Pd.dep, Pd.lay⟩
instance : Dn Unit := ⟨fun _ => .none, Pd.dp, 0, Pd.dep, Pd.lay⟩
instance {n : Nat} : Dn (Dy n) := ⟨Dy.d, fun h => h.1, n, fun h => h.2.1, fun h => h.2.2⟩
section
variable {α β γ δ : Type} [Rp α] [Dn α] [Rp β] [Dn β] [Rp γ] [Dn γ] [Rp δ] [Dn δ] {K : Frag}
theorem dnAll {G : Hp} : ∀ {xs : List α} {vs : List V}, Al (fun x v => Rp.rep K x v G) xs vs → DpAll K G vs (xs.map Dn.toD)
  | [], [], _ => .nil
  | [], v :: vs, h => by have := h.1; simp at this
  | x :: xs, [], h => by have := h.1; simp at this
  | x :: xs, v :: vs, h => .cons (Dn.dp (h.2 0 x v rfl rfl)) (dnAll ⟨by have := h.1; simpa using this, fun i y w a b => h.2 (i + 1) y w a b⟩)
theorem dnDepAll {G : Hp} : ∀ {xs : List α} {vs : List V}, Al (fun x v => Rp.rep K x v G) xs vs → PyData.depthAll (xs.map Dn.toD) ≤ Dn.n α
  | [], [], _ => by simp [PyData.depthAll]
  | [], v :: vs, h => by have := h.1; simp at this
  | x :: xs, [], h => by have := h.1; simp at this
  | x :: xs, v :: vs, h => by
    have h1 := Dn.dep (h.2 0 x v rfl rfl)
    have h2 := dnDepAll (xs := xs) (vs := vs) ⟨by have := h.1; simpa using this, fun i y w a b => h.2 (i + 1) y w a b⟩
    simp only [List.map_cons, PyData.depthAll]
    omega
theorem dnLayAll {G : Hp} : ∀ {xs : List α} {vs : List V}, Al (fun x v => Rp.rep K x v G) xs vs → PyData.canLayAll0 (xs.map Dn.toD) = true
  | [], [], _ => by simp [PyData.canLayAll0]
  | [], v :: vs, h => by have := h.1; simp at this
  | x :: xs, [], h => by have := h.1; simp at this
  | x :: xs, v :: vs, h => by
    have h1 := Dn.lay (h.2 0 x v rfl rfl)
    have h2 := dnLayAll (xs := xs) (vs := vs) ⟨by have := h.1; simpa using this, fun i y w a b => h.2 (i + 1) y w a b⟩
    simp only [List.map_cons, PyData.canLayAll0, h1, h2, Bool.and_self]
instance : Dn (List α) := ⟨fun xs => .list (xs.map Dn.toD), fun ⟨p, vs, e, h, al, l⟩ => by subst e; exact .lst (.inl (.inl h)) (dnAll al), Dn.n α + 1, fun ⟨p, vs, e, h, al, l⟩ => by
  simp only [PyData.depth]; have := dnDepAll al; omega, fun ⟨p, vs, e, h, al, l⟩ => by simp only [PyData.canLay0]; exact dnLayAll al⟩
instance : Dn (Tup α) := ⟨fun xs => .tuple (xs.l.map Dn.toD), fun ⟨p, vs, e, h, al, l⟩ => by subst e; exact .tup h (dnAll al), Dn.n α + 1, fun ⟨p, vs, e, h, al, l⟩ => by
  simp only [PyData.depth]; have := dnDepAll al; omega, fun ⟨p, vs, e, h, al, l⟩ => by simp only [PyData.canLay0]; exact dnLayAll al⟩
instance : Dn (α × β) := ⟨fun x => .tuple [Dn.toD x.1, Dn.toD x.2], fun ⟨p, a, b, e, h, r1, r2⟩ => by subst e; exact .tup h (.cons (Dn.dp r1) (.cons (Dn.dp r2) .nil)), max (Dn.n α) (Dn.n β) + 1, fun ⟨p, a, b, e, h, r1, r2⟩ => by
  simp only [PyData.depth, PyData.depthAll]; have := Dn.dep r1; have := Dn.dep r2; omega, fun ⟨p, a, b, e, h, r1, r2⟩ => by simp only [PyData.canLay0, PyData.canLayAll0, Dn.lay r1, Dn.lay r2, Bool.and_self]⟩
instance : Dn (T3 α β γ) := ⟨fun x => .tuple [Dn.toD x.a, Dn.toD x.b, Dn.toD x.c], fun ⟨p, a, b, d, e, h, r1, r2, r3⟩ => by subst e; exact .tup h (.cons (Dn.dp r1) (.cons (Dn.dp r2) (.cons (Dn.dp r3) .nil))), max (Dn.n α) (max (Dn.n β) (Dn.n γ)) + 1, fun ⟨p, a, b, d, e, h, r1, r2, r3⟩ => by
  simp only [PyData.depth, PyData.depthAll]; have := Dn.dep r1; have := Dn.dep r2; have := Dn.dep r3; omega, fun ⟨p, a, b, d, e, h, r1, r2, r3⟩ => by simp only [PyData.canLay0, PyData.canLayAll0, Dn.lay r1, Dn.lay r2, Dn.lay r3, Bool.and_self]⟩
instance : Dn (T4 α β γ δ) := ⟨fun x => .tuple [Dn.toD x.a, Dn.toD x.b, Dn.toD x.c, Dn.toD x.d], fun ⟨p, a, b, d, f, e, h, r1, r2, r3, r4⟩ => by subst e; exact .tup h (.cons (Dn.dp r1) (.cons (Dn.dp r2) (.cons (Dn.dp r3) (.cons (Dn.dp r4) .nil)))), max (Dn.n α) (max (Dn.n β) (max (Dn.n γ) (Dn.n δ))) + 1, fun ⟨p, a, b, d, f, e, h, r1, r2, r3, r4⟩ => by
  simp only [PyData.depth, PyData.depthAll]; have := Dn.dep r1; have := Dn.dep r2; have := Dn.dep r3; have := Dn.dep r4; omega, fun ⟨p, a, b, d, f, e, h, r1, r2, r3, r4⟩ => by simp only [PyData.canLay0, PyData.canLayAll0, Dn.lay r1, Dn.lay r2, Dn.lay r3, Dn.lay r4, Bool.and_self]⟩
instance : Dn (α ⊕ β) where
  toD x := match x with
    | .inl a => Dn.toD a
    | .inr b => Dn.toD b
  dp := fun {K x v G} h => by
    cases x with
    | inl a => exact Dn.dp (α := α) h
    | inr b => exact Dn.dp (α := β) h
  n := max (Dn.n α) (Dn.n β)
  dep := fun {K x v G} h => by
    cases x with
    | inl a => have := Dn.dep (α := α) h; dsimp only; omega
    | inr b => have := Dn.dep (α := β) h; dsimp only; omega
  lay := fun {K x v G} h => by
    cases x with
    | inl a => exact Dn.lay (α := α) h
    | inr b => exact Dn.lay (α := β) h
def dyOf (n : Nat) (x : α) : Dy n := ⟨Dn.toD x⟩
def dysOf (n : Nat) (xs : List α) : List (Dy n) := xs.map (dyOf n)
def dy4 (n : Nat) (x : T4 α β γ δ) : Tup (Dy n) := ⟨[dyOf n x.a, dyOf n x.b, dyOf n x.c, dyOf n x.d]⟩
theorem dy_rep {n : Nat} (hn : Dn.n α ≤ n) {x : α} {v : V} {G : Hp} (h : Rp.rep K x v G) : Rp.rep K (dyOf n x) v G := ⟨Dn.dp h, Nat.le_trans (Dn.dep h) hn, Dn.lay h⟩
theorem al_map {β' γ' : Type} {r : β' → V → Prop} {s : γ' → V → Prop} {f : β' → γ'} {xs : List β'} {vs : List V} (h : Al r xs vs) (hf : ∀ x v, r x v → s (f x) v) : Al s (xs.map f) vs := ⟨by rw [List.length_map]; exact h.1, fun i x v h1 h2 => by
  rw [List.getElem?_map] at h1
  cases e : xs[i]? with
  | none => rw [e] at h1; cases h1
  | some y =>
    rw [e] at h1
    have := Option.some.inj h1
    subst this
    exact hf y v (h.2 i y v e h2)⟩
theorem dys_rep {n : Nat} (hn : Dn.n α ≤ n) {xs : List α} {v : V} {G : Hp} (h : Rp.rep K xs v G) : Rp.rep K (dysOf n xs) v G := by
  obtain ⟨p, vs, e, hp, al, l⟩ := h
  exact ⟨p, vs, e, hp, al_map al fun x v h => dy_rep hn h, by unfold dysOf; rw [List.length_map]; exact l⟩
theorem dy4_rep {n : Nat} (h1 : Dn.n α ≤ n) (h2 : Dn.n β ≤ n) (h3 : Dn.n γ ≤ n) (h4 : Dn.n δ ≤ n) {x : T4 α β γ δ} {v : V} {G : Hp} (h : Rp.rep K x v G) : Rp.rep K (dy4 n x) v G := by
  obtain ⟨p, a, b, c, d, e, hp, r1, r2, r3, r4⟩ := h
  refine ⟨p, [a, b, c, d], e, hp, ⟨rfl, fun i y w e1 e2 => ?_⟩, by show 4 ≤ sizeLine; rw [sizeLine_eq]; decide⟩
  match i, e1, e2 with
  | 0, e1, e2 => cases e1; cases e2; exact dy_rep h1 r1
  | 1, e1, e2 => cases e1; cases e2; exact dy_rep h2 r2
  | 2, e1, e2 => cases e1; cases e2; exact dy_rep h3 r3
  | 3, e1, e2 => cases e1; cases e2; exact dy_rep h4 r4
  | i + 4, e1, e2 => cases e1
end
section
variable {α β : Type} [Rp α] [Rp β] {c : Cn} {W0 : Wd} {X : WX} {As : List Sl}
/-- looked at as another type -/
theorem e_as {te : TE} {x : α} {f : α → β} (hf : ∀ {x : α} {v : V} {G : Hp}, Rp.rep c.K x v G → Rp.rep c.K (f x) v G) (h : Exp c W0 te As (kFr c.K x)) : Exp c W0 te As (kFr c.K (f x)) := exp_w h fun _ _ _ => hf
theorem r_as {te : TE} {m : R α} {f : α → β} (hf : ∀ {x : α} {v : V} {G : Hp}, Rp.rep c.K x v G → Rp.rep c.K (f x) v G) (h : Exr c W0 X te As m fun x => kFr c.K x) : Exr c W0 X te As (m.bind fun x => .ok (f x)) fun x => kFr c.K x := fun σ W a => by
  have h' := h σ W a
  cases m with
  | no => trivial
  | ex e => exact h'
  | ok x => exact fun W1 e Q q => h' W1 e Q fun v W2 e2 p => q v W2 e2 (hf p)
structure Cast (f : α → R β) : Prop where
  ex : ∀ x e, f x ≠ .ex e
  ok : ∀ {K : Frag} {x : α} {y : β} {v : V} {G : Hp}, f x = .ok y → Rp.rep K x v G → Rp.rep K y v G
theorem r_cast {te : TE} {m : R α} {f : α → R β} (F : Cast f) (h : Exr c W0 X te As m fun x => kFr c.K x) : Exr c W0 X te As (m.bind f) fun x => kFr c.K x := fun σ W a => by
  have h' := h σ W a
  cases m with
  | no => trivial
  | ex e => exact h'
  | ok x =>
    show SatR (f x) _ _
    cases e : f x with
    | no => trivial
    | ex z => exact (F.ex x z e).elim
    | ok y => exact fun W1 e1 Q q => h' W1 e1 Q fun v W2 e2 p => q v W2 e2 (F.ok e p)
end
section
variable {n : Nat} {K : Frag}
def R.yint (x : Dy n) : R Int := match x.d with
  | .int i => .ok i
  | _ => .no
def R.ytup (x : Dy n) : R (Tup (Dy n)) := match x.d with
  | .tuple l => if l.length ≤ sizeLine then .ok ⟨l.map Dy.mk⟩ else .no
  | _ => .no
def R.y4 (x : Dy n) : R (T4 Str Int Int Int) := match x.d with
  | .tuple [.str a, .int b, .int c, .int d] => if soks [a] then .ok ⟨a, b, c, d⟩ else .no
  | _ => .no
theorem c_yint : Cast (R.yint (n := n)) where
  ex := fun ⟨d⟩ e h => by cases d <;> cases h
  ok := fun {K x y v G} h r => by
    obtain ⟨d⟩ := x
    cases d with
    | int i =>
      cases h
      obtain ⟨r1, _, _⟩ := r
      cases r1
      rfl
    | _ => cases h
theorem dy_al {G : Hp} : ∀ {ds : List PyData} {vs : List V}, DpAll K G vs ds → PyData.depthAll ds ≤ n → PyData.canLayAll0 ds = true → Al (fun (x : Dy n) v => Rp.rep K x v G) (ds.map Dy.mk) vs
  | _, _, .nil, _, _ => ⟨rfl, fun i x v h _ => (nomatch h)⟩
  | d :: ds, v :: vs, .cons h t, hd, hl => by
    simp only [PyData.depthAll, PyData.canLayAll0, Bool.and_eq_true] at hd hl
    have ih := dy_al t (show PyData.depthAll ds ≤ n by omega) hl.2
    refine ⟨by rw [List.map_cons, List.length_cons, List.length_cons, ih.1], fun i x w h1 h2 => ?_⟩
    cases i with
    | zero => cases h1; cases h2; exact ⟨h, (show d.depth ≤ n by omega), hl.1⟩
    | succ i => exact ih.2 i x w h1 h2
theorem c_ytup : Cast (R.ytup (n := n)) where
  ex := fun ⟨d⟩ e h => by
    cases d with
    | tuple l =>
      unfold R.ytup at h
      dsimp only at h
      split at h <;> cases h
    | _ => cases h
  ok := fun {K x y v G} h r => by
    obtain ⟨d⟩ := x
    cases d with
    | tuple l =>
      unfold R.ytup at h
      dsimp only at h
      split at h
      · rename_i hl
        cases h
        obtain ⟨r1, r2, r3⟩ := r
        dsimp only at r1 r2 r3
        cases r1 with
        | tup hp ha =>
          simp only [PyData.depth] at r2
          simp only [PyData.canLay0] at r3
          exact ⟨_, _, rfl, hp, dy_al ha (by omega) r3, by rw [List.length_map]; exact hl⟩
      · cases h
    | _ => cases h
theorem c_y4 : Cast (R.y4 (n := n)) where
  ex := fun ⟨d⟩ e h => by
    unfold R.y4 at h
    split at h
    · split at h <;> cases h
    · cases h
  ok := fun {K x y v G} h r => by
    obtain ⟨d⟩ := x
    unfold R.y4 at h
    split at h
    · rename_i a b c' d' e
      split at h
      · rename_i hs
        cases h
        dsimp only at e
        subst e
        obtain ⟨r1, _, _⟩ := r
        dsimp only at r1
        cases r1 with
        | tup hp ha =>
          cases ha with
          | cons h1 t =>
            cases t with
            | cons h2 t =>
              cases t with
              | cons h3 t =>
                cases t with
                | cons h4 t =>
                  cases t
                  cases h1
                  cases h2
                  cases h3
                  cases h4
                  exact ⟨_, _, _, _, _, rfl, hp, ⟨rfl, soks_at hs (List.mem_singleton.mpr rfl)⟩, rfl, rfl, rfl⟩
      · cases h
    · cases h
/-! == a text, in (a text, a text) -/
theorem dy_shaped {x : Dy n} {v : V} {G : Hp} (h : Rp.rep K x v G) (hn : n ≤ 64) : SeqAt.shaped x.d = true := by
  unfold SeqAt.shaped
  rw [Bool.and_eq_true]
  exact ⟨h.2.2, decide_eq_true (Nat.le_trans h.2.1 hn)⟩
def eqY (x : Dy n) (s : Str) : Bool := PyData.eqv x.d (.str s)
theorem o_eqY (hn : n ≤ 64 := by decide) : Op2 (rEqD K) (fun x : Dy n => kFr K x) (fun x : Str => kFr K x) (fun x y => .ok (eqY x y)) (fun z : Bool => kFr K z) := fun x y W0 W v w hv hw Q q =>
  ⟨x.d, .str y, dp_mono W.sub hv.1, dp_mono W.sub (Pd.dp hw), dy_shaped hv hn, shaped_of hw (by decide), q _ W (Le.refl _) rfl⟩
theorem o_neY (hn : n ≤ 64 := by decide) : Op2 (rNeD K) (fun x : Dy n => kFr K x) (fun x : Str => kFr K x) (fun x y => .ok (!eqY x y)) (fun z : Bool => kFr K z) := fun x y W0 W v w hv hw Q q =>
  ⟨x.d, .str y, dp_mono W.sub hv.1, dp_mono W.sub (Pd.dp hw), dy_shaped hv hn, shaped_of hw (by decide), q _ W (Le.refl _) rfl⟩
def rInTD (K : PySem.W.Frag) : R2 := fun x y H Q => ∃ d ds, Dp K H x d ∧ Dp K H y (.tuple ds) ∧ SeqAt.shaped d = true ∧ SeqAt.shaped (.tuple ds) = true ∧ Q (.bl (ds.any fun z => PyData.eqv z d)) H
def rNotInTD (K : PySem.W.Frag) : R2 := fun x y H Q => ∃ d ds, Dp K H x d ∧ Dp K H y (.tuple ds) ∧ SeqAt.shaped d = true ∧ SeqAt.shaped (.tuple ds) = true ∧ Q (.bl (!ds.any fun z => PyData.eqv z d)) H
theorem op_inTD {X : Cx} (hu : X.A.units + 65 < cLine) : OpR X (compareOp .In) (rInTD X.K) := by
  intro pins s σ H x y v u Q I rx ry h
  obtain ⟨d, ds, hd, he, sd, se, q⟩ := h
  obtain ⟨as, r1⟩ := Dp.reads I d x v hd rx
  obtain ⟨bs, r2⟩ := Dp.reads I (.tuple ds) y u he ry
  exact SeqAt.in_tuple_reads r2 r1 (SeqAt.canLay_of_shaped se) (SeqAt.canLay_of_shaped sd) (room_in_shaped sd hu) ⟨.bl _, H, I, rfl, q⟩
theorem op_notInTD {X : Cx} (hu : X.A.units + 65 < cLine) : OpR X (compareOp .NotIn) (rNotInTD X.K) := by
  intro pins s σ H x y v u Q I rx ry h
  obtain ⟨d, ds, hd, he, sd, se, q⟩ := h
  obtain ⟨as, r1⟩ := Dp.reads I d x v hd rx
  obtain ⟨bs, r2⟩ := Dp.reads I (.tuple ds) y u he ry
  exact SeqAt.notIn_tuple_reads r2 r1 (SeqAt.canLay_of_shaped se) (SeqAt.canLay_of_shaped sd) (room_in_shaped sd hu) ⟨.bl _, H, I, rfl, q⟩
def inY (x : Dy n) (l : List Str) : Bool := (l.map PyData.str).any fun z => PyData.eqv z x.d
theorem o_inYP (hn : n ≤ 64 := by decide) : Op2 (rInTD K) (fun x : Dy n => kFr K x) (fun x : Str × Str => kFr K x) (fun x y => .ok (inY x [y.1, y.2])) (fun z : Bool => kFr K z) := fun x y W0 W v w hv hw Q q =>
  ⟨x.d, [.str y.1, .str y.2], dp_mono W.sub hv.1, dp_mono W.sub (Pd.dp hw), dy_shaped hv hn, shaped_of hw (by decide), q _ W (Le.refl _) rfl⟩
theorem o_ninYP (hn : n ≤ 64 := by decide) : Op2 (rNotInTD K) (fun x : Dy n => kFr K x) (fun x : Str × Str => kFr K x) (fun x y => .ok (!inY x [y.1, y.2])) (fun z : Bool => kFr K z) := fun x y W0 W v w hv hw Q q =>
  ⟨x.d, [.str y.1, .str y.2], dp_mono W.sub hv.1, dp_mono W.sub (Pd.dp hw), dy_shaped hv hn, shaped_of hw (by decide), q _ W (Le.refl _) rfl⟩
theorem o_inYT (hn : n ≤ 64 := by decide) : Op2 (rInTD K) (fun x : Dy n => kFr K x) (fun x : Tup Str => kFr K x) (fun x y => .ok (inY x y.l)) (fun z : Bool => kFr K z) := fun x y W0 W v w hv hw Q q =>
  ⟨x.d, y.l.map .str, dp_mono W.sub hv.1, dp_mono W.sub (Pd.dp hw), dy_shaped hv hn, shaped_of hw (by decide), q _ W (Le.refl _) rfl⟩
theorem o_ninYT (hn : n ≤ 64 := by decide) : Op2 (rNotInTD K) (fun x : Dy n => kFr K x) (fun x : Tup Str => kFr K x) (fun x y => .ok (!inY x y.l)) (fun z : Bool => kFr K z) := fun x y W0 W v w hv hw Q q =>
  ⟨x.d, y.l.map .str, dp_mono W.sub hv.1, dp_mono W.sub (Pd.dp hw), dy_shaped hv hn, shaped_of hw (by decide), q _ W (Le.refl _) rfl⟩
/-! list of a tuple -/
theorem o_listTu {α : Type} [Rp α] : OpA (fun xs H Q => ∃ p ys, xs = [.ref p] ∧ (SqL K H p ys ∨ SqT K H p ys) ∧ ∀ l, H l = none → Q (.ref l) (upd H l (.lst ys))) (fun z : Tup α × Unit => aCons (kFr K z.1) aNil) (fun z => .ok z.1.l) (fun n : List α => kNw K n) :=
  fun z W0 W vs ⟨v, r, e, ⟨p, ls, ev, hs, al, l⟩, en⟩ Q q => by
  subst e en ev
  exact ⟨p, ls, rfl, .inr (W.sub.sqt hs), fun b hb => q _ (W.no b _ hb) (Le.no hb) ⟨[b], ⟨b, ls, rfl, rfl, W.sub.nope hb, upd_same, al, l⟩, fun a ha => by rw [List.mem_singleton.mp ha]; exact hb⟩⟩
/-! isinstance -/
def dyTy : PyData → String
  | .none => "NoneType"
  | .bool _ => "bool"
  | .int _ => "int"
  | .str _ => "str"
  | .list _ => "list"
  | .tuple _ => "tuple"
  | .dict _ => "dict"
def isY (T : String) (x : Dy n) : Bool := (kitB (dyTy x.d) T).getD false
theorem dp_ty {G : Hp} {v : V} {d : PyData} (h : Dp K G v d) : TyX K G v (.type (dyTy d)) ∧ dyTy d ∈ ["NoneType", "bool", "int", "str", "list", "tuple"] := by
  cases h with
  | non => exact ⟨.base .non, by simp [dyTy]⟩
  | bl b => exact ⟨.base (.bl _), by simp [dyTy]⟩
  | int i => exact ⟨.base (.int _), by simp [dyTy]⟩
  | str x => exact ⟨.base (.str _), by simp [dyTy]⟩
  | lst hp ha => 
    refine ⟨?_, by simp [dyTy]⟩
    rcases hp with (h | ⟨o, h⟩) | ⟨o, its, n, l, e, _⟩
    · exact .base (.lst h)
    · exact .base (.frz h)
    · exact .kList l e
  | tup hp ha => exact ⟨sqt_ty hp, by simp [dyTy]⟩
theorem o_isiY {T : String} (hT : (["NoneType", "bool", "int", "str", "list", "tuple"].all fun s => (kitB s T).isSome) = true) : OpA (rIsi K) (fun z : Dy n × Unit => aCons (kBw K z.1) (aCons (kV (.ty T)) aNil)) (fun z => .ok (isY T z.1)) (fun b : Bool => kFr K b) := fun ⟨z, _⟩ W0 W vs ⟨v, r, e, hv, w, r2, e2, ew, en⟩ Q q => by
  have ew' : w = .ty T := ew
  subst e e2 en ew'
  obtain ⟨h1, h2⟩ := dp_ty hv.1
  have h3 := List.all_eq_true.mp hT _ h2
  cases e : kitB (dyTy z.d) T with
  | none => rw [e] at h3; cases h3
  | some b => exact ⟨v, .ty T, .type (dyTy z.d), .type T, b, rfl, .ty T, h1, kit_ty e, q _ W (Le.refl _) (by show V.bl b = V.bl (isY T z); unfold isY; rw [e]; rfl)⟩
end
end Fw

/-! a text == a dict -/
namespace PySem.SeqAt
open AutoSeq1 (wpAny_loadPart')
open MeetsSeq
theorem str_eq_declines_dict (b : Str) (u : Tok) (l : Addr) (c : Value) (es : Array DictEntry) (n : Nat) (dd : Option Addr) (sl : Array (Option Value)) :
    Meets (Builtin.«str.__eq__» ⟨[.str b u, .ref l], []⟩) (fun _ R s => s.heap.get? l = some { cls := c, dict := dd, data := .dict es n, slots := sl } ∧ R (.ok (.ret .notImplemented)) s) :=
  .of_wp fun prog w A R s h => by obtain ⟨hp, g, d, tk, os⟩ := s; obtain ⟨hl, h⟩ := h; wp_walk using wpAny_loadPart' hl, wpAny_load hl; exact ⟨_, rfl, h⟩
theorem dict_eq_declines_str (l : Addr) (es : Array DictEntry) (n : Nat) (dd : Option Addr) (sl : Array (Option Value)) (b : Str) (u : Tok) :
    Meets (Builtin.«dict.__eq__» ⟨[.ref l, .str b u], []⟩) (fun _ R s => s.heap.get? l = some { cls := .type "dict", dict := dd, data := .dict es n, slots := sl } ∧ R (.ok (.ret .notImplemented)) s) :=
  .of_wp fun prog w A R s h => by obtain ⟨hp, g, d, tk, os⟩ := s; obtain ⟨hl, h⟩ := h; have f1 := F.sub_str_dict; wp_walk using wpAny_loadPart' hl; exact ⟨_, rfl, h⟩
section
variable {A : Around} {s : Shared}
theorem RcAt.str_dict {l : Addr} {es : Array DictEntry} {n : Nat} {dd : Option Addr} {sl : Array (Option Value)} (b : Str) (u : Tok) (ho : s.heap.get? l = some { cls := .type "dict", dict := dd, data := .dict es n, slots := sl }) (hu : A.units < cLine) : RcAt A s (.str b u) (.ref l) false := fun prog w E Q h =>
  rc_eq_decline_or (k := false) (typeIs_str s b u) ⟨_, ho, rfl⟩ (by decide) F.sub_dict_str F.slot_str_eq F.slot_dict_eq_refl
    (fun _ hq => call_meets F.slot_str_eq (typeIs_str s b u) F.entry_str_eq (F.args_str_eq_2 _ _) (str_eq_declines_dict b u l (.type "dict") es n dd sl) ⟨ho, hq⟩)
    (fun _ hq => call_meets F.slot_dict_eq_refl ⟨_, ho, rfl⟩ F.entry_dict_eq (F.args_dict_eq_2 _ _) (dict_eq_declines_str l es n dd sl b u) ⟨ho, hq⟩)
    (fun _ hq => wpAny_of_eq (rfl : isSame (.str b u) (.ref l) = pure false) hq) (.inr hu) h
theorem EqAt.str_dict {l : Addr} {es : Array DictEntry} {n : Nat} {dd : Option Addr} {sl : Array (Option Value)} (b : Str) (u : Tok) (ho : s.heap.get? l = some { cls := .type "dict", dict := dd, data := .dict es n, slots := sl }) (hu : A.units < cLine) : EqAt A s (.str b u) (.ref l) false := fun prog w E Q h => by
  unfold eqBool
  refine wpAny_holding ?_
  refine wpAny_ite_split (fun hab => absurd (eq_of_beq hab) nofun) (fun _ => ?_)
  exact wpAny_bind (RcAt.str_dict b u ho hu prog w E _ (wpAny_truthy_bool h))
end
end PySem.SeqAt
namespace Fw
open PySem PySem.Spec PyProof.Rows L2
/-! ### values of many kinds, dicts among them -/
mutual
inductive Dx (K : Frag) (H : Hp) : V → PyData → Prop
  | non : Dx K H .non .none
  | bl (b : Bool) : Dx K H (.bl b) (.bool b)
  | int (i : Int) : Dx K H (.int i) (.int i)
  | str (x : Str) : Dx K H (.str x) (.str x)
  | lst {a : Addr} {xs : List V} {ds : List PyData} : SqL K H a xs → DxAll K H xs ds → Dx K H (.ref a) (.list ds)
  | tup {a : Addr} {xs : List V} {ds : List PyData} : SqT K H a xs → DxAll K H xs ds → Dx K H (.ref a) (.tuple ds)
  | dct {a : Addr} {o : Obj} {kvs : List (L2.Key × V)} : H a = some (.frz o (.dK kvs)) → Dx K H (.ref a) (.dict [])
inductive DxAll (K : Frag) (H : Hp) : List V → List PyData → Prop
  | nil : DxAll K H [] []
  | cons {v : V} {vs : List V} {d : PyData} {ds : List PyData} : Dx K H v d → DxAll K H vs ds → DxAll K H (v :: vs) (d :: ds)
end
section
variable {K : Frag}
mutual
theorem dx_mono {G H : Hp} (s : Inc G H) : ∀ {v : V} {d : PyData}, Dx K G v d → Dx K H v d
  | _, _, .non => .non
  | _, _, .bl b => .bl b
  | _, _, .int i => .int i
  | _, _, .str x => .str x
  | _, _, .lst h a => .lst (s.sql h) (dxAll_mono s a)
  | _, _, .tup h a => .tup (s.sqt h) (dxAll_mono s a)
  | _, _, .dct h => .dct (s _ _ h)
theorem dxAll_mono {G H : Hp} (s : Inc G H) : ∀ {vs : List V} {ds : List PyData}, DxAll K G vs ds → DxAll K H vs ds
  | _, _, .nil => .nil
  | _, _, .cons h t => .cons (dx_mono s h) (dxAll_mono s t)
end
mutual
theorem dp_dx {G : Hp} : ∀ {v : V} {d : PyData}, Dp K G v d → Dx K G v d
  | _, _, .non => .non
  | _, _, .bl b => .bl b
  | _, _, .int i => .int i
  | _, _, .str x => .str x
  | _, _, .lst h a => .lst h (dpAll_dx a)
  | _, _, .tup h a => .tup h (dpAll_dx a)
theorem dpAll_dx {G : Hp} : ∀ {vs : List V} {ds : List PyData}, DpAll K G vs ds → DxAll K G vs ds
  | _, _, .nil => .nil
  | _, _, .cons h t => .cons (dp_dx h) (dpAll_dx t)
end
mutual
theorem dx_dp {G : Hp} : ∀ {v : V} {d : PyData}, Dx K G v d → d.canLay0 = true → Dp K G v d
  | _, _, .non, _ => .non
  | _, _, .bl b, _ => .bl b
  | _, _, .int i, _ => .int i
  | _, _, .str x, _ => .str x
  | _, _, .lst h a, c => .lst h (dxAll_dp a (by simpa [PyData.canLay0] using c))
  | _, _, .tup h a, c => .tup h (dxAll_dp a (by simpa [PyData.canLay0] using c))
  | _, _, .dct h, c => by simp [PyData.canLay0] at c
theorem dxAll_dp {G : Hp} : ∀ {vs : List V} {ds : List PyData}, DxAll K G vs ds → PyData.canLayAll0 ds = true → DpAll K G vs ds
  | _, _, .nil, _ => .nil
  | _, _, .cons h t, c => by
    simp only [PyData.canLayAll0, Bool.and_eq_true] at c
    exact .cons (dx_dp h c.1) (dxAll_dp t c.2)
end
end
structure Dz where
  d : PyData
instance : Rp Dz := ⟨fun K x v G => Dx K G v x.d, fun s h => dx_mono s h⟩
class Dm (α : Type) [Rp α] where
  toX : α → PyData
  dx : ∀ {K : Frag} {x : α} {v : V} {G : Hp}, Rp.rep K x v G → Dx K G v (toX x)
instance : Dm Int := ⟨.int, fun h => dp_dx (Pd.dp h)⟩
instance : Dm Bool := ⟨.bool, fun h => dp_dx (Pd.dp h)⟩
instance : Dm Str := ⟨.str, fun h => dp_dx (Pd.dp h)⟩
instance : Dm Unit := ⟨fun _ => .none, fun h => dp_dx (Pd.dp h)⟩
instance : Dm Dz := ⟨Dz.d, fun h => h⟩
instance {α : Type} [Rp α] : Dm (Dk Int α) := ⟨fun _ => .dict [], fun ⟨p, q, o, e, h, a, l⟩ => by subst e; exact .dct h⟩
section
variable {α β γ δ : Type} [Rp α] [Dm α] [Rp β] [Dm β] [Rp γ] [Dm γ] [Rp δ] [Dm δ] {K : Frag}
theorem dmAll {G : Hp} : ∀ {xs : List α} {vs : List V}, Al (fun x v => Rp.rep K x v G) xs vs → DxAll K G vs (xs.map Dm.toX)
  | [], [], _ => .nil
  | [], v :: vs, h => by have := h.1; simp at this
  | x :: xs, [], h => by have := h.1; simp at this
  | x :: xs, v :: vs, h => .cons (Dm.dx (h.2 0 x v rfl rfl)) (dmAll ⟨by have := h.1; simpa using this, fun i y w a b => h.2 (i + 1) y w a b⟩)
instance : Dm (List α) := ⟨fun xs => .list (xs.map Dm.toX), fun ⟨p, vs, e, h, al, l⟩ => by subst e; exact .lst (.inl (.inl h)) (dmAll al)⟩
instance : Dm (Tup α) := ⟨fun xs => .tuple (xs.l.map Dm.toX), fun ⟨p, vs, e, h, al, l⟩ => by subst e; exact .tup h (dmAll al)⟩
instance : Dm (α × β) := ⟨fun x => .tuple [Dm.toX x.1, Dm.toX x.2], fun ⟨p, a, b, e, h, r1, r2⟩ => by subst e; exact .tup h (.cons (Dm.dx r1) (.cons (Dm.dx r2) .nil))⟩
instance : Dm (T3 α β γ) := ⟨fun x => .tuple [Dm.toX x.a, Dm.toX x.b, Dm.toX x.c], fun ⟨p, a, b, d, e, h, r1, r2, r3⟩ => by subst e; exact .tup h (.cons (Dm.dx r1) (.cons (Dm.dx r2) (.cons (Dm.dx r3) .nil)))⟩
instance : Dm (T4 α β γ δ) := ⟨fun x => .tuple [Dm.toX x.a, Dm.toX x.b, Dm.toX x.c, Dm.toX x.d], fun ⟨p, a, b, d, f, e, h, r1, r2, r3, r4⟩ => by subst e; exact .tup h (.cons (Dm.dx r1) (.cons (Dm.dx r2) (.cons (Dm.dx r3) (.cons (Dm.dx r4) .nil))))⟩
def dzOf (x : α) : Dz := ⟨Dm.toX x⟩
theorem dz_rep {x : α} {v : V} {G : Hp} (h : Rp.rep K x v G) : Rp.rep K (dzOf x) v G := Dm.dx h
end
section
variable {K : Frag}
def R.zint (x : Dz) : R Int := match x.d with
  | .int i => .ok i
  | _ => .no
def R.ztup (x : Dz) : R (Tup Dz) := match x.d with
  | .tuple l => if l.length ≤ sizeLine then .ok ⟨l.map Dz.mk⟩ else .no
  | _ => .no
theorem c_zint : Cast R.zint where
  ex := fun ⟨d⟩ e h => by cases d <;> cases h
  ok := fun {K x y v G} h r => by
    obtain ⟨d⟩ := x
    cases d with
    | int i =>
      cases h
      have r1 : Dx K G v (.int _) := r
      cases r1
      rfl
    | _ => cases h
theorem dz_al {G : Hp} : ∀ {ds : List PyData} {vs : List V}, DxAll K G vs ds → Al (fun (x : Dz) v => Rp.rep K x v G) (ds.map Dz.mk) vs
  | _, _, .nil => ⟨rfl, fun i x v h _ => (nomatch h)⟩
  | d :: ds, v :: vs, .cons h t => by
    have ih := dz_al t
    refine ⟨by rw [List.map_cons, List.length_cons, List.length_cons, ih.1], fun i x w h1 h2 => ?_⟩
    cases i with
    | zero => cases h1; cases h2; exact h
    | succ i => exact ih.2 i x w h1 h2
theorem c_ztup : Cast R.ztup where
  ex := fun ⟨d⟩ e h => by
    cases d with
    | tuple l =>
      unfold R.ztup at h
      dsimp only at h
      split at h <;> cases h
    | _ => cases h
  ok := fun {K x y v G} h r => by
    obtain ⟨d⟩ := x
    cases d with
    | tuple l =>
      unfold R.ztup at h
      dsimp only at h
      split at h
      · rename_i hl
        cases h
        have r1 : Dx K G v (.tuple l) := r
        cases r1 with
        | tup hp ha => exact ⟨_, _, rfl, hp, dz_al ha, by rw [List.length_map]; exact hl⟩
      · cases h
    | _ => cases h
/-! == a text, in (a text, a text) -/
def R.eqZ (x : Dz) (s : Str) : R Bool := if SeqAt.shaped x.d = true then .ok (PyData.eqv x.d (.str s)) else .no
theorem o_eqZ : Op2 (rEqD K) (fun x : Dz => kFr K x) (fun x : Str => kFr K x) R.eqZ (fun z : Bool => kFr K z) := fun x y => by
  unfold R.eqZ
  by_cases h : SeqAt.shaped x.d = true
  · rw [if_pos h]
    exact fun W0 W v w hv hw Q q => ⟨x.d, .str y, dp_mono W.sub (dx_dp hv (SeqAt.canLay_of_shaped h)), dp_mono W.sub (Pd.dp hw), h, shaped_of hw (by decide), q _ W (Le.refl _) rfl⟩
  · rw [if_neg h]
    trivial
def rNotInTZ (K : PySem.W.Frag) : R2 := fun x y H Q => ∃ (a b : Str) (p : Addr), y = .ref p ∧ SqT K H p [.str a, .str b] ∧ ((∃ d, Dp K H x d ∧ SeqAt.shaped d = true ∧ SeqAt.shaped (.tuple [.str a, .str b]) = true ∧ Q (.bl (!(PyData.eqv (.str a) d || PyData.eqv (.str b) d))) H) ∨ (∃ q kvs, x = .ref q ∧ Rd H q (.dK kvs) ∧ Q (.bl true) H))
theorem op_notInTZ {X : Cx} (hu : X.A.units + 65 < cLine) : OpR X (compareOp .NotIn) (rNotInTZ X.K) := by
  intro pins s σ H x y v u Q I rx ry h
  obtain ⟨a, b, p, rfl, hp, h⟩ := h
  rcases h with ⟨d, hd, sd, se, q⟩ | ⟨qa, kvs, rfl, hd, q⟩
  · obtain ⟨as, r1⟩ := Dp.reads I d x v hd rx
    obtain ⟨bs, r2⟩ := Dp.reads I (.tuple [.str a, .str b]) (.ref p) u (.tup hp (.cons (.str a) (.cons (.str b) .nil))) ry
    refine SeqAt.notIn_tuple_reads r2 r1 (SeqAt.canLay_of_shaped se) (SeqAt.canLay_of_shaped sd) (room_in_shaped sd hu) ⟨.bl _, H, I, rfl, ?_⟩
    have e : ([PyData.str a, PyData.str b].any fun y => PyData.eqv y d) = (PyData.eqv (.str a) d || PyData.eqv (.str b) d) := by
      rw [List.any_cons, List.any_cons, List.any_nil, Bool.or_false]
    rw [e]
    exact q
  · cases ry
    cases rx
    obtain ⟨its, r, pl, hz⟩ := I.tuple hp
    obtain ⟨_, _, vs, _, o, es, ep, ho, ⟨hc, hdn, hsl⟩, hdt, _⟩ := hd.ok I.hok
    obtain ⟨cls, dd, data, sl⟩ := o
    simp only at hc hdn hsl hdt
    subst hc hdt
    refine SeqAt.notIn_tupleAt (fun _ => false) pl (fun w hw => ?_) ⟨.bl _, H, I, rfl, ?_⟩
    · have hw' : w ∈ its := by simpa using hw
      cases r with
      | cons r1 t =>
        cases t with
        | cons r2 t =>
          cases t
          obtain ⟨t1, e1⟩ := r1
          obtain ⟨t2, e2⟩ := r2
          simp only [List.mem_cons, List.not_mem_nil, or_false] at hw'
          have hu' : X.A.in1.units < cLine := by
            show X.A.units + 1 < cLine
            omega
          rcases hw' with e | e
          · rw [e, e1]; exact SeqAt.EqAt.str_dict a t1 ho hu'
          · rw [e, e2]; exact SeqAt.EqAt.str_dict b t2 ho hu'
    · have e : (!its.toArray.any fun _ => false) = true := by simp
      first
        | rw [e]; exact q
        | simpa using q
def isD : PyData → Bool
  | .dict _ => true
  | _ => false
def R.ninZ (x : Dz) (y : Str × Str) : R Bool := if isD x.d = true then .ok true else if SeqAt.shaped x.d = true ∧ SeqAt.shaped (.tuple [.str y.1, .str y.2]) = true then .ok (!(PyData.eqv (.str y.1) x.d || PyData.eqv (.str y.2) x.d)) else .no
theorem o_ninZP : Op2 (rNotInTZ K) (fun x : Dz => kFr K x) (fun x : Str × Str => kFr K x) R.ninZ (fun z : Bool => kFr K z) := fun ⟨d⟩ y => by
  unfold R.ninZ
  by_cases h : isD d = true
  · rw [if_pos h]
    intro W0 W v w hv ⟨p, va, vb, ew, hs, ra, rb⟩ Q q
    have ea : va = .str y.1 := ra.1
    have eb : vb = .str y.2 := rb.1
    subst ea eb ew
    cases d with
    | dict kvs =>
      have hv' : Dx K W.G v (.dict kvs) := hv
      cases hv' with
      | dct hp => exact ⟨y.1, y.2, p, rfl, W.sub.sqt hs, .inr ⟨_, _, rfl, .inr ⟨_, W.sub _ _ hp⟩, q _ W (Le.refl _) rfl⟩⟩
    | _ => cases h
  · rw [if_neg h]
    by_cases c : SeqAt.shaped d = true ∧ SeqAt.shaped (.tuple [.str y.1, .str y.2]) = true
    · rw [if_pos c]
      intro W0 W v w hv ⟨p, va, vb, ew, hs, ra, rb⟩ Q q
      have ea : va = .str y.1 := ra.1
      have eb : vb = .str y.2 := rb.1
      subst ea eb ew
      exact ⟨y.1, y.2, p, rfl, W.sub.sqt hs, .inl ⟨d, dp_mono W.sub (dx_dp hv (SeqAt.canLay_of_shaped c.1)), c.1, c.2, q _ W (Le.refl _) rfl⟩⟩
    · rw [if_neg c]
      trivial
/-! isinstance -/
def isZ (T : String) (x : Dz) : Bool := (kitB (dyTy x.d) T).getD false
theorem dx_ty {G : Hp} {v : V} {d : PyData} (h : Dx K G v d) : TyX K G v (.type (dyTy d)) ∧ dyTy d ∈ ["NoneType", "bool", "int", "str", "list", "tuple", "dict"] := by
  cases h with
  | non => exact ⟨.base .non, by simp [dyTy]⟩
  | bl b => exact ⟨.base (.bl _), by simp [dyTy]⟩
  | int i => exact ⟨.base (.int _), by simp [dyTy]⟩
  | str x => exact ⟨.base (.str _), by simp [dyTy]⟩
  | lst hp ha =>
    refine ⟨?_, by simp [dyTy]⟩
    rcases hp with (h | ⟨o, h⟩) | ⟨o, its, n, l, e, _⟩
    · exact .base (.lst h)
    · exact .base (.frz h)
    · exact .kList l e
  | tup hp ha => exact ⟨sqt_ty hp, by simp [dyTy]⟩
  | dct hp => exact ⟨.fDict hp, by simp [dyTy]⟩
theorem o_isiZ {T : String} (hT : (["NoneType", "bool", "int", "str", "list", "tuple", "dict"].all fun s => (kitB s T).isSome) = true) : OpA (rIsi K) (fun z : Dz × Unit => aCons (kBw K z.1) (aCons (kV (.ty T)) aNil)) (fun z => .ok (isZ T z.1)) (fun b : Bool => kFr K b) := fun ⟨z, _⟩ W0 W vs ⟨v, r, e, hv, w, r2, e2, ew, en⟩ Q q => by
  have ew' : w = .ty T := ew
  subst e e2 en ew'
  obtain ⟨h1, h2⟩ := dx_ty hv
  have h3 := List.all_eq_true.mp hT _ h2
  cases e : kitB (dyTy z.d) T with
  | none => rw [e] at h3; cases h3
  | some b => exact ⟨v, .ty T, .type (dyTy z.d), .type T, b, rfl, .ty T, h1, kit_ty e, q _ W (Le.refl _) (by show V.bl b = V.bl (isZ T z); unfold isZ; rw [e]; rfl)⟩
end
end Fw

namespace Fw
open PySem L2
theorem o_nisB {K : Frag} : Op2 (fun x y H Q => ∃ a b, x = .bl a ∧ y = .bl b ∧ Q (.bl (!decide (a = b))) H) (fun x : Bool => kFr K x) (fun x : Bool => kFr K x) (fun x y => .ok (!decide (x = y))) (fun z : Bool => kFr K z) := fun x y W0 W v w hv hw Q q => ⟨x, y, hv, hw, q _ W (Le.refl _) rfl⟩
end Fw

namespace Mir
open PySem L2 Fw
noncomputable section
@[irreducible] def m_cell_b (v_script : (Sq Int)) (v_k : Int) : Out Unit Unit Int :=
  (if (decide (v_k < (v_script.l.length : Int))) then Out.abs (R.to ((R.ok v_script.l).bind fun t1 => (R.ok v_k).bind fun t2 => (R.ix t1 t2)) .rt) else
  (R.to (((R.ok v_k).bind fun t3 => (R.ok v_k).bind fun t4 => (R.mul t3 t4)).bind fun t5 => (R.ok (7919 : Int)).bind fun t6 => (R.ok (t5 + t6))) fun (v_number_7 : Int) =>
  (Out.bind (if (decide ((0 : Int) < (v_script.l.length : Int))) then (R.to ((R.ok v_number_7).bind fun t17 => (((R.ok v_script.l).bind fun t14 => ((R.ok (v_k * (7 : Int))).bind fun t12 => (R.ok (v_script.l.length : Int)).bind fun t13 => (R.mod t12 t13)).bind fun t15 => (R.ix t14 t15)).bind fun t16 => (R.ok (t16 % (2147483629 : Int)))).bind fun t18 => (R.ok (t17 + t18))) fun (v_number_19 : Int) =>
  (.nx v_number_19)) else (.nx v_number_7)) fun (s8 : Int) =>
  (R.to (((R.ok s8).bind fun t9 => (R.ok s8).bind fun t10 => (R.mul t9 t10)).bind fun t11 => (R.ok (t11 % (2147483629 : Int)))) .rt))))
@[irreducible] def m_cell (v_script : (Sq Int)) (v_k : Int) : R Int := (m_cell_b v_script v_k).run
@[irreducible] def m_mixed_b (v_cell_here : Int) (v_k : Int) : Out Unit Unit Int :=
  (if (decide (((10 : Int) ^ (Int.toNat (18 : Int))) ≤ v_cell_here)) then Out.abs (R.to (((R.ok v_cell_here).bind fun t1 => (R.ok ((31 : Int) * v_k)).bind fun t2 => (R.shr t1 t2)).bind fun t3 => (R.ok (2147483647 : Int)).bind fun t4 => (R.ok (Builtin.bitAnd t3 t4))) .rt) else
  (R.to ((((((R.ok (v_cell_here % (2147483629 : Int))).bind fun t7 => ((R.ok ((7919 : Int) * v_k)).bind fun t5 => (R.ok v_k).bind fun t6 => (R.mul t5 t6)).bind fun t8 => (R.ok (t7 + t8))).bind fun t9 => (R.ok v_k).bind fun t10 => (R.ok (t9 + t10))).bind fun t11 => (R.ok (13 : Int)).bind fun t12 => (R.ok (t11 + t12))).bind fun t13 => (R.ok (t13 * (48271 : Int)))).bind fun t14 => (R.ok (t14 % (2147483587 : Int)))) fun (v_number_15 : Int) =>
  (R.to (((R.ok v_number_15).bind fun t16 => (R.ok v_number_15).bind fun t17 => (R.mul t16 t17)).bind fun t18 => (R.ok (t18 % (2147483629 : Int)))) fun (v_number_19 : Int) =>
  (.rt (((v_number_19 + v_k) * (69621 : Int)) % (2147483563 : Int))))))
@[irreducible] def m_mixed (v_cell_here : Int) (v_k : Int) : R Int := (m_mixed_b v_cell_here v_k).run
@[irreducible] def m_size_b (v_cell_here : Int) : Out Unit Unit (Int × Int) :=
  (R.to (m_mixed v_cell_here (3 : Int)) fun (v_number_1 : Int) =>
  (R.to (((m_mixed v_cell_here (4 : Int)).bind fun t2 => (R.ok (t2 % (8 : Int)))).bind fun t3 => (R.ok (3 : Int)).bind fun t4 => (R.ok (decide (t3 = t4)))) fun b5 => if b5 then Out.abs (.rt (((1 : Int) + (v_number_1 % (24 : Int))), ((1 : Int) + ((v_number_1 / (24 : Int)) % (24 : Int))))) else
  (.rt (((1 : Int) + (v_number_1 % (6 : Int))), ((1 : Int) + ((v_number_1 / (6 : Int)) % (6 : Int)))))))
@[irreducible] def m_size (v_cell_here : Int) : R (Int × Int) := (m_size_b v_cell_here).run
@[irreducible] def m_stroke_b (v_size_here : (Int × Int)) (v_number : Int) : Out Unit Unit (T4 Str Int Int Int) :=
  (R.to ((R.ok [("row" : Str), ("column" : Str)]).bind fun t1 => (R.ok (v_number % (2 : Int))).bind fun t2 => (R.ix t1 t2)) fun (v_way_3 : Str) =>
  (R.to ((R.ok [v_size_here.2, v_size_here.1]).bind fun t4 => (R.ok (v_number % (2 : Int))).bind fun t5 => (R.ix t4 t5)) fun (v_lines_6 : Int) =>
  (R.to ((R.ok [v_size_here.1, v_size_here.2]).bind fun t7 => (R.ok (v_number % (2 : Int))).bind fun t8 => (R.ix t7 t8)) fun (v_places_9 : Int) =>
  (R.to (((R.ok v_number).bind fun t10 => (R.ok ((2 : Int) * v_lines_6)).bind fun t11 => (R.fdiv t10 t11)).bind fun t12 => (R.ok v_places_9).bind fun t13 => (R.mod t12 t13)) fun (v_first_14 : Int) =>
  (R.to ((R.ok v_number).bind fun t17 => ((R.ok ((2 : Int) * v_lines_6)).bind fun t15 => (R.ok v_places_9).bind fun t16 => (R.mul t15 t16)).bind fun t18 => (R.fdiv t17 t18)) fun (v_rest_19 : Int) =>
  (R.to (((R.ok v_way_3).bind fun t32 => (((R.ok (v_number / (2 : Int))).bind fun t20 => (R.ok v_lines_6).bind fun t21 => (R.mod t20 t21)).bind fun t30 => ((R.ok v_first_14).bind fun t28 => (((R.ok v_first_14).bind fun t24 => ((R.ok v_rest_19).bind fun t22 => (R.ok (v_places_9 - v_first_14)).bind fun t23 => (R.mod t22 t23)).bind fun t25 => (R.ok (t24 + t25))).bind fun t26 => (R.ok ()).bind fun t27 => (R.ok (t26, t27))).bind fun t29 => (R.ok (t28, t29))).bind fun t31 => (R.ok (t30, t31))).bind fun t33 => (R.ok (t32, t33))).bind fun z34 => (R.ok (T4.mk z34.1 z34.2.1 z34.2.2.1 z34.2.2.2.1))) .rt))))))
@[irreducible] def m_stroke (v_size_here : (Int × Int)) (v_number : Int) : R (T4 Str Int Int Int) := (m_stroke_b v_size_here v_number).run
@[irreducible] def m_cells_b (v_stroke_here : (T4 Str Int Int Int)) : Out Unit Unit (List (Int × Int)) :=
  (lt4 v_stroke_here fun (v_way_1 : Str) (v_line_2 : Int) (v_first_3 : Int) (v_last_4 : Int) =>
  (if (decide (v_way_1 = ("row" : Str))) then Out.abs (R.to (((R.ok v_first_3).bind fun t5 => (R.ok (v_last_4 + (1 : Int))).bind fun t6 => R.rng t5 t6).bind fun l8 => R.lcM l8 (fun (x7 : Int) => (x7, v_line_2))) .rt) else
  (R.to (((R.ok v_first_3).bind fun t9 => (R.ok (v_last_4 + (1 : Int))).bind fun t10 => R.rng t9 t10).bind fun l12 => R.lcM l12 (fun (x11 : Int) => (v_line_2, x11))) .rt)))
@[irreducible] def m_cells (v_stroke_here : (T4 Str Int Int Int)) : R (List (Int × Int)) := (m_cells_b v_stroke_here).run
@[irreducible] def m_is_number_b (v_thing : Dz) : Out Unit Unit Bool :=
  (R.to (R.and (R.ok (isZ "int" v_thing)) (R.and (R.ok (!(isZ "bool" v_thing))) (((R.ok v_thing).bind R.zint).bind fun t1 => (R.ok (0 : Int)).bind fun t2 => (R.ok (decide (t2 ≤ t1)))))) .rt)
@[irreducible] def m_is_number (v_thing : Dz) : R Bool := (m_is_number_b v_thing).run
@[irreducible] def m_lies_on_b (v_size : (Int × Int)) (v_thing : Dz) : Out Unit Unit Bool :=
  (R.to (R.or (R.ok (!(isZ "tuple" v_thing))) (R.or (((((R.ok v_thing).bind R.ztup).bind fun t1 => (R.ok ()).bind fun t2 => (R.ok (t1, t2))).bind fun z3 => (R.ok (z3.1.l.length : Int))).bind fun t4 => (R.ok (4 : Int)).bind fun t5 => (R.ok (!decide (t4 = t5)))) ((((R.ok v_thing).bind R.ztup).bind fun t6 => (R.ok (0 : Int)).bind fun t7 => (R.ix t6.l t7)).bind fun t8 => (R.ok (("row" : Str), ("column" : Str))).bind fun t9 => (R.ninZ t8 t9)))) fun b46 => if b46 then Out.abs (.rt false) else
  (R.to ((((R.ok v_thing).bind R.ztup).bind fun t11 => ((R.ok (1 : Int)).bind fun t10 => (R.ok (some t10))).bind fun t12 => (R.ok none).bind fun t13 => (R.ok (Tup.mk (sl t11.l t12 t13)))).bind fun t14 => (R.ok t14.l)) fun l44 => Out.bind (forL l44 () (fun (s15 : Unit) (x16 : Dz) =>
   (R.to ((m_is_number x16).bind fun t17 => (R.ok (!t17))) fun b18 => if b18 then Out.abs (.rt false) else
  (.nx ())))) fun (s19 : Unit) =>
  (lt v_size.2 fun (v_lines_20 : Int) =>
  (lt v_size.1 fun (v_places_21 : Int) =>
  (R.to ((((R.ok v_thing).bind R.ztup).bind fun t22 => (R.ok (0 : Int)).bind fun t23 => (R.ix t22.l t23)).bind fun t24 => (R.ok ("column" : Str)).bind fun t25 => (R.eqZ t24 t25)) fun b43 => Out.bind (if b43 then (lt v_size.1 fun (v_lines_41 : Int) =>
  (lt v_size.2 fun (v_places_42 : Int) =>
  (.nx (v_lines_41, v_places_42)))) else (.nx (v_lines_20, v_places_21))) fun (s26 : (Int × Int)) =>
  (R.to (R.and (((((R.ok v_thing).bind R.ztup).bind fun t27 => (R.ok (1 : Int)).bind fun t28 => (R.ix t27.l t28)).bind R.zint).bind fun t29 => (R.ok s26.1).bind fun t30 => (R.ok (decide (t29 < t30)))) (R.and (((((R.ok v_thing).bind R.ztup).bind fun t31 => (R.ok (2 : Int)).bind fun t32 => (R.ix t31.l t32)).bind R.zint).bind fun t35 => ((((R.ok v_thing).bind R.ztup).bind fun t33 => (R.ok (3 : Int)).bind fun t34 => (R.ix t33.l t34)).bind R.zint).bind fun t36 => (R.ok (decide (t35 ≤ t36)))) (((((R.ok v_thing).bind R.ztup).bind fun t37 => (R.ok (3 : Int)).bind fun t38 => (R.ix t37.l t38)).bind R.zint).bind fun t39 => (R.ok s26.2).bind fun t40 => (R.ok (decide (t39 < t40)))))) .rt))))))
@[irreducible] def m_lies_on (v_size : (Int × Int)) (v_thing : Dz) : R Bool := (m_lies_on_b v_size v_thing).run
@[irreducible] def m_set_of_b (v_size : (Int × Int)) (v_cells : (List (Int × Int))) : Out Unit Unit Int :=
  (lt (0 : Int) fun (v_found_1 : Int) =>
  (R.to (R.ok v_cells) fun l14 => Out.bind (forL l14 v_found_1 (fun (s2 : Int) (x3 : (Int × Int)) =>
   (R.to ((R.ok s2).bind fun t10 => ((R.ok (1 : Int)).bind fun t8 => (((R.ok x3.2).bind fun t4 => (R.ok v_size.1).bind fun t5 => (R.mul t4 t5)).bind fun t6 => (R.ok x3.1).bind fun t7 => (R.ok (t6 + t7))).bind fun t9 => (R.shl t8 t9)).bind fun t11 => (R.ok (Builtin.bitOr t10 t11))) fun (v_found_12 : Int) =>
  (.nx v_found_12)))) fun (s13 : Int) =>
  (.rt s13)))
@[irreducible] def m_set_of (v_size : (Int × Int)) (v_cells : (List (Int × Int))) : R Int := (m_set_of_b v_size v_cells).run
@[irreducible] def m_cells_cut_b (v_size : (Int × Int)) (v_stroke : (T4 Str Int Int Int)) : Out Unit Unit Int :=
  (lt4 v_stroke fun (v_way_1 : Str) (v_line_2 : Int) (v_first_3 : Int) (v_last_4 : Int) =>
  (if (decide (v_way_1 = ("row" : Str))) then Out.abs (R.to (((R.ok v_size).bind fun t11 => ((((R.ok v_first_3).bind fun t5 => (R.ok (v_last_4 + (1 : Int))).bind fun t6 => R.rng t5 t6).bind fun l8 => R.lcM l8 (fun (x7 : Int) => (x7, v_line_2))).bind fun t9 => (R.ok ()).bind fun t10 => (R.ok (t9, t10))).bind fun t12 => (R.ok (t11, t12))).bind fun z13 => m_set_of z13.1 z13.2.1) .rt) else
  (R.to (((R.ok v_size).bind fun t20 => ((((R.ok v_first_3).bind fun t14 => (R.ok (v_last_4 + (1 : Int))).bind fun t15 => R.rng t14 t15).bind fun l17 => R.lcM l17 (fun (x16 : Int) => (v_line_2, x16))).bind fun t18 => (R.ok ()).bind fun t19 => (R.ok (t18, t19))).bind fun t21 => (R.ok (t20, t21))).bind fun z22 => m_set_of z22.1 z22.2.1) .rt)))
@[irreducible] def m_cells_cut (v_size : (Int × Int)) (v_stroke : (T4 Str Int Int Int)) : R Int := (m_cells_cut_b v_size v_stroke).run
@[irreducible] def m_spoiled_b (v_size_here : (Int × Int)) (v_stroke_here : (T4 Str Int Int Int)) (v_number : Int) : Out Unit Unit Dz :=
  (lt4 v_stroke_here fun (v_way_1 : Str) (v_line_2 : Int) (v_first_3 : Int) (v_last_4 : Int) =>
  (R.to ((R.ok [v_size_here.2, v_size_here.1]).bind fun t5 => (R.ok (if (decide (v_way_1 = ("column" : Str))) then (1 : Int) else 0)).bind fun t6 => (R.ix t5 t6)) fun (v_lines_7 : Int) =>
  (R.to ((R.ok [v_size_here.1, v_size_here.2]).bind fun t8 => (R.ok (if (decide (v_way_1 = ("column" : Str))) then (1 : Int) else 0)).bind fun t9 => (R.ix t8 t9)) fun (v_places_10 : Int) =>
  (lt [(dzOf (T4.mk v_way_1 v_lines_7 v_first_3 v_last_4)), (dzOf (T4.mk v_way_1 v_line_2 v_first_3 v_places_10)), (dzOf (T4.mk v_way_1 (-(1 : Int)) v_first_3 v_last_4)), (dzOf (T4.mk v_way_1 v_line_2 (-(1 : Int)) v_last_4))] fun (v_some_11 : (List Dz)) =>
  (R.to ((R.ok v_some_11).bind fun t12 => (R.ok [(dzOf (T4.mk v_way_1 v_line_2 (v_last_4 + (1 : Int)) v_last_4)), (dzOf (T4.mk ("rows" : Str) v_line_2 v_first_3 v_last_4)), (dzOf (T4.mk ("" : Str) v_line_2 v_first_3 v_last_4))]).bind fun t13 => (R.cat t12 t13)) fun (v_some_14 : (List Dz)) =>
  (R.to ((R.ok v_some_14).bind fun t15 => (R.ok [(dzOf (T4.mk v_way_1 ("0" : Str) v_first_3 v_last_4)), (dzOf (T4.mk v_way_1 v_line_2 () v_last_4)), (dzOf (T4.mk v_way_1 v_line_2 v_first_3 [(dzOf (0 : Int))])), (dzOf (T3.mk v_way_1 v_line_2 v_first_3))]).bind fun t16 => (R.cat t15 t16)) fun (v_some_17 : (List Dz)) =>
  (R.to ((R.ok v_some_17).bind fun t18 => (R.ok [(dzOf (Tup.mk ([(dzOf v_way_1), (dzOf v_line_2), (dzOf v_first_3), (dzOf v_last_4), (dzOf (0 : Int))] : List Dz))), (dzOf [(dzOf v_way_1), (dzOf v_line_2), (dzOf v_first_3), (dzOf v_last_4)]), (dzOf ()), (dzOf (7 : Int)), (dzOf v_way_1), (dzOf (Tup.mk ([] : List Int))), (dzOf (T4.mk () v_line_2 v_first_3 v_last_4))]).bind fun t19 => (R.cat t18 t19)) fun (v_some_20 : (List Dz)) =>
  (R.to ((R.ok v_some_20).bind fun t21 => (R.ok [(dzOf (T4.mk ([] : List Int) v_line_2 v_first_3 v_last_4)), (dzOf (T4.mk (Dk.mk ([] : List (Int × Int))) v_line_2 v_first_3 v_last_4)), (dzOf (T4.mk v_way_1 false v_first_3 v_last_4))]).bind fun t22 => (R.cat t21 t22)) fun (v_some_23 : (List Dz)) =>
  (R.to (R.ok (dzOf (T4.mk v_way_1 v_line_2 v_first_3 true))) fun t29 => R.to (R.app v_some_23 t29) fun (v_some_24 : (List Dz)) =>
  (R.to ((R.ok v_some_24).bind fun t27 => ((R.ok v_number).bind fun t25 => (R.ok (v_some_24.length : Int)).bind fun t26 => (R.mod t25 t26)).bind fun t28 => (R.ix t27 t28)) .rt))))))))))
@[irreducible] def m_spoiled (v_size_here : (Int × Int)) (v_stroke_here : (T4 Str Int Int Int)) (v_number : Int) : R Dz := (m_spoiled_b v_size_here v_stroke_here v_number).run
@[irreducible] def m_law_b (v_script : (Sq Int)) : Out Unit Unit Bool :=
  (R.to (((m_cell v_script (1 : Int)).bind fun t1 => (R.ok ()).bind fun t2 => (R.ok (t1, t2))).bind fun z3 => m_size z3.1) fun (v_size_here_4 : (Int × Int)) =>
  (R.to ((R.ok (2 : Int)).bind fun t5 => (R.ok (if (if (62 : Int) < (v_script.l.length : Int) then (62 : Int) else (v_script.l.length : Int)) > (3 : Int) then (if (62 : Int) < (v_script.l.length : Int) then (62 : Int) else (v_script.l.length : Int)) else (3 : Int))).bind fun t6 => R.rng t5 t6) fun l63 => Out.bind (forL l63 () (fun (s7 : Unit) (x8 : Int) =>
   (R.to (((R.ok v_size_here_4).bind fun t16 => ((((m_cell v_script x8).bind fun t11 => ((R.ok (0 : Int)).bind fun t9 => (R.ok ()).bind fun t10 => (R.ok (t9, t10))).bind fun t12 => (R.ok (t11, t12))).bind fun z13 => m_mixed z13.1 z13.2.1).bind fun t14 => (R.ok ()).bind fun t15 => (R.ok (t14, t15))).bind fun t17 => (R.ok (t16, t17))).bind fun z18 => m_stroke z18.1 z18.2.1) fun (v_stroke_here_19 : (T4 Str Int Int Int)) =>
  (lt (0 : Int) fun (v_due_20 : Int) =>
  (R.to (m_cells v_stroke_here_19) fun l60 => Out.bind (forL l60 v_due_20 (fun (s21 : Int) (x22 : (Int × Int)) =>
   (R.to ((R.ok s21).bind fun t29 => ((R.ok (1 : Int)).bind fun t27 => (((R.ok x22.2).bind fun t23 => (R.ok v_size_here_4.1).bind fun t24 => (R.mul t23 t24)).bind fun t25 => (R.ok x22.1).bind fun t26 => (R.ok (t25 + t26))).bind fun t28 => (R.shl t27 t28)).bind fun t30 => (R.ok (t29 + t30))) fun (v_due_31 : Int) =>
  (.nx v_due_31)))) fun (s32 : Int) =>
  (R.to (R.or ((m_lies_on v_size_here_4 (dzOf v_stroke_here_19)).bind fun t33 => (R.ok true).bind fun t34 => (R.ok (!decide (t33 = t34)))) (R.or ((m_cells_cut v_size_here_4 v_stroke_here_19).bind fun t35 => (R.ok s32).bind fun t36 => (R.ok (!decide (t35 = t36)))) ((m_cells_cut v_size_here_4 v_stroke_here_19).bind fun t37 => (R.ok s32).bind fun t38 => (R.ok (!decide (t37 = t38)))))) fun b59 => if b59 then Out.abs (.rt false) else
  (R.to ((((R.ok v_size_here_4).bind fun t53 => ((((R.ok v_size_here_4).bind fun t48 => ((R.ok v_stroke_here_19).bind fun t46 => ((((m_cell v_script x8).bind fun t41 => ((R.ok (1 : Int)).bind fun t39 => (R.ok ()).bind fun t40 => (R.ok (t39, t40))).bind fun t42 => (R.ok (t41, t42))).bind fun z43 => m_mixed z43.1 z43.2.1).bind fun t44 => (R.ok ()).bind fun t45 => (R.ok (t44, t45))).bind fun t47 => (R.ok (t46, t47))).bind fun t49 => (R.ok (t48, t49))).bind fun z50 => m_spoiled z50.1 z50.2.1 z50.2.2.1).bind fun t51 => (R.ok ()).bind fun t52 => (R.ok (t51, t52))).bind fun t54 => (R.ok (t53, t54))).bind fun z55 => m_lies_on z55.1 z55.2.1).bind fun t56 => (R.ok false).bind fun t57 => (R.ok (!decide (t56 = t57)))) fun b58 => if b58 then Out.abs (.rt false) else
  (.nx ())))))))) fun (s62 : Unit) =>
  (.rt true)))
@[irreducible] def m_law (v_script : (Sq Int)) : R Bool := (m_law_b v_script).run
end
end Mir

namespace Mt
open PySem L2 Fw
variable {α β γ S T J ρ : Type}
theorem sl_eq : sizeLine = 16777216 := sizeLine_eq
/-! ### loops of the mirrors -/
/-- a loop that goes on to its end: an invariant by the turn -/
theorem forL_ind {f : S → α → Out S S ρ} (P : Nat → S → Prop) : ∀ (xs : List α) (s : S) (n : Nat), P n s → (∀ i x s, xs[i]? = some x → P (n + i) s → ∃ s', (f s x = .nx s' ∨ f s x = .ct s') ∧ P (n + i + 1) s') →
    ∃ s', (forL xs s f : Out S J ρ) = .nx s' ∧ P (n + xs.length) s'
  | [], s, n, h0, _ => ⟨s, rfl, h0⟩
  | x :: xs, s, n, h0, hs => by
    obtain ⟨s1, h1, p1⟩ := hs 0 x s rfl h0
    obtain ⟨s2, h2, p2⟩ := forL_ind P xs s1 (n + 1) p1 fun i y s hi p => by
      have := hs (i + 1) y s (by simpa using hi) (by rw [show n + (i + 1) = n + 1 + i by omega]; exact p)
      rw [show n + (i + 1) + 1 = n + 1 + i + 1 by omega] at this
      exact this
    refine ⟨s2, ?_, by rw [List.length_cons, show n + (xs.length + 1) = n + 1 + xs.length by omega]; exact p2⟩
    unfold forL
    rcases h1 with h1 | h1 <;> rw [h1] <;> exact h2
/-- from the first turn on -/
theorem forL_inv {f : S → α → Out S S ρ} {xs : List α} {s : S} (P : Nat → S → Prop) (h0 : P 0 s) (hs : ∀ i x s, xs[i]? = some x → P i s → ∃ s', f s x = .nx s' ∧ P (i + 1) s') :
    ∃ s', (forL xs s f : Out S J ρ) = .nx s' ∧ P xs.length s' := by
  obtain ⟨s', h, p⟩ := forL_ind (J := J) P xs s 0 h0 fun i x s hi p => by
    rw [Nat.zero_add] at p
    obtain ⟨s', h, q⟩ := hs i x s hi p
    exact ⟨s', .inl h, by rw [Nat.zero_add]; exact q⟩
  exact ⟨s', h, by rw [Nat.zero_add] at p; exact p⟩
/-- a loop each turn of which is known -/
theorem forL_fold {f : S → α → Out S S ρ} {g : S → α → S} : ∀ {xs : List α} {s : S}, (∀ s x, x ∈ xs → f s x = .nx (g s x)) → (forL xs s f : Out S J ρ) = .nx (xs.foldl g s)
  | [], s, _ => rfl
  | x :: xs, s, h => by
    unfold forL
    rw [h s x (by simp)]
    exact forL_fold fun s y hy => h s y (List.mem_cons_of_mem _ hy)
/-- a loop that looks for one -/
theorem forL_any {f : Unit → α → Out Unit Unit ρ} {p : α → Bool} {r : ρ} : ∀ {xs : List α}, (∀ x, x ∈ xs → f () x = if p x then .rt r else .nx ()) → (forL xs () f : Out Unit J ρ) = if xs.any p then .rt r else .nx ()
  | [], _ => rfl
  | x :: xs, h => by
    unfold forL
    rw [h x (by simp), List.any_cons]
    cases p x with
    | true => rfl
    | false => exact forL_any fun y hy => h y (List.mem_cons_of_mem _ hy)
/-- a loop that never finds -/
theorem forL_none {f : Unit → α → Out Unit Unit ρ} {xs : List α} (h : ∀ x, x ∈ xs → f () x = .nx ()) : (forL xs () f : Out Unit J ρ) = .nx () := by
  have := forL_fold (J := J) (f := f) (g := fun _ _ => ()) (xs := xs) (s := ()) fun s x hx => h x hx
  exact this
/-! ### what holds of what comes out -/
def RS (Q : α → Prop) (m : R α) : Prop := ∃ x, m = .ok x ∧ Q x
def OS (N : S → Prop) (B C : J → Prop) (Z : ρ → Prop) (m : Out S J ρ) : Prop := match m with
  | .nx s => N s
  | .rt r => Z r
  | .bk j => B j
  | .ct j => C j
  | .ex _ => False
  | .no => False
theorem rs_ok {Q : α → Prop} {x : α} (h : Q x) : RS Q (.ok x) := ⟨x, rfl, h⟩
theorem rs_bind {P : α → Prop} {Q : β → Prop} {m : R α} {f : α → R β} (h : RS P m) (k : ∀ x, P x → RS Q (f x)) : RS Q (m.bind f) := by
  obtain ⟨x, e, p⟩ := h
  subst e
  exact k x p
theorem rs_imp {P Q : α → Prop} {m : R α} (h : RS P m) (k : ∀ x, P x → Q x) : RS Q m := by
  obtain ⟨x, e, p⟩ := h
  exact ⟨x, e, k x p⟩
theorem rs_eq {Q : α → Prop} {m : R α} {x : α} (h : m = .ok x) (q : Q x) : RS Q m := ⟨x, h, q⟩
section
variable {N N' : S → Prop} {B C : J → Prop} {Z : ρ → Prop}
theorem os_nx {s : S} (h : N s) : OS N B C Z (.nx s) := h
theorem os_rt {r : ρ} (h : Z r) : OS N B C Z (.rt r) := h
theorem os_to {Q : α → Prop} {m : R α} {k : α → Out S J ρ} (h : RS Q m) (hk : ∀ x, Q x → OS N B C Z (k x)) : OS N B C Z (m.to k) := by
  obtain ⟨x, e, p⟩ := h
  subst e
  exact hk x p
theorem os_lt {x : α} {k : α → Out S J ρ} (h : OS N B C Z (k x)) : OS N B C Z (lt x k) := h
theorem os_bind {M : T → Prop} {m : Out T J ρ} {k : T → Out S J ρ} (h : OS M B C Z m) (hk : ∀ x, M x → OS N B C Z (k x)) : OS N B C Z (m.bind k) := by
  cases m with
  | nx s => exact hk s h
  | rt r => exact h
  | bk j => exact h
  | ct j => exact h
  | ex e => exact h
  | no => exact h
theorem os_abs {m : Out Empty J ρ} (h : OS (fun _ => True) B C Z m) : OS N B C Z (m.abs : Out S J ρ) := by
  cases m with
  | nx s => exact s.elim
  | rt r => exact h
  | bk j => exact h
  | ct j => exact h
  | ex e => exact h
  | no => exact h
theorem os_imp {m : Out S J ρ} (h : OS N B C Z m) (k : ∀ x, N x → N' x) : OS N' B C Z m := by
  cases m with
  | nx s => exact k s h
  | _ => exact h
theorem os_for {f : S → α → Out S S ρ} {xs : List α} {s : S} (P : Nat → S → Prop) (h0 : P 0 s) (hs : ∀ i x s, xs[i]? = some x → P i s → OS (P (i + 1)) N (P (i + 1)) Z (f s x)) (hd : ∀ s, P xs.length s → N s) : OS N B C Z (forL xs s f) := by
  have main : ∀ (ys : List α) (n : Nat) (s : S), P n s → (∀ i x s, ys[i]? = some x → P (n + i) s → OS (P (n + i + 1)) N (P (n + i + 1)) Z (f s x)) → (∀ s, P (n + ys.length) s → N s) → OS N B C Z (forL ys s f) := by
    intro ys
    induction ys with
    | nil => exact fun n s p _ hd => hd s p
    | cons x ys ih =>
      intro n s p hs hd
      have h1 := hs 0 x s rfl p
      have hs' : ∀ i y s, ys[i]? = some y → P (n + 1 + i) s → OS (P (n + 1 + i + 1)) N (P (n + 1 + i + 1)) Z (f s y) := fun i y s hi p => by
        have := hs (i + 1) y s (by simpa using hi) (by rw [show n + (i + 1) = n + 1 + i by omega]; exact p)
        rw [show n + (i + 1) + 1 = n + 1 + i + 1 by omega] at this
        exact this
      have hd' : ∀ s, P (n + 1 + ys.length) s → N s := fun s q => hd s (by rw [List.length_cons, show n + (ys.length + 1) = n + 1 + ys.length by omega]; exact q)
      show OS N B C Z (match f s x with | .nx s' => forL ys s' f | .ct s' => forL ys s' f | .bk s' => .nx s' | .rt r => .rt r | .ex e => .ex e | .no => .no)
      revert h1
      generalize f s x = o
      intro h1
      cases o with
      | nx s' => exact ih (n + 1) s' h1 hs' hd'
      | ct s' => exact ih (n + 1) s' h1 hs' hd'
      | bk s' => exact h1
      | rt r => exact h1
      | ex e => exact h1
      | no => exact h1
  exact main xs 0 s h0 (fun i x s hi p => by rw [Nat.zero_add] at p ⊢; exact hs i x s hi p) fun s p => hd s (by rw [Nat.zero_add] at p; exact p)
theorem os_if {c : Bool} {a b : Out S J ρ} (h1 : c = true → OS N B C Z a) (h2 : c = false → OS N B C Z b) : OS N B C Z (if c then a else b) := by
  cases c with
  | true => exact h1 rfl
  | false => exact h2 rfl
end
theorem run_of {Z : ρ → Prop} {m : Out Unit Unit ρ} (h : OS (fun _ => False) (fun _ => False) (fun _ => False) Z m) : RS Z m.run := by
  cases m with
  | rt r => exact ⟨r, rfl, h⟩
  | nx s => exact h.elim
  | bk j => exact h.elim
  | ct j => exact h.elim
  | ex e => exact h.elim
  | no => exact h.elim
theorem ioF_of {Z : Unit × α → Prop} {N : α → Prop} {m : Out α Unit (Unit × α)} (h : OS N (fun _ => False) (fun _ => False) Z m) (hn : ∀ y, N y → Z ((), y)) : RS Z (ioF m) := by
  cases m with
  | rt r => exact ⟨r, rfl, h⟩
  | nx s => exact ⟨((), s), rfl, hn s h⟩
  | bk j => exact h.elim
  | ct j => exact h.elim
  | ex e => exact h.elim
  | no => exact h.elim
/-! ### reading lists -/
theorem atI_ok {xs : List α} {i : Int} (h0 : 0 ≤ i) (h : i.toNat < xs.length) : atI xs i = some (xs[i.toNat]'h) := by
  unfold atI ixN
  rw [if_pos h0, if_pos (by omega)]
  exact List.getElem?_eq_getElem h
theorem ix_ok {xs : List α} {i : Int} (h0 : 0 ≤ i) (h : i.toNat < xs.length) : R.ix xs i = .ok (xs[i.toNat]'h) := by
  unfold R.ix
  rw [atI_ok h0 h]
  rfl
theorem ix_nat {xs : List α} {i : Nat} (h : i < xs.length) : R.ix xs (i : Int) = .ok (xs[i]'h) := ix_ok (i := (i : Int)) (by omega) (by simpa using h)
theorem ixS_ok {s : Str} {i : Int} (h0 : 0 ≤ i) (h : i.toNat < s.cps.toList.length) : R.ixS s i = .ok ⟨#[s.cps.toList[i.toNat]'h]⟩ := by
  unfold R.ixS
  rw [atI_ok h0 h]
  rfl
theorem mod_ok {x y : Int} (h : 0 < y) : R.mod x y = .ok (x % y) := by unfold R.mod; exact if_pos h
theorem fdiv_ok {x y : Int} (h : 0 < y) (h2 : y < 1073741824) : R.fdiv x y = .ok (x / y) := by unfold R.fdiv; exact if_pos ⟨h, h2⟩
theorem mul_okl {x y : Int} (h : -(2 ^ 64) < x) (h2 : x < 2 ^ 64) : R.mul x y = .ok (x * y) := by unfold R.mul; exact if_pos (.inl ⟨h, h2⟩)
theorem mul_okr {x y : Int} (h : -(2 ^ 64) < y) (h2 : y < 2 ^ 64) : R.mul x y = .ok (x * y) := by unfold R.mul; exact if_pos (.inr ⟨h, h2⟩)
theorem apd_ok {xs : List α} {x : α} (h : xs.length < 16777216) : R.app xs x = .ok (xs ++ [x]) := by unfold R.app; exact if_pos (by rw [sl_eq]; exact h)
theorem ext_ok {xs ys : List α} (h : xs.length + ys.length ≤ 16777216) : R.ext xs ys = .ok (xs ++ ys) := by unfold R.ext; exact if_pos (by rw [sl_eq]; exact h)
theorem rng_ok {lo hi : Int} (h1 : -16777216 ≤ lo) (h2 : lo ≤ 16777216) (h3 : -16777216 ≤ hi) (h4 : hi ≤ 16777216) : R.rng lo hi = .ok (rng lo hi) := by unfold R.rng; exact if_pos ⟨h1, h2, h3, h4⟩
theorem addS_ok {x y : Str} (h : x.length + y.length ≤ 16777216) : R.addS x y = .ok (x ++ y) := by unfold R.addS; exact if_pos (by rw [sl_eq]; exact h)
theorem join_ok {s : Str} {xs : List Str} (h : (xs.map (·.length)).sum + xs.length * s.length ≤ 16777216) : R.join s xs = .ok (Txt.join s xs) := by unfold R.join; exact if_pos h
theorem lcM_ok {xs : List α} {f : α → β} (h : xs.length ≤ 16777216) : R.lcM xs f = .ok (xs.map f) := by unfold R.lcM; exact if_pos (by rw [sl_eq]; exact h)
theorem lcT_ok {xs : List α} {p : α → Bool} {f : α → β} (h : xs.length ≤ 16777216) : R.lcT xs p f = .ok ((xs.filter p).map f) := by unfold R.lcT; exact if_pos (by rw [sl_eq]; exact h)
/-- a comprehension each of whose items is known -/
theorem lc_ok {xs : List α} {p : α → R Bool} {f : α → R β} {p' : α → Bool} {f' : α → β} (hl : xs.length ≤ 16777216) (hp : ∀ x, x ∈ xs → p x = .ok (p' x)) (hf : ∀ x, x ∈ xs → p' x = true → f x = .ok (f' x)) : R.lc xs p f = .ok ((xs.filter p').map f') := by
  unfold R.lc
  rw [if_pos (by rw [sl_eq]; exact hl)]
  clear hl
  induction xs with
  | nil => rfl
  | cons x xs ih =>
    unfold lcGo
    rw [hp x (by simp), ih (fun y hy => hp y (List.mem_cons_of_mem _ hy)) fun y hy => hf y (List.mem_cons_of_mem _ hy)]
    cases h : p' x with
    | true =>
      dsimp only
      rw [hf x (by simp) h]
      simp [List.filter_cons, h]
    | false => simp [List.filter_cons, h]
theorem lc_all {xs : List α} {f : α → R β} {f' : α → β} (hl : xs.length ≤ 16777216) (hf : ∀ x, x ∈ xs → f x = .ok (f' x)) : R.lc xs (fun _ => .ok true) f = .ok (xs.map f') := by
  rw [lc_ok (p' := fun _ => true) (f' := f') hl (fun _ _ => rfl) fun x hx _ => hf x hx, List.filter_eq_self.mpr (by simp)]
/-- .. or of which only is known that they are and what holds of them -/
theorem lc_ex {xs : List α} {f : α → R β} {Q : β → Prop} (hl : xs.length ≤ 16777216) (hf : ∀ x, x ∈ xs → ∃ y, f x = .ok y ∧ Q y) : ∃ ys, R.lc xs (fun _ => .ok true) f = .ok ys ∧ ys.length = xs.length ∧ ∀ y ∈ ys, Q y := by
  unfold R.lc
  rw [if_pos (by rw [sl_eq]; exact hl)]
  clear hl
  induction xs with
  | nil => exact ⟨[], rfl, rfl, fun y hy => (List.not_mem_nil hy).elim⟩
  | cons x xs ih =>
    obtain ⟨y, hy, qy⟩ := hf x (by simp)
    obtain ⟨ys, hys, l, q⟩ := ih fun z hz => hf z (List.mem_cons_of_mem _ hz)
    refine ⟨y :: ys, ?_, by simp [l], fun z hz => ?_⟩
    · unfold lcGo
      rw [hys]
      dsimp only
      rw [hy]
    · rcases List.mem_cons.mp hz with h | h
      · rw [h]; exact qy
      · exact q z h
/-! ### slices -/
theorem sIx_nat {n d : Nat} {v : Int} (h : 0 ≤ v) : HT.sIx n d (some v) = min v.toNat n := by
  unfold HT.sIx
  dsimp only
  rw [if_neg (by omega)]
theorem sl_upto {xs : List α} {v : Int} (h : 0 ≤ v) : sl xs none (some v) = xs.take v.toNat := by
  unfold sl
  rw [sIx_nat h]
  show (xs.drop 0).take (min v.toNat xs.length - 0) = _
  rw [List.drop_zero, Nat.sub_zero]
  by_cases c : v.toNat ≤ xs.length
  · rw [Nat.min_eq_left c]
  · rw [Nat.min_eq_right (by omega), List.take_of_length_le (Nat.le_refl _), List.take_of_length_le (by omega)]
theorem sl_from {xs : List α} {v : Int} (h : 0 ≤ v) : sl xs (some v) none = xs.drop v.toNat := by
  unfold sl
  rw [sIx_nat h]
  show (xs.drop (min v.toNat xs.length)).take (xs.length - min v.toNat xs.length) = _
  by_cases c : v.toNat ≤ xs.length
  · rw [Nat.min_eq_left c, List.take_of_length_le (by simp)]
  · rw [Nat.min_eq_right (by omega), List.drop_length, List.drop_of_length_le (by omega), Nat.sub_self, List.take_zero]
theorem cutS_len (z : Str) (lo hi : Option Int) : (cutS z lo hi).length ≤ z.length := by
  show (List.toArray _).size ≤ z.cps.size
  rw [List.size_toArray, List.length_take, List.length_drop, Array.length_toList]
  omega
theorem rng_mem {lo hi x : Int} (h : x ∈ rng lo hi) : lo ≤ x ∧ x < hi := by
  unfold rng at h
  rw [List.mem_map] at h
  obtain ⟨i, hi', e⟩ := h
  rw [List.mem_range] at hi'
  omega
theorem rng_get' {lo hi : Int} {i : Nat} (h : i < (hi - lo).toNat) : (rng lo hi)[i]? = some (lo + (i : Nat)) := by
  unfold rng
  rw [List.getElem?_map, List.getElem?_range h]
  rfl
theorem enum_mem {xs : List α} {x : Int × α} (h : x ∈ enum xs) : x.2 ∈ xs ∧ 0 ≤ x.1 ∧ x.1 < xs.length := by
  obtain ⟨i, hi, e⟩ := List.getElem_of_mem h
  have h1 : (enum xs)[i]? = some x := by rw [← e]; exact List.getElem?_eq_getElem hi
  obtain ⟨a, b⟩ := enum_get h1
  obtain ⟨c, d⟩ := List.getElem?_eq_some_iff.mp b
  refine ⟨by rw [← d]; exact List.getElem_mem c, by omega, by omega⟩
/-! ### texts -/
theorem inS_sign (d : Nat) (z : Str) : inS ⟨#[d]⟩ z = decide (d ∈ z.cps.toList) := PySem.StrLaws.found_one z d
end Mt

namespace Ma
open PySem L2 Fw Mir Mt
theorem cell_ok (s : Sq Int) (k : Int) (h0 : 0 ≤ k) (h1 : k ≤ 1000) : RS (fun _ => True) (m_cell s k) := by
  have k0 : 0 ≤ k * k := Int.mul_nonneg h0 h0
  have k1 : k * k ≤ 1000 * 1000 := Int.mul_le_mul h1 h1 h0 (by decide)
  unfold m_cell
  refine run_of ?_
  unfold m_cell_b
  simp only [R.bind_ok]
  refine os_if (fun hc => os_abs ?_) fun _ => ?_
  · rw [ix_ok h0 (by have := of_decide_eq_true hc; omega)]
    trivial
  · rw [mul_okl (by omega) (by omega)]
    simp only [R.bind_ok, R.to_ok]
    refine os_bind (M := fun v : Int => 0 ≤ v ∧ v < 10000000000) (os_if (fun hc => ?_) fun _ => os_nx (by omega)) fun v hv => ?_
    · have hl := of_decide_eq_true hc
      rw [mod_ok hl]
      simp only [R.bind_ok]
      have a0 := Int.emod_nonneg (k * 7) (show (s.l.length : Int) ≠ 0 by omega)
      have a1 := Int.emod_lt_of_pos (k * 7) hl
      rw [ix_ok a0 (by omega)]
      simp only [R.bind_ok, R.to_ok]
      exact os_nx (by omega)
    · rw [mul_okl (by omega) (by omega)]
      trivial
theorem mixed_ok (c k : Int) (h0 : 0 ≤ k) (h1 : k ≤ 100000) : RS (fun _ => True) (m_mixed c k) := by
  unfold m_mixed
  refine run_of ?_
  unfold m_mixed_b
  simp only [R.bind_ok]
  refine os_if (fun hc => os_abs ?_) fun _ => ?_
  · unfold R.shr
    rw [if_pos (by omega)]
    trivial
  · rw [mul_okr (by omega) (by omega)]
    simp only [R.bind_ok, R.to_ok]
    generalize (c % 2147483629 + 7919 * k * k + k + 13) * 48271 = q
    rw [mul_okl (by omega) (by omega)]
    trivial
theorem size_ok (c : Int) : RS (fun p => 1 ≤ p.1 ∧ p.1 ≤ 24 ∧ 1 ≤ p.2 ∧ p.2 ≤ 24) (m_size c) := by
  obtain ⟨a, ea, _⟩ := mixed_ok c 3 (by decide) (by decide)
  obtain ⟨b, eb, _⟩ := mixed_ok c 4 (by decide) (by decide)
  unfold m_size
  refine run_of ?_
  unfold m_size_b
  simp only [ea, eb, R.bind_ok, R.to_ok]
  refine os_if (fun _ => os_abs ?_) fun _ => ?_
  · exact os_rt (by dsimp only; omega)
  · exact os_rt (by dsimp only; omega)
theorem rng_nat {w i : Nat} {x : Int} (h : (rng 0 (w : Int))[i]? = some x) : x = (i : Int) ∧ i < w := by
  have h1 := (List.getElem?_eq_some_iff.mp h).1
  rw [rng_len] at h1
  rw [rng_get' (by omega)] at h
  have := Option.some.inj h
  omega
/-! ### plans and their replaying -/
abbrev ST := T4 Str Int Int Int
abbrev DD := T3 Str Int (Int ⊕ ST)
def SOK (w h : Int) (s : ST) : Prop := (s.a = ("row" : Str) ∧ 0 ≤ s.b ∧ s.b < h ∧ 0 ≤ s.c ∧ s.c ≤ s.d ∧ s.d < w) ∨ (s.a = ("column" : Str) ∧ 0 ≤ s.b ∧ s.b < w ∧ 0 ≤ s.c ∧ s.c ≤ s.d ∧ s.d < h)
theorem s_rc : ("row" : Str) ≠ ("column" : Str) := by decide +kernel
theorem s_cr : ("column" : Str) ≠ ("row" : Str) := by decide +kernel
theorem s_cp : ("cut" : Str) ≠ ("print" : Str) := by decide +kernel
theorem s_pc : ("print" : Str) ≠ ("cut" : Str) := by decide +kernel
theorem shl1_ok {n : Nat} (h1 : n ≤ 1000000) : R.shl 1 (n : Int) = .ok ((2 ^ n : Nat) : Int) := by
  unfold R.shl
  rw [if_pos ⟨by omega, by omega, by decide⟩]
  congr 1
  simp
theorem seto_ok {w h : Int} (w0 : 1 ≤ w) (w1 : w ≤ 24) (h0 : 1 ≤ h) (h1 : h ≤ 24) {cs : List (Int × Int)} (hc : ∀ c ∈ cs, 0 ≤ c.1 ∧ c.1 < w ∧ 0 ≤ c.2 ∧ c.2 < h) : RS (fun s : Int => ∃ N : Nat, s = N) (m_set_of (w, h) cs) := by
  unfold m_set_of
  refine run_of ?_
  unfold m_set_of_b
  simp (config := { implicitDefEqProofs := false }) only [lt, R.bind_ok, R.to_ok]
  refine os_bind (os_for (fun i s => ∃ N : Nat, s = (N : Int)) ⟨0, rfl⟩ (fun i x s hi ⟨N, es⟩ => ?_) fun s p => p) fun s p => os_rt p
  have hx := hc x (List.mem_of_getElem? hi)
  rw [mul_okr (by omega) (by omega)]
  simp (config := { implicitDefEqProofs := false }) only [R.bind_ok]
  have z0 : 0 ≤ x.2 * w := Int.mul_nonneg hx.2.2.1 (by omega)
  have z1 : x.2 * w ≤ 24 * 24 := Int.mul_le_mul (by omega) w1 (by omega) (by omega)
  obtain ⟨n, en⟩ := Int.eq_ofNat_of_zero_le (show 0 ≤ x.2 * w + x.1 by omega)
  rw [en, shl1_ok (by omega)]
  simp (config := { implicitDefEqProofs := false }) only [R.bind_ok, R.to_ok]
  refine os_nx ⟨N ||| 2 ^ n, ?_⟩
  rw [es, Bits.bitOr_pp (Int.natCast_nonneg _) (Int.natCast_nonneg _)]
  rfl
theorem cut_ok {w h : Int} (w0 : 1 ≤ w) (w1 : w ≤ 24) (h0 : 1 ≤ h) (h1 : h ≤ 24) {s : ST} (o : SOK w h s) : RS (fun s : Int => ∃ N : Nat, s = N) (m_cells_cut (w, h) s) := by
  unfold m_cells_cut
  refine run_of ?_
  unfold m_cells_cut_b
  have n1 : 0 ≤ s.c ∧ s.c ≤ s.d ∧ s.d < 24 := by rcases o with o | o <;> omega
  have er : R.rng s.c (s.d + 1) = .ok (rng s.c (s.d + 1)) := rng_ok (by omega) (by omega) (by omega) (by omega)
  have el : (rng s.c (s.d + 1)).length ≤ 16777216 := by rw [rng_len]; omega
  simp (config := { implicitDefEqProofs := false }) only [lt, lt4, R.bind_ok, R.to_ok, er, lcM_ok el]
  refine os_if (fun hc => os_abs ?_) fun hc => ?_
  · have ha : s.a = ("row" : Str) := of_decide_eq_true hc
    have o' : 0 ≤ s.b ∧ s.b < h ∧ 0 ≤ s.c ∧ s.c ≤ s.d ∧ s.d < w := by
      rcases o with o | o
      · exact o.2
      · exact absurd (ha.symm.trans o.1) s_rc
    refine os_to (Q := fun s : Int => ∃ N : Nat, s = N) (seto_ok w0 w1 h0 h1 fun c hc => ?_) fun x hx => os_rt hx
    obtain ⟨y, hy, ey⟩ := List.mem_map.mp hc
    have := rng_mem hy
    rw [← ey]
    dsimp only
    omega
  · have ha : s.a ≠ ("row" : Str) := of_decide_eq_false hc
    have o' : 0 ≤ s.b ∧ s.b < w ∧ 0 ≤ s.c ∧ s.c ≤ s.d ∧ s.d < h := by
      rcases o with o | o
      · exact absurd o.1 ha
      · exact o.2
    refine os_to (Q := fun s : Int => ∃ N : Nat, s = N) (seto_ok w0 w1 h0 h1 fun c hc => ?_) fun x hx => os_rt hx
    obtain ⟨y, hy, ey⟩ := List.mem_map.mp hc
    have := rng_mem hy
    rw [← ey]
    dsimp only
    omega
def DOK (w h : Int) (d : DD) : Prop := (d.a = ("print" : Str) ∧ 0 ≤ d.b ∧ ∃ i, d.c = .inl i ∧ 0 ≤ i) ∨ (d.a = ("cut" : Str) ∧ 0 ≤ d.b ∧ ∃ s, d.c = .inr s ∧ SOK w h s)
def inkOf (d : DD) : Option Int := match d.c with
  | .inl i => some i
  | .inr _ => none
def inks (l : List DD) : List Int := l.filterMap inkOf
theorem inks_cons (d : DD) (l : List DD) : inks (d :: l) = match inkOf d with | some i => i :: inks l | none => inks l := by
  unfold inks
  rw [List.filterMap_cons]
  cases inkOf d <;> rfl
theorem inks_app (a b : List DD) : inks (a ++ b) = inks a ++ inks b := List.filterMap_append
theorem stroke_ok {w h : Int} (w0 : 1 ≤ w) (w1 : w ≤ 24) (h0 : 1 ≤ h) (h1 : h ≤ 24) (n : Int) : RS (SOK w h) (m_stroke (w, h) n) := by
  unfold m_stroke
  refine run_of ?_
  unfold m_stroke_b
  have hn : n % 2 = 0 ∨ n % 2 = 1 := by omega
  rcases hn with z | z <;> rw [z]
  · have e1 : R.ix [("row" : Str), ("column" : Str)] 0 = .ok "row" := by unfold R.ix; rfl
    have e2 : R.ix [h, w] 0 = .ok h := by unfold R.ix; rfl
    have e3 : R.ix [w, h] 0 = .ok w := by unfold R.ix; rfl
    simp (config := { implicitDefEqProofs := false }) only [R.bind_ok, R.to_ok, e1, e2, e3, fdiv_ok (show 0 < 2 * h by omega) (by omega), mod_ok (show 0 < w by omega), mul_okr (show -(2 ^ 64) < w by omega) (show w < 2 ^ 64 by omega)]
    have p0 : 0 < 2 * h * w := Int.mul_pos (by omega) (by omega)
    have p1 : 2 * h * w ≤ 48 * 24 := Int.mul_le_mul (by omega) w1 (by omega) (by omega)
    rw [fdiv_ok p0 (by omega)]
    simp (config := { implicitDefEqProofs := false }) only [R.bind_ok, R.to_ok]
    have f0 := Int.emod_nonneg (n / (2 * h)) (show w ≠ 0 by omega)
    have f1 := Int.emod_lt_of_pos (n / (2 * h)) (show 0 < w by omega)
    generalize n / (2 * h) % w = f at f0 f1 ⊢
    rw [mod_ok (show 0 < h by omega), mod_ok (show 0 < w - f by omega)]
    simp (config := { implicitDefEqProofs := false }) only [R.bind_ok, R.to_ok]
    have g0 := Int.emod_nonneg (n / (2 * h * w)) (show w - f ≠ 0 by omega)
    have g1 := Int.emod_lt_of_pos (n / (2 * h * w)) (show 0 < w - f by omega)
    have l0 := Int.emod_nonneg (n / 2) (show h ≠ 0 by omega)
    have l1 := Int.emod_lt_of_pos (n / 2) (show 0 < h by omega)
    exact os_rt (.inl ⟨rfl, l0, l1, f0, by dsimp only; omega, by dsimp only; omega⟩)
  · have e1 : R.ix [("row" : Str), ("column" : Str)] 1 = .ok "column" := by unfold R.ix; rfl
    have e2 : R.ix [h, w] 1 = .ok w := by unfold R.ix; rfl
    have e3 : R.ix [w, h] 1 = .ok h := by unfold R.ix; rfl
    simp (config := { implicitDefEqProofs := false }) only [R.bind_ok, R.to_ok, e1, e2, e3, fdiv_ok (show 0 < 2 * w by omega) (by omega), mod_ok (show 0 < h by omega), mul_okr (show -(2 ^ 64) < h by omega) (show h < 2 ^ 64 by omega)]
    have p0 : 0 < 2 * w * h := Int.mul_pos (by omega) (by omega)
    have p1 : 2 * w * h ≤ 48 * 24 := Int.mul_le_mul (by omega) h1 (by omega) (by omega)
    rw [fdiv_ok p0 (by omega)]
    simp (config := { implicitDefEqProofs := false }) only [R.bind_ok, R.to_ok]
    have f0 := Int.emod_nonneg (n / (2 * w)) (show h ≠ 0 by omega)
    have f1 := Int.emod_lt_of_pos (n / (2 * w)) (show 0 < h by omega)
    generalize n / (2 * w) % h = f at f0 f1 ⊢
    rw [mod_ok (show 0 < w by omega), mod_ok (show 0 < h - f by omega)]
    simp (config := { implicitDefEqProofs := false }) only [R.bind_ok, R.to_ok]
    have g0 := Int.emod_nonneg (n / (2 * w * h)) (show h - f ≠ 0 by omega)
    have g1 := Int.emod_lt_of_pos (n / (2 * w * h)) (show 0 < h - f by omega)
    have l0 := Int.emod_nonneg (n / 2) (show w ≠ 0 by omega)
    have l1 := Int.emod_lt_of_pos (n / 2) (show 0 < w by omega)
    exact os_rt (.inr ⟨rfl, l0, l1, f0, by dsimp only; omega, by dsimp only; omega⟩)
/-! ### values of many kinds, dicts among them: strokes or not -/
def numD : PyData → Bool
  | .int i => decide (0 ≤ i)
  | _ => false
def isS (s : Str) : PyData → Bool
  | .str a => decide (a = s)
  | _ => false
def intD : PyData → Int
  | .int i => i
  | _ => 0
theorem beq_dec (a b : Str) : (a == b) = decide (a = b) := Bool.eq_iff_iff.mpr (by simp)
theorem eqv_s (d : PyData) (s : Str) : PyData.eqv d (.str s) = isS s d := by
  cases d with
  | str a => show (a == s) = decide (a = s); exact beq_dec _ _
  | _ => simp [PyData.eqv, isS]
theorem s_eqv (d : PyData) (s : Str) : PyData.eqv (.str s) d = isS s d := by
  cases d with
  | str a =>
    show (s == a) = decide (a = s)
    rw [beq_dec]
    exact decide_eq_decide.mpr eq_comm
  | _ => simp [PyData.eqv, isS]
theorem z_tup {l : List PyData} (h : l.length ≤ 1000) : R.ztup (⟨.tuple l⟩ : Dz) = .ok ⟨l.map Dz.mk⟩ := if_pos (by rw [sl_eq]; omega)
theorem iy_tt (l : List PyData) : isZ "tuple" (⟨.tuple l⟩ : Dz) = true := by
  show (L2.kitB "tuple" "tuple").getD false = true
  decide +kernel
theorem iy_tf {d : PyData} (h : ∀ l, d ≠ .tuple l) : isZ "tuple" (⟨d⟩ : Dz) = false := by
  cases d with
  | none => show (L2.kitB "NoneType" "tuple").getD false = false; decide +kernel
  | bool b => show (L2.kitB "bool" "tuple").getD false = false; decide +kernel
  | int b => show (L2.kitB "int" "tuple").getD false = false; decide +kernel
  | str b => show (L2.kitB "str" "tuple").getD false = false; decide +kernel
  | list b => show (L2.kitB "list" "tuple").getD false = false; decide +kernel
  | tuple b => exact absurd rfl (h b)
  | dict b => show (L2.kitB "dict" "tuple").getD false = false; decide +kernel
theorem iy_i (i : Int) : isZ "int" (⟨.int i⟩ : Dz) = true := by
  show (L2.kitB "int" "int").getD false = true
  decide +kernel
theorem iy_b (i : Int) : isZ "bool" (⟨.int i⟩ : Dz) = false := by
  show (L2.kitB "int" "bool").getD false = false
  decide +kernel
theorem iy_bb (b : Bool) : isZ "bool" (⟨.bool b⟩ : Dz) = true := by
  show (L2.kitB "bool" "bool").getD false = true
  decide +kernel
theorem iy_bi (b : Bool) : isZ "int" (⟨.bool b⟩ : Dz) = true := by
  show (L2.kitB "bool" "int").getD false = true
  decide +kernel
theorem iy_if {d : PyData} (h : ∀ i, d ≠ .int i) (h2 : ∀ i, d ≠ .bool i) : isZ "int" (⟨d⟩ : Dz) = false := by
  cases d with
  | none => show (L2.kitB "NoneType" "int").getD false = false; decide +kernel
  | bool b => exact absurd rfl (h2 b)
  | int b => exact absurd rfl (h b)
  | str b => show (L2.kitB "str" "int").getD false = false; decide +kernel
  | list b => show (L2.kitB "list" "int").getD false = false; decide +kernel
  | tuple b => show (L2.kitB "tuple" "int").getD false = false; decide +kernel
  | dict b => show (L2.kitB "dict" "int").getD false = false; decide +kernel
theorem y_num (d : PyData) : R.and (R.ok (isZ "int" (⟨d⟩ : Dz))) (R.and (R.ok (!(isZ "bool" (⟨d⟩ : Dz)))) (((R.ok (⟨d⟩ : Dz)).bind R.zint).bind fun t1 => (R.ok (0 : Int)).bind fun t2 => (R.ok (decide (t2 ≤ t1))))) = .ok (numD d) := by
  by_cases h : ∃ i, d = .int i
  · obtain ⟨i, rfl⟩ := h
    rw [iy_i, iy_b]
    rfl
  · by_cases h2 : ∃ b, d = .bool b
    · obtain ⟨b, rfl⟩ := h2
      rw [iy_bi, iy_bb]
      rfl
    · rw [iy_if (fun i e => h ⟨i, e⟩) fun b e => h2 ⟨b, e⟩]
      have : numD d = false := by
        cases d with
        | int i => exact absurd ⟨i, rfl⟩ h
        | _ => rfl
      rw [this]
      rfl
theorem numS_ok (d : PyData) : m_is_number ⟨d⟩ = .ok (numD d) := by
  unfold m_is_number m_is_number_b
  rw [y_num]
  rfl
theorem num_int {d : PyData} (h : numD d = true) : ∃ i, d = .int i ∧ 0 ≤ i := by
  cases d with
  | int i => exact ⟨i, rfl, of_decide_eq_true h⟩
  | _ => cases h
theorem loopD {J : Type} : ∀ xs : List PyData, (forL (xs.map Dz.mk) () (fun (_ : Unit) (x16 : Dz) => (R.to ((m_is_number x16).bind fun t17 => (R.ok (!t17))) fun b18 => if b18 then Out.abs (.rt false) else (.nx ()))) : Out Unit J Bool) = if xs.all numD then .nx () else .rt false
  | [] => rfl
  | x :: r => by
    rw [List.map_cons, List.all_cons]
    unfold forL
    dsimp only
    rw [numS_ok]
    cases hx : numD x with
    | false => rfl
    | true =>
      rw [Bool.true_and, ← loopD r]
      rfl
def liesD (w h : Int) : PyData → Bool
  | .tuple [p, x, y, z] => (isS "row" p || isS "column" p) && (numD x && (numD y && (numD z && (if isS "column" p then decide (intD x < w) && (decide (intD y ≤ intD z) && decide (intD z < h)) else decide (intD x < h) && (decide (intD y ≤ intD z) && decide (intD z < w))))))
  | _ => false
def Hd (p : PyData) : Prop := isD p = true ∨ SeqAt.shaped p = true
theorem nin_rc {p : PyData} (h : Hd p) : R.ninZ ⟨p⟩ (("row" : Str), ("column" : Str)) = .ok (!(isS "row" p || isS "column" p)) := by
  unfold R.ninZ
  by_cases c : isD p = true
  · rw [if_pos c]
    cases p with
    | dict k => rfl
    | _ => cases c
  · rw [if_neg c, if_pos ⟨h.resolve_left c, by decide +kernel⟩, s_eqv, s_eqv]
theorem eq_c {p : PyData} (h : SeqAt.shaped p = true) : R.eqZ ⟨p⟩ "column" = .ok (isS "column" p) := by
  unfold R.eqZ
  rw [if_pos h, eqv_s]
theorem hd_sh {p : PyData} (h : Hd p) (c : (isS "row" p || isS "column" p) = true) : SeqAt.shaped p = true := by
  rcases h with h | h
  · cases p with
    | dict k => cases c
    | _ => cases h
  · exact h
theorem lies_ok (w h : Int) (d : PyData) (hl : ∀ l, d = .tuple l → l.length ≤ 1000 ∧ ∀ p r, l = p :: r → Hd p) : m_lies_on (w, h) ⟨d⟩ = .ok (liesD w h d) := by
  by_cases ht : ∃ l, d = .tuple l
  · obtain ⟨l, rfl⟩ := ht
    obtain ⟨hl, hh⟩ := hl l rfl
    have key : RS (fun b => b = liesD w h (.tuple l)) (m_lies_on (w, h) ⟨.tuple l⟩) := by
      unfold m_lies_on
      refine run_of ?_
      unfold m_lies_on_b
      rw [iy_tt]
      simp (config := { implicitDefEqProofs := false }) only [R.bind_ok, z_tup hl, R.or, Bool.not_true, List.length_map]
      by_cases h4 : l.length = 4
      · match l, h4 with
        | [p, x, y, z], _ =>
        have i0 : R.ix (List.map Dz.mk [p, x, y, z]) 0 = .ok ⟨p⟩ := ix_nat (i := 0) (by show 0 < 4; decide)
        have i1 : R.ix (List.map Dz.mk [p, x, y, z]) 1 = .ok ⟨x⟩ := ix_nat (i := 1) (by show 1 < 4; decide)
        have i2 : R.ix (List.map Dz.mk [p, x, y, z]) 2 = .ok ⟨y⟩ := ix_nat (i := 2) (by show 2 < 4; decide)
        have i3 : R.ix (List.map Dz.mk [p, x, y, z]) 3 = .ok ⟨z⟩ := ix_nat (i := 3) (by show 3 < 4; decide)
        have hp0 := hh p _ rfl
        rw [show decide ((([p, x, y, z] : List PyData).length : Int) = 4) = true from rfl, sl_from (by decide)]
        simp (config := { implicitDefEqProofs := false }) only [R.bind_ok, i0, nin_rc hp0, Bool.not_true, R.to_ok]
        show OS _ _ _ _ (if (!(isS "row" p || isS "column" p)) = true then _ else _)
        have lc : liesD w h (.tuple [p, x, y, z]) = ((isS "row" p || isS "column" p) && (numD x && (numD y && (numD z && (if isS "column" p then decide (intD x < w) && (decide (intD y ≤ intD z) && decide (intD z < h)) else decide (intD x < h) && (decide (intD y ≤ intD z) && decide (intD z < w))))))) := rfl
        rw [lc]
        cases hp : isS "row" p || isS "column" p with
        | false => exact os_abs (os_rt rfl)
        | true =>
          rw [Bool.true_and, Bool.not_true, if_neg Bool.false_ne_true, show (List.map Dz.mk [p, x, y, z]).drop (Int.toNat 1) = List.map Dz.mk [x, y, z] from rfl, loopD]
          have la : ([x, y, z].all numD) = (numD x && (numD y && (numD z && true))) := rfl
          rw [la]
          cases hx : numD x with
          | false => exact os_rt rfl
          | true =>
          cases hy : numD y with
          | false => exact os_rt rfl
          | true =>
          cases hz : numD z with
          | false => exact os_rt rfl
          | true =>
          simp (config := { implicitDefEqProofs := false }) only [Bool.true_and, Bool.and_self, if_true]
          refine os_bind (M := fun _ : Unit => True) (os_nx trivial) fun _ _ => ?_
          obtain ⟨x, rfl, _⟩ := num_int hx
          obtain ⟨y, rfl, _⟩ := num_int hy
          obtain ⟨z, rfl, _⟩ := num_int hz
          refine os_lt (os_lt ?_)
          simp (config := { implicitDefEqProofs := false }) only [R.bind_ok, R.to_ok, i1, i2, i3, eq_c (hd_sh hp0 hp), R.zint, R.and]
          cases hc : isS "column" p with
          | false =>
            simp (config := { implicitDefEqProofs := false }) only [Bool.false_eq_true, if_false, intD]
            refine os_bind (M := fun s : Int × Int => s = (h, w)) (os_nx rfl) fun s es => ?_
            subst es
            dsimp only
            by_cases q1 : x < h <;> by_cases q2 : y ≤ z <;> by_cases q3 : z < w <;> simp (config := { implicitDefEqProofs := false }) only [q1, q2, q3, decide_true, decide_false] <;> exact os_rt rfl
          | true =>
            simp (config := { implicitDefEqProofs := false }) only [if_true, intD]
            refine os_bind (M := fun s : Int × Int => s = (w, h)) (os_lt (os_lt (os_nx rfl))) fun s es => ?_
            subst es
            dsimp only
            by_cases q1 : x < w <;> by_cases q2 : y ≤ z <;> by_cases q3 : z < h <;> simp (config := { implicitDefEqProofs := false }) only [q1, q2, q3, decide_true, decide_false] <;> exact os_rt rfl
      · rw [show decide ((l.length : Int) = 4) = false from decide_eq_false (by omega)]
        simp (config := { implicitDefEqProofs := false }) only [R.bind_ok, Bool.not_false, R.to_ok]
        refine os_abs (os_rt ?_)
        unfold liesD
        split
        · rename_i e; cases e; exact absurd rfl h4
        · rfl
    obtain ⟨b, e, eb⟩ := key
    rw [e, eb]
  · have e : liesD w h d = false := by
      unfold liesD
      split
      · exact absurd ⟨_, rfl⟩ ht
      · rfl
    rw [e]
    have key : RS (fun b => b = false) (m_lies_on (w, h) ⟨d⟩) := by
      unfold m_lies_on
      refine run_of ?_
      unfold m_lies_on_b
      rw [iy_tf fun l e => ht ⟨l, e⟩]
      simp (config := { implicitDefEqProofs := false }) only [R.or, R.bind_ok, Bool.not_false, if_true, R.to_ok]
      exact os_abs (os_rt rfl)
    obtain ⟨b, e, eb⟩ := key
    rw [e, eb]
theorem cs_rr : isS "row" (.str "row") = true := by decide +kernel
theorem cs_cr : isS "column" (.str "row") = false := by decide +kernel
theorem cs_rc : isS "row" (.str "column") = false := by decide +kernel
theorem cs_cc : isS "column" (.str "column") = true := by decide +kernel
theorem lies_good {w h : Int} {st : ST} (o : SOK w h st) : liesD w h (Dm.toX st) = true := by
  obtain ⟨a, b, c, d⟩ := st
  rcases o with ⟨e, h1, h2, h3, h4, h5⟩ | ⟨e, h1, h2, h3, h4, h5⟩
  · dsimp only at e h1 h2 h3 h4 h5
    subst e
    show ((isS "row" (.str "row") || isS "column" (.str "row")) && (decide (0 ≤ b) && (decide (0 ≤ c) && (decide (0 ≤ d) && (if isS "column" (.str "row") = true then decide (b < w) && (decide (c ≤ d) && decide (d < h)) else decide (b < h) && (decide (c ≤ d) && decide (d < w))))))) = true
    rw [cs_rr, cs_cr, if_neg Bool.false_ne_true]
    simp; omega
  · dsimp only at e h1 h2 h3 h4 h5
    subst e
    show ((isS "row" (.str "column") || isS "column" (.str "column")) && (decide (0 ≤ b) && (decide (0 ≤ c) && (decide (0 ≤ d) && (if isS "column" (.str "column") = true then decide (b < w) && (decide (c ≤ d) && decide (d < h)) else decide (b < h) && (decide (c ≤ d) && decide (d < w))))))) = true
    rw [cs_rc, cs_cc, if_pos rfl]
    simp; omega
/-! ### the cells of a stroke, together -/
def orP (p : Nat → Nat) : Nat → Nat
  | 0 => 0
  | i + 1 => orP p i ||| 2 ^ p i
theorem orP_lt {p : Nat → Nat} (hm : ∀ i, p i < p (i + 1)) : ∀ i, orP p i < 2 ^ p i
  | 0 => Nat.two_pow_pos _
  | i + 1 => by
    have h1 := orP_lt hm i
    have h2 : orP p i < 2 ^ (p i + 1) := Nat.lt_of_lt_of_le h1 (Nat.pow_le_pow_right (by decide) (by omega))
    have h3 : 2 ^ p i < 2 ^ (p i + 1) := Nat.pow_lt_pow_right (by decide) (by omega)
    exact Nat.lt_of_lt_of_le (Nat.or_lt_two_pow h2 h3) (Nat.pow_le_pow_right (by decide) (hm i))
theorem orP_add {p : Nat → Nat} (hm : ∀ i, p i < p (i + 1)) (i : Nat) : orP p i + 2 ^ p i = orP p (i + 1) := by
  have := Nat.two_pow_add_eq_or_of_lt (orP_lt hm i) 1
  rw [Nat.mul_one] at this
  show _ = orP p i ||| 2 ^ p i
  rw [Nat.add_comm, this, Nat.or_comm]
structure CL (w : Int) (p : Nat → Nat) (cs : List (Int × Int)) : Prop where
  at_ : ∀ i c, cs[i]? = some c → c.2 * w + c.1 = (p i : Int) ∧ p i ≤ 1000
  mo : ∀ i, p i < p (i + 1)
  le : cs.length ≤ 1000
theorem bor_n (a b : Nat) : Builtin.bitOr (a : Int) (b : Int) = ((a ||| b : Nat) : Int) := by
  rw [Bits.bitOr_pp (Int.natCast_nonneg _) (Int.natCast_nonneg _)]
  rfl
theorem seto2_ok {w h : Int} (w0 : 1 ≤ w) (w1 : w ≤ 24) {p : Nat → Nat} {cs : List (Int × Int)} (C : CL w p cs) : m_set_of (w, h) cs = .ok (orP p cs.length : Int) := by
  have key : RS (fun s : Int => s = (orP p cs.length : Int)) (m_set_of (w, h) cs) := by
    unfold m_set_of
    refine run_of ?_
    unfold m_set_of_b
    simp (config := { implicitDefEqProofs := false }) only [lt, R.bind_ok, R.to_ok]
    refine os_bind (M := fun s : Int => s = (orP p cs.length : Int)) (os_for (fun i s => s = (orP p i : Int)) rfl (fun i x s hi es => ?_) fun s q => q) fun s q => os_rt q
    obtain ⟨e, hl⟩ := C.at_ i x hi
    rw [mul_okr (by omega) (by omega)]
    simp (config := { implicitDefEqProofs := false }) only [R.bind_ok]
    rw [e, shl1_ok (by omega)]
    simp (config := { implicitDefEqProofs := false }) only [R.bind_ok, R.to_ok]
    rw [es, bor_n]
    exact os_nx rfl
  obtain ⟨b, e, eb⟩ := key
  rw [e, eb]
theorem cells_ok {w h : Int} (w0 : 1 ≤ w) (w1 : w ≤ 24) (h0 : 1 ≤ h) (h1 : h ≤ 24) {st : ST} (o : SOK w h st) : ∃ p cs, CL w p cs ∧ m_cells st = .ok cs ∧ m_cells_cut (w, h) st = .ok (orP p cs.length : Int) := by
  obtain ⟨a, b, c, d⟩ := st
  have n1 : 0 ≤ c ∧ c ≤ d ∧ d < 24 := by rcases o with o | o <;> dsimp only at o <;> omega
  have er : R.rng c (d + 1) = .ok (rng c (d + 1)) := rng_ok (by omega) (by omega) (by omega) (by omega)
  have el : (rng c (d + 1)).length ≤ 16777216 := by rw [rng_len]; omega
  have ge : ∀ (f : Int → Int × Int) (i : Nat) (z : Int × Int), ((rng c (d + 1)).map f)[i]? = some z → z = f (c + i) ∧ (i : Int) ≤ d - c := fun f i z hz => by
    rw [List.getElem?_map] at hz
    cases e : (rng c (d + 1))[i]? with
    | none => rw [e] at hz; cases hz
    | some y =>
      have hl := (List.getElem?_eq_some_iff.mp e).1
      rw [rng_len] at hl
      rw [e] at hz
      rw [rng_get' (by omega)] at e
      have e1 := Option.some.inj e
      have e2 := Option.some.inj hz
      exact ⟨by rw [← e2, ← e1], by omega⟩
  rcases o with ⟨e, h1', h2, h3, h4, h5⟩ | ⟨e, h1', h2, h3, h4, h5⟩
  · dsimp only at e h1' h2 h3 h4 h5
    subst e
    have hb : 0 ≤ b * w := Int.mul_nonneg h1' (by omega)
    have hb2 : b * w ≤ 24 * 24 := Int.mul_le_mul (by omega) w1 (by omega) (by omega)
    have C : CL w (fun i => (b * w + c).toNat + i) ((rng c (d + 1)).map fun x => (x, b)) := ⟨fun i z hz => by
      obtain ⟨e, h⟩ := ge _ i z hz
      subst e
      refine ⟨?_, by omega⟩
      show b * w + (c + (i : Int)) = (((b * w + c).toNat + i : Nat) : Int)
      omega, fun i => by omega, by rw [List.length_map, rng_len]; omega⟩
    refine ⟨_, _, C, ?_, ?_⟩
    · unfold m_cells m_cells_b
      simp (config := { implicitDefEqProofs := false }) only [lt4, R.bind_ok, er, lcM_ok el, R.to_ok]
      rw [if_pos (by decide +kernel)]
      rfl
    · unfold m_cells_cut m_cells_cut_b
      simp (config := { implicitDefEqProofs := false }) only [lt4, R.bind_ok, er, lcM_ok el, R.to_ok, seto2_ok (h := h) w0 w1 C]
      rw [if_pos (by decide +kernel)]
      rfl
  · dsimp only at e h1' h2 h3 h4 h5
    subst e
    have C : CL w (fun i => ((c + i) * w + b).toNat) ((rng c (d + 1)).map fun x => (b, x)) := ⟨fun i z hz => by
      obtain ⟨e, h⟩ := ge _ i z hz
      subst e
      have hb : 0 ≤ (c + (i : Int)) * w := Int.mul_nonneg (by omega) (by omega)
      have hb2 : (c + (i : Int)) * w ≤ 24 * 24 := Int.mul_le_mul (by omega) w1 (by omega) (by omega)
      refine ⟨?_, by omega⟩
      show (c + (i : Int)) * w + b = ((((c + (i : Int)) * w + b).toNat : Nat) : Int)
      omega, fun i => by
      have hb : 0 ≤ (c + (i : Int)) * w := Int.mul_nonneg (by omega) (by omega)
      have e : (c + ((i + 1 : Nat) : Int)) * w = (c + (i : Int)) * w + w := by
        rw [show c + ((i + 1 : Nat) : Int) = (c + (i : Int)) + 1 by omega, Int.add_mul, Int.one_mul]
      rw [e]
      omega, by rw [List.length_map, rng_len]; omega⟩
    refine ⟨_, _, C, ?_, ?_⟩
    · unfold m_cells m_cells_b
      simp (config := { implicitDefEqProofs := false }) only [lt4, R.bind_ok, er, lcM_ok el, R.to_ok]
      rw [if_neg (show ¬ decide (("column" : Str) = "row") = true by decide +kernel)]
      rfl
    · unfold m_cells_cut m_cells_cut_b
      simp (config := { implicitDefEqProofs := false }) only [lt4, R.bind_ok, er, lcM_ok el, R.to_ok, seto2_ok (h := h) w0 w1 C]
      rw [if_neg (show ¬ decide (("column" : Str) = "row") = true by decide +kernel)]
      rfl
/-! ### what is no stroke -/
def Sz (d : PyData) : Prop := ∀ l, d = .tuple l → l.length ≤ 1000 ∧ ∀ p r, l = p :: r → Hd p
structure Bd (w h : Int) (x : Dz) : Prop where
  s : Sz x.d
  b : liesD w h x.d = false
theorem sz_n {d : PyData} (h : ∀ l, d ≠ .tuple l) : Sz d := fun l e => absurd e (h l)
theorem sz_c {p : PyData} {r : List PyData} (hp : Hd p) (hr : r.length ≤ 999) : Sz (.tuple (p :: r)) := fun l e => by
  cases e
  exact ⟨by rw [List.length_cons]; omega, fun q s e => by cases e; exact hp⟩
theorem hd_row : Hd (.str "row") := .inr (by decide +kernel)
theorem hd_col : Hd (.str "column") := .inr (by decide +kernel)
theorem hd_rows : Hd (.str "rows") := .inr (by decide +kernel)
theorem hd_e : Hd (.str "") := .inr (by decide +kernel)
theorem hd_non : Hd .none := .inr (by decide +kernel)
theorem hd_nil : Hd (.list []) := .inr (by decide +kernel)
theorem cs_w1 : isS "row" (.str "rows") = false := by decide +kernel
theorem cs_w2 : isS "column" (.str "rows") = false := by decide +kernel
theorem cs_w3 : isS "row" (.str "") = false := by decide +kernel
theorem cs_w4 : isS "column" (.str "") = false := by decide +kernel
theorem cat_rs {w h : Int} {a : List Dz} {b : List Dz} {n : Nat} (A : ∀ x ∈ a, Bd w h x) (hp : 0 < a.length) (ha : a.length ≤ n) (B : ∀ x ∈ b, Bd w h x) (hb : b.length ≤ 9) (hn : n ≤ 80) : RS (fun l : List Dz => (∀ x ∈ l, Bd w h x) ∧ 0 < l.length ∧ l.length ≤ n + 9) (R.cat a b) := by
  refine ⟨a ++ b, ?_, fun x hx => (List.mem_append.mp hx).elim (A x) (B x), by rw [List.length_append]; omega, by rw [List.length_append]; omega⟩
  unfold R.cat
  exact if_pos (by rw [sl_eq]; omega)
section
variable {w h : Int} {p x y z : PyData}
theorem ld (p x y z : PyData) : liesD w h (.tuple [p, x, y, z]) = ((isS "row" p || isS "column" p) && (numD x && (numD y && (numD z && (if isS "column" p then decide (intD x < w) && (decide (intD y ≤ intD z) && decide (intD z < h)) else decide (intD x < h) && (decide (intD y ≤ intD z) && decide (intD z < w))))))) := rfl
theorem l_p (e1 : isS "row" p = false) (e2 : isS "column" p = false) : liesD w h (.tuple [p, x, y, z]) = false := by
  rw [ld, e1, e2]; rfl
theorem l_x (e : numD x = false) : liesD w h (.tuple [p, x, y, z]) = false := by
  rw [ld, e, Bool.false_and, Bool.and_false]
theorem l_y (e : numD y = false) : liesD w h (.tuple [p, x, y, z]) = false := by
  rw [ld, e, Bool.false_and, Bool.and_false, Bool.and_false]
theorem l_z (e : numD z = false) : liesD w h (.tuple [p, x, y, z]) = false := by
  rw [ld, e, Bool.false_and, Bool.and_false, Bool.and_false, Bool.and_false]
theorem l_o {b c d : Int} (e : (if isS "column" p = true then decide (b < w) && (decide (c ≤ d) && decide (d < h)) else decide (b < h) && (decide (c ≤ d) && decide (d < w))) = false) : liesD w h (.tuple [p, .int b, .int c, .int d]) = false := by
  rw [ld]
  show (_ && (_ && (_ && (_ && (if isS "column" p = true then decide (b < w) && (decide (c ≤ d) && decide (d < h)) else decide (b < h) && (decide (c ≤ d) && decide (d < w))))))) = false
  rw [e, Bool.and_false, Bool.and_false, Bool.and_false, Bool.and_false]
end
theorem ix_r (a b : Int) : R.ix [a, b] (if (decide (("row" : Str) = ("column" : Str))) then (1 : Int) else 0) = .ok a := by
  rw [if_neg (show ¬ decide (("row" : Str) = "column") = true by decide +kernel)]
  exact ix_nat (i := 0) (by simp)
theorem ix_c (a b : Int) : R.ix [a, b] (if (decide (("column" : Str) = ("column" : Str))) then (1 : Int) else 0) = .ok b := by
  rw [if_pos (show decide (("column" : Str) = "column") = true by decide +kernel)]
  exact ix_nat (i := 1) (by simp)
theorem spoil_ok {w h : Int} (w0 : 1 ≤ w) (h0 : 1 ≤ h) {st : ST} (o : SOK w h st) (num : Int) : RS (Bd w h) (m_spoiled (w, h) st num) := by
  unfold m_spoiled
  refine run_of ?_
  unfold m_spoiled_b
  obtain ⟨a, b, c, d⟩ := st
  have main : ∀ (li pl : Int) (ha : Hd (.str a)) (far1 : liesD w h (.tuple [.str a, .int li, .int c, .int d]) = false) (far2 : liesD w h (.tuple [.str a, .int b, .int c, .int pl]) = false) (far3 : liesD w h (.tuple [.str a, .int b, .int (d + 1), .int d]) = false), R.ix [h, w] (if (decide (a = ("column" : Str))) then (1 : Int) else 0) = .ok li → R.ix [w, h] (if (decide (a = ("column" : Str))) then (1 : Int) else 0) = .ok pl → OS (fun _ => False) (fun _ => False) (fun _ => False) (Bd w h) (m_spoiled_b (w, h) (T4.mk a b c d) num) := fun li pl ha far1 far2 far3 e1 e2 => by
    unfold m_spoiled_b
    simp (config := { implicitDefEqProofs := false }) only [lt4, R.bind_ok, e1, e2, R.to_ok]
    refine os_lt ?_
    have szs : ∀ {x y z : PyData}, Sz (.tuple [.str a, x, y, z]) := sz_c ha (by simp)
    refine os_to (cat_rs (w := w) (h := h) (n := 4) ?_ (by simp) (by simp) ?_ (by simp) (by decide)) fun l1 ⟨q1, p1, n1⟩ => ?_
    · simp only [List.forall_mem_cons]
      exact ⟨⟨szs, far1⟩, ⟨szs, far2⟩, ⟨szs, l_x rfl⟩, ⟨szs, l_y rfl⟩, fun x hx => nomatch hx⟩
    · simp only [List.forall_mem_cons]
      exact ⟨⟨szs, far3⟩, ⟨sz_c hd_rows (by simp), l_p cs_w1 cs_w2⟩, ⟨sz_c hd_e (by simp), l_p cs_w3 cs_w4⟩, fun x hx => nomatch hx⟩
    refine os_to (cat_rs (w := w) (h := h) (n := 13) q1 p1 n1 ?_ (by simp) (by decide)) fun l2 ⟨q2, p2, n2⟩ => ?_
    · simp only [List.forall_mem_cons]
      exact ⟨⟨szs, l_x rfl⟩, ⟨szs, l_y rfl⟩, ⟨szs, l_z rfl⟩, ⟨sz_c ha (by simp), rfl⟩, fun x hx => nomatch hx⟩
    refine os_to (cat_rs (w := w) (h := h) (n := 22) q2 p2 n2 ?_ (by simp) (by decide)) fun l3 ⟨q3, p3, n3⟩ => ?_
    · simp only [List.forall_mem_cons]
      exact ⟨⟨sz_c ha (by simp), rfl⟩, ⟨sz_n (fun _ e => (nomatch e)), rfl⟩, ⟨sz_n (fun _ e => (nomatch e)), rfl⟩, ⟨sz_n (fun _ e => (nomatch e)), rfl⟩, ⟨sz_n (fun _ e => (nomatch e)), rfl⟩, ⟨fun l e => by cases e; exact ⟨Nat.zero_le _, fun p r e => nomatch e⟩, rfl⟩, ⟨sz_c hd_non (by simp), l_p rfl rfl⟩, fun x hx => nomatch hx⟩
    refine os_to (cat_rs (w := w) (h := h) (n := 31) q3 p3 n3 ?_ (by simp) (by decide)) fun l4 ⟨q4, p4, n4⟩ => ?_
    · simp only [List.forall_mem_cons]
      exact ⟨⟨sz_c hd_nil (by simp), l_p rfl rfl⟩, ⟨sz_c (.inl rfl) (by simp), l_p rfl rfl⟩, ⟨szs, l_x rfl⟩, fun x hx => nomatch hx⟩
    rw [apd_ok (by omega), R.to_ok]
    have q5 : ∀ x ∈ l4 ++ [dzOf (T4.mk a b c true)], Bd w h x := fun x hx => by
      rcases List.mem_append.mp hx with z | z
      · exact q4 x z
      · rw [List.mem_singleton.mp z]
        exact ⟨szs, l_z rfl⟩
    have hp6 : (0 : Int) < ((l4 ++ [dzOf (T4.mk a b c true)]).length : Int) := by rw [List.length_append, List.length_singleton]; omega
    generalize l4 ++ [dzOf (T4.mk a b c true)] = l6 at q5 hp6
    have a0 := Int.emod_nonneg num (show (l6.length : Int) ≠ 0 by omega)
    have a1 := Int.emod_lt_of_pos num hp6
    rw [mod_ok hp6]
    simp (config := { implicitDefEqProofs := false }) only [R.bind_ok]
    rw [ix_ok a0 (by omega), R.to_ok]
    exact os_rt (q5 _ (List.getElem_mem _))
  have M := main
  unfold m_spoiled_b at M
  rcases o with ⟨e, h1', h2, h3, h4, h5⟩ | ⟨e, h1', h2, h3, h4, h5⟩
  · dsimp only at e h1' h2 h3 h4 h5
    subst e
    refine M h w hd_row (l_o ?_) (l_o ?_) (l_o ?_) (ix_r h w) (ix_r w h)
    · rw [cs_cr, if_neg Bool.false_ne_true, decide_eq_false (show ¬ h < h by omega), Bool.false_and]
    · rw [cs_cr, if_neg Bool.false_ne_true, decide_eq_false (show ¬ w < w by omega), Bool.and_false, Bool.and_false]
    · rw [cs_cr, if_neg Bool.false_ne_true, decide_eq_false (show ¬ d + 1 ≤ d by omega), Bool.false_and, Bool.and_false]
  · dsimp only at e h1' h2 h3 h4 h5
    subst e
    refine M w h hd_col (l_o ?_) (l_o ?_) (l_o ?_) (ix_c h w) (ix_c w h)
    · rw [cs_cc, if_pos rfl, decide_eq_false (show ¬ w < w by omega), Bool.false_and]
    · rw [cs_cc, if_pos rfl, decide_eq_false (show ¬ h < h by omega), Bool.and_false, Bool.and_false]
    · rw [cs_cc, if_pos rfl, decide_eq_false (show ¬ d + 1 ≤ d by omega), Bool.false_and, Bool.and_false]
theorem law_true (ns : List Int) (hns : ns.length ≤ 63) : m_law ⟨ns⟩ = .ok true := by
  obtain ⟨c1, e1, _⟩ := cell_ok ⟨ns⟩ 1 (by decide) (by decide)
  obtain ⟨⟨w, h⟩, es, w0, w1, h0, h1⟩ := size_ok c1
  dsimp only at w0 w1 h0 h1
  have key : RS (fun b => b = true) (m_law ⟨ns⟩) := by
    unfold m_law
    refine run_of ?_
    unfold m_law_b
    simp (config := { implicitDefEqProofs := false }) only [R.bind_ok, R.to_ok, e1, es]
    generalize hq : (if (if (62 : Int) < (ns.length : Int) then (62 : Int) else (ns.length : Int)) > (3 : Int) then (if (62 : Int) < (ns.length : Int) then (62 : Int) else (ns.length : Int)) else (3 : Int)) = q
    have q1 : 3 ≤ q ∧ q ≤ 62 := by subst hq; split <;> split <;> omega
    rw [rng_ok (by decide) (by decide) (by omega) (by omega), R.to_ok]
    refine os_bind (M := fun _ : Unit => True) (os_for (fun _ _ => True) trivial (fun i x _ hx _ => ?_) fun _ _ => trivial) fun _ _ => os_rt rfl
    have hx := rng_mem (List.mem_of_getElem? hx)
    obtain ⟨c2, e2, _⟩ := cell_ok ⟨ns⟩ x (by omega) (by omega)
    obtain ⟨m, em, _⟩ := mixed_ok c2 0 (by decide) (by decide)
    obtain ⟨m1, em1, _⟩ := mixed_ok c2 1 (by decide) (by decide)
    obtain ⟨st, est, o⟩ := stroke_ok w0 w1 h0 h1 m
    obtain ⟨p, cs, C, ec, ecut⟩ := cells_ok w0 w1 h0 h1 o
    obtain ⟨sp, esp, bs, bb⟩ := spoil_ok w0 h0 o m1
    have lg : m_lies_on (w, h) (dzOf st) = .ok true := by
      have := lies_ok w h (Dm.toX st) (fun l e => by
        cases e
        refine ⟨by show 4 ≤ 1000; decide, fun p r e => ?_⟩
        cases e
        rcases o with o | o
        · rw [show Dm.toX st.a = .str st.a from rfl, o.1]; exact hd_row
        · rw [show Dm.toX st.a = .str st.a from rfl, o.1]; exact hd_col)
      rw [lies_good o] at this
      exact this
    have lb : m_lies_on (w, h) sp = .ok false := by
      obtain ⟨sd⟩ := sp
      rw [lies_ok w h sd bs, bb]
    simp (config := { implicitDefEqProofs := false }) only [R.bind_ok, R.to_ok, e2, em, em1, est, ec]
    refine os_lt ?_
    refine os_bind (M := fun s : Int => s = (orP p cs.length : Int)) (os_for (fun i s => s = (orP p i : Int)) rfl (fun i x s hi es => ?_) fun s q => q) fun s es => ?_
    · obtain ⟨e, hl⟩ := C.at_ i x hi
      rw [mul_okr (by omega) (by omega)]
      simp (config := { implicitDefEqProofs := false }) only [R.bind_ok]
      rw [e, shl1_ok (by omega)]
      simp (config := { implicitDefEqProofs := false }) only [R.bind_ok, R.to_ok]
      rw [es]
      refine os_nx ?_
      rw [← orP_add C.mo]
      exact (Int.natCast_add _ _).symm
    · subst es
      simp (config := { implicitDefEqProofs := false }) only [lg, ecut, esp, lb, R.bind_ok, R.to_ok, R.or, decide_true, Bool.not_true, Bool.false_eq_true, if_false]
      exact os_nx trivial
  obtain ⟨b, e, eb⟩ := key
  rw [e, eb]
end Ma

namespace Wk
open PySem PySem.Spec PyProof.Rows L2 Fw Mir
def topS (i : Nat) : Stmt := PySem.Challenge.pw_lostblock_k27_strokes_and_cells.main.body.getD i (.Pass ⟨0, 0, 0, 0⟩)
abbrev s_cell : Stmt := topS 7
abbrev N_cell : List Str := ["_law_script", "_law_k", "_law_number"]
theorem sc_cell : FnScope N_cell ["_law_script", "_law_k"] (defScope s_cell) := ⟨rfl, rfl, rfl, by decide +kernel, rfl, by decide +kernel, by decide +kernel⟩
abbrev s_mixed : Stmt := topS 8
abbrev N_mixed : List Str := ["_law_cell_here", "_law_k", "_law_number"]
theorem sc_mixed : FnScope N_mixed ["_law_cell_here", "_law_k"] (defScope s_mixed) := ⟨rfl, rfl, rfl, by decide +kernel, rfl, by decide +kernel, by decide +kernel⟩
abbrev s_size : Stmt := topS 9
abbrev N_size : List Str := ["_law_cell_here", "_law_number"]
theorem sc_size : FnScope N_size ["_law_cell_here"] (defScope s_size) := ⟨rfl, rfl, rfl, by decide +kernel, rfl, by decide +kernel, by decide +kernel⟩
abbrev s_stroke : Stmt := topS 11
abbrev N_stroke : List Str := ["_law_size_here", "_law_number", "_law_way", "_law_lines", "_law_places", "_law_first", "_law_rest"]
theorem sc_stroke : FnScope N_stroke ["_law_size_here", "_law_number"] (defScope s_stroke) := ⟨rfl, rfl, rfl, by decide +kernel, rfl, by decide +kernel, by decide +kernel⟩
abbrev s_cells : Stmt := topS 10
abbrev N_cells : List Str := ["_law_stroke_here", "_law_way", "_law_line", "_law_first", "_law_last", "_law_place"]
theorem sc_cells : FnScope N_cells ["_law_stroke_here"] (defScope s_cells) := ⟨rfl, rfl, rfl, by decide +kernel, rfl, by decide +kernel, by decide +kernel⟩
abbrev s_is_number : Stmt := topS 3
abbrev N_is_number : List Str := ["thing"]
theorem sc_is_number : FnScope N_is_number ["thing"] (defScope s_is_number) := ⟨rfl, rfl, rfl, by decide +kernel, rfl, by decide +kernel, by decide +kernel⟩
abbrev s_lies_on : Stmt := topS 4
abbrev N_lies_on : List Str := ["size", "thing", "part", "lines", "places"]
theorem sc_lies_on : FnScope N_lies_on ["size", "thing"] (defScope s_lies_on) := ⟨rfl, rfl, rfl, by decide +kernel, rfl, by decide +kernel, by decide +kernel⟩
abbrev s_set_of : Stmt := topS 1
abbrev N_set_of : List Str := ["size", "cells", "found", "column", "row"]
theorem sc_set_of : FnScope N_set_of ["size", "cells"] (defScope s_set_of) := ⟨rfl, rfl, rfl, by decide +kernel, rfl, by decide +kernel, by decide +kernel⟩
abbrev s_cells_cut : Stmt := topS 5
abbrev N_cells_cut : List Str := ["size", "stroke", "way", "line", "first", "last", "column", "row"]
theorem sc_cells_cut : FnScope N_cells_cut ["size", "stroke"] (defScope s_cells_cut) := ⟨rfl, rfl, rfl, by decide +kernel, rfl, by decide +kernel, by decide +kernel⟩
abbrev s_spoiled : Stmt := topS 12
abbrev N_spoiled : List Str := ["_law_size_here", "_law_stroke_here", "_law_number", "_law_way", "_law_line", "_law_first", "_law_last", "_law_lines", "_law_places", "_law_some"]
theorem sc_spoiled : FnScope N_spoiled ["_law_size_here", "_law_stroke_here", "_law_number"] (defScope s_spoiled) := ⟨rfl, rfl, rfl, by decide +kernel, rfl, by decide +kernel, by decide +kernel⟩
abbrev s_law : Stmt := topS 13
abbrev N_law : List Str := ["_law_script", "_law_size_here", "_law_k", "_law_stroke_here", "_law_due", "_law_column", "_law_row"]
theorem sc_law : FnScope N_law ["_law_script"] (defScope s_law) := ⟨rfl, rfl, rfl, by decide +kernel, rfl, by decide +kernel, by decide +kernel⟩
structure Glb (mg : Str → Option Value) : Prop where
  b_bool : mg "bool" = none
  b_int : mg "int" = none
  b_isinstance : mg "isinstance" = none
  b_len : mg "len" = none
  b_max : mg "max" = none
  b_min : mg "min" = none
  b_range : mg "range" = none
  b_tuple : mg "tuple" = none
structure Cal (P : Program) (w : World) (K : Frag) (mg : Str → Option Value) (base : Heap) (x : Str) (k : Nat) (ps : List Str) (sp : Sp) : Prop where
  ex : ∃ (f : Addr) (fd : FuncData), mg x = some (.ref f) ∧ PySem.W.keepIn K (.ref f) = true ∧ Binds K fd ps [] ∧ FnOk P w K mg base (L2.CX P w) k f fd ps sp
structure Raw (K : Frag) (mg : Str → Option Value) (x y : Str) (st : Stmt) : Prop where
  ex : ∃ (f : Addr) (fd : FuncData), mg x = some (.ref f) ∧ Fun K y y st f fd
section
variable {P : Program} {w : World} {c : Cn} {mg : Str → Option Value} {base : Heap}
theorem ok_m_cell_F (T : Glb mg) {f : Addr} {fd : FuncData} (F : Fun c.K "_law_cell" "_law_cell" s_cell f fd) :
    FnOk P w c.K mg base (L2.CX P w) 1 f fd ["_law_script", "_law_k"] (spF c (fun x : (Sq Int) × Int × Unit => m_cell x.1 x.2.1) (fun x : Int => kFr c.K x)) := by
  have nd := sc_cell.nd
  refine F.okX sc_cell (fun vs H Q E h => spF_len vs H Q E h) (fun cdv A outer s H vs Q E hr h => ?_)
  refine ⟨_, (pss_cons (ps_if (pt_cmpR op_lt (pv 1) (pe_callB (r := Fw.rLen c.K) call_len_seq (by rfl) T.b_len (by decide +kernel) (pa_cons (pv 0) pa_nil)) (nomark _)) (pss_cons (ps_ret (pe_ix (r := rIxL c.K) ix_list (pv 0) (pv 1) (fun _ _ => rfl))) pss_nil) pss_nil) (pss_cons (ps_set (i := 2) nd rfl (by first | exact Or.inl rfl | exact Or.inr rfl) (pe_op op_add (pe_op op_mul (pv 1) (pv 1)) pe_int)) (pss_cons (ps_if (pt_cmpR op_gt (pe_callB (r := Fw.rLen c.K) call_len_seq (by rfl) T.b_len (by decide +kernel) (pa_cons (pv 0) pa_nil)) pe_int (nomark _)) (pss_cons (ps_set (i := 2) nd rfl (by first | exact Or.inl rfl | exact Or.inr rfl) (pe_op op_add (pv 2) (pe_op op_mod (pe_ix (r := rIxL c.K) ix_list (pv 0) (pe_op op_mod (pe_op op_mul (pv 1) pe_int) (pe_callB (r := Fw.rLen c.K) call_len_seq (by rfl) T.b_len (by decide +kernel) (pa_cons (pv 0) pa_nil))) (fun _ _ => rfl)) pe_int))) pss_nil) pss_nil) (pss_cons (ps_ret (pe_op op_mod (pe_op op_mul (pv 2) (pv 2)) pe_int)) pss_nil)))), ?_⟩
  have hm : ∀ x : (Sq Int) × Int × Unit, (fun x : (Sq Int) × Int × Unit => m_cell x.1 x.2.1) x = (m_cell_b x.1 x.2.1).run := fun _ => by unfold m_cell; rfl
  have hN : N_cell.length = Args.num ((Sq Int) × Int × Unit) + 1 := rfl
  refine fn_run (Bs := fun _ => uns 3) (n := 1) (m := fun x => m_cell_b x.1 x.2.1) h ?hN ?hm ?hd
  case hN => exact hN
  case hm => exact hm
  intro W x
  obtain ⟨v_script, v_k, ⟨⟩⟩ := x
  show Den _ _ _ _ _ _ _ [(.fr v_script), (.fr v_k), .un] (m_cell_b v_script v_k) (fun _ => uns 3)
  unfold m_cell_b
  exact (d_ifap (t_e (e_op2 (o_cmp fun i j => decide (i < j)) (e_var 1) (e_opA (x := (v_script.l, ())) o_lenL (a_cons (e_shQ (e_var 0)) a_nil) rfl) rfl)) (d_retR (wk_uns rfl) (r_op2 o_ixL (exr_p (e_shQ (e_var 0))) (exr_p (e_var 1)))) (d_get 2 (wk_uns rfl) (r_op2 (o_int fun i j => i + j) (r_op2 o_mul (exr_p (e_var 1)) (exr_p (e_var 1))) (exr_p (e_int _))) fun v_number_7 => (d_ifp (Bs := (fun (s8 : Int) => [(.fr v_script), (.fr v_k), (.fr s8)])) (t_e (e_op2 (o_cmp fun i j => decide (j < i)) (e_opA (x := (v_script.l, ())) o_lenL (a_cons (e_shQ (e_var 0)) a_nil) rfl) (e_int _) rfl)) (d_get 2 (wk_uns rfl) (r_op2 (o_int fun i j => i + j) (exr_p (e_var 2)) (r_cr (fun _ => (by decide : (0 : Int) < 2147483629)) (r_op2 o_ixL (exr_p (e_shQ (e_var 0))) (r_op2 o_mod (exr_p (e_cr (fun _ => Or.inr ⟨by decide, by decide⟩) (e_var 1) (e_int _) rfl)) (exr_p (e_opA (x := (v_script.l, ())) o_lenL (a_cons (e_shQ (e_var 0)) a_nil) rfl)))) (e_int _))) fun v_number_19 => (d_nx (.same (.same (.same .nil))))) (d_nx (.same (.same (.same .nil)))) (fun s8 => (d_retR (wk_uns rfl) (r_cr (fun _ => (by decide : (0 : Int) < 2147483629)) (r_op2 o_mul (exr_p (e_var 2)) (exr_p (e_var 2))) (e_int _)))))))
theorem ok_m_cell (T : Glb mg) (R0 : Raw c.K mg "_law_cell" "_law_cell" s_cell) :
    Cal P w c.K mg base "_law_cell" 1 ["_law_script", "_law_k"] (spF c (fun x : (Sq Int) × Int × Unit => m_cell x.1 x.2.1) (fun x : Int => kFr c.K x)) := by
  obtain ⟨f, fd, gf, F⟩ := R0.ex
  exact ⟨f, fd, gf, F.kp, F.binds fun _ _ _ _ _ _ us hl => match us, hl with | [_, _], _ => rfl, ok_m_cell_F T F⟩
theorem ok_m_mixed_F (T : Glb mg) {f : Addr} {fd : FuncData} (F : Fun c.K "_law_mixed" "_law_mixed" s_mixed f fd) :
    FnOk P w c.K mg base (L2.CX P w) 1 f fd ["_law_cell_here", "_law_k"] (spF c (fun x : Int × Int × Unit => m_mixed x.1 x.2.1) (fun x : Int => kFr c.K x)) := by
  have nd := sc_mixed.nd
  refine F.okX sc_mixed (fun vs H Q E h => spF_len vs H Q E h) (fun cdv A outer s H vs Q E hr h => ?_)
  refine ⟨_, (pss_cons (ps_if (pt_cmpR op_ge (pv 0) (pe_op op_pow pe_int pe_int) (nomark _)) (pss_cons (ps_ret (pe_op op_and (pe_op op_shr (pv 0) (pe_op op_mul pe_int (pv 1))) pe_int)) pss_nil) pss_nil) (pss_cons (ps_set (i := 2) nd rfl (by first | exact Or.inl rfl | exact Or.inr rfl) (pe_op op_mod (pe_op op_mul (pe_op op_add (pe_op op_add (pe_op op_add (pe_op op_mod (pv 0) pe_int) (pe_op op_mul (pe_op op_mul pe_int (pv 1)) (pv 1))) (pv 1)) pe_int) pe_int) pe_int)) (pss_cons (ps_set (i := 2) nd rfl (by first | exact Or.inl rfl | exact Or.inr rfl) (pe_op op_mod (pe_op op_mul (pv 2) (pv 2)) pe_int)) (pss_cons (ps_ret (pe_op op_mod (pe_op op_mul (pe_op op_add (pv 2) (pv 1)) pe_int) pe_int)) pss_nil)))), ?_⟩
  have hm : ∀ x : Int × Int × Unit, (fun x : Int × Int × Unit => m_mixed x.1 x.2.1) x = (m_mixed_b x.1 x.2.1).run := fun _ => by unfold m_mixed; rfl
  have hN : N_mixed.length = Args.num (Int × Int × Unit) + 1 := rfl
  refine fn_run (Bs := fun _ => uns 3) (n := 1) (m := fun x => m_mixed_b x.1 x.2.1) h ?hN ?hm ?hd
  case hN => exact hN
  case hm => exact hm
  intro W x
  obtain ⟨v_cell_here, v_k, ⟨⟩⟩ := x
  show Den _ _ _ _ _ _ _ [(.fr v_cell_here), (.fr v_k), .un] (m_mixed_b v_cell_here v_k) (fun _ => uns 3)
  unfold m_mixed_b
  exact (d_ifap (t_e (e_op2 (o_cmp fun i j => decide (j ≤ i)) (e_var 0) (e_cc ⟨by decide, by decide, by decide⟩ (e_int _) (e_int _) rfl) rfl)) (d_retR (wk_uns rfl) (r_op2 (o_int Builtin.bitAnd) (r_op2 o_shr (exr_p (e_var 0)) (exr_p (e_cl (fun _ => Or.inl ⟨by decide, by decide⟩) (e_int _) (e_var 1) rfl))) (exr_p (e_int _)))) (d_get 2 (wk_uns rfl) (r_cr (fun _ => (by decide : (0 : Int) < 2147483587)) (r_cr (fun _ => Or.inr ⟨by decide, by decide⟩) (r_op2 (o_int fun i j => i + j) (r_op2 (o_int fun i j => i + j) (r_op2 (o_int fun i j => i + j) (exr_p (e_cr (fun _ => (by decide : (0 : Int) < 2147483629)) (e_var 0) (e_int _) rfl)) (r_op2 o_mul (exr_p (e_cl (fun _ => Or.inl ⟨by decide, by decide⟩) (e_int _) (e_var 1) rfl)) (exr_p (e_var 1)))) (exr_p (e_var 1))) (exr_p (e_int _))) (e_int _)) (e_int _)) fun v_number_15 => (d_get 2 (wk_uns rfl) (r_cr (fun _ => (by decide : (0 : Int) < 2147483629)) (r_op2 o_mul (exr_p (e_var 2)) (exr_p (e_var 2))) (e_int _)) fun v_number_19 => (d_ret (e_cr (fun _ => (by decide : (0 : Int) < 2147483563)) (e_cr (fun _ => Or.inr ⟨by decide, by decide⟩) (e_op2 (o_int fun i j => i + j) (e_var 2) (e_var 1) rfl) (e_int _) rfl) (e_int _) rfl)))))
theorem ok_m_mixed (T : Glb mg) (R0 : Raw c.K mg "_law_mixed" "_law_mixed" s_mixed) :
    Cal P w c.K mg base "_law_mixed" 1 ["_law_cell_here", "_law_k"] (spF c (fun x : Int × Int × Unit => m_mixed x.1 x.2.1) (fun x : Int => kFr c.K x)) := by
  obtain ⟨f, fd, gf, F⟩ := R0.ex
  exact ⟨f, fd, gf, F.kp, F.binds fun _ _ _ _ _ _ us hl => match us, hl with | [_, _], _ => rfl, ok_m_mixed_F T F⟩
theorem ok_m_size_F (T : Glb mg) {f : Addr} {fd : FuncData} (F : Fun c.K "_law_size" "_law_size" s_size f fd)
    (C_m_mixed : Cal P w c.K mg base "_law_mixed" 1 ["_law_cell_here", "_law_k"] (spF c (fun x : Int × Int × Unit => m_mixed x.1 x.2.1) (fun x : Int => kFr c.K x))) :
    FnOk P w c.K mg base (L2.CX P w) 2 f fd ["_law_cell_here"] (spF c (fun x : Int × Unit => m_size x.1) (fun x : (Int × Int) => kFr c.K x)) := by
  obtain ⟨f_m_mixed, fd_m_mixed, g_m_mixed, k_m_mixed, b_m_mixed, G_m_mixed⟩ := C_m_mixed.ex
  have nd := sc_size.nd
  refine F.okX sc_size (fun vs H Q E h => spF_len vs H Q E h) (fun cdv A outer s H vs Q E hr h => ?_)
  refine ⟨_, (pss_cons (ps_set (i := 1) nd rfl (by first | exact Or.inl rfl | exact Or.inr rfl) (pe_callS G_m_mixed (hr.mono (by decide)) (by rfl) g_m_mixed k_m_mixed b_m_mixed (fun σ => passAt (takes_of rfl rfl rfl rfl) σ) (pa_cons (pv 0) (pa_cons pe_int pa_nil)))) (pss_cons (ps_if (pt_cmpR op_eq (pe_op op_mod (pe_callS G_m_mixed (hr.mono (by decide)) (by rfl) g_m_mixed k_m_mixed b_m_mixed (fun σ => passAt (takes_of rfl rfl rfl rfl) σ) (pa_cons (pv 0) (pa_cons pe_int pa_nil))) pe_int) pe_int (nomark _)) (pss_cons (ps_ret (pe_tup (pa_cons (pe_op op_add pe_int (pe_op op_mod (pv 1) pe_int)) (pa_cons (pe_op op_add pe_int (pe_op op_mod (pe_op op_fdiv (pv 1) pe_int) pe_int)) pa_nil)))) pss_nil) pss_nil) (pss_cons (ps_ret (pe_tup (pa_cons (pe_op op_add pe_int (pe_op op_mod (pv 1) pe_int)) (pa_cons (pe_op op_add pe_int (pe_op op_mod (pe_op op_fdiv (pv 1) pe_int) pe_int)) pa_nil)))) pss_nil))), ?_⟩
  have hm : ∀ x : Int × Unit, (fun x : Int × Unit => m_size x.1) x = (m_size_b x.1).run := fun _ => by unfold m_size; rfl
  have hN : N_size.length = Args.num (Int × Unit) + 1 := rfl
  refine fn_run (Bs := fun _ => uns 2) (n := 1) (m := fun x => m_size_b x.1) h ?hN ?hm ?hd
  case hN => exact hN
  case hm => exact hm
  intro W x
  obtain ⟨v_cell_here, ⟨⟩⟩ := x
  show Den _ _ _ _ _ _ _ [(.fr v_cell_here), .un] (m_size_b v_cell_here) (fun _ => uns 2)
  unfold m_size_b
  exact (d_get 1 (wk_uns rfl) (r_call1 (aa_cons (e_var 0) (aa_cons (e_int _) aa_nil)) rfl) fun v_number_1 => (d_ifa (wk_uns rfl) (tr_e (r_op2 o_eq (r_cr (fun _ => (by decide : (0 : Int) < 8)) (r_call1 (aa_cons (e_var 0) (aa_cons (e_int _) aa_nil)) rfl) (e_int _)) (exr_p (e_int _)))) (d_ret (e_pair (a_cons (e_op2 (o_int fun i j => i + j) (e_int _) (e_cr (fun _ => (by decide : (0 : Int) < 24)) (e_var 1) (e_int _) rfl) rfl) (a_cons (e_op2 (o_int fun i j => i + j) (e_int _) (e_cr (fun _ => (by decide : (0 : Int) < 24)) (e_cr (fun _ => (⟨by decide, by decide⟩ : CDiv _ 24)) (e_var 1) (e_int _) rfl) (e_int _) rfl) rfl) a_nil)))) (d_ret (e_pair (a_cons (e_op2 (o_int fun i j => i + j) (e_int _) (e_cr (fun _ => (by decide : (0 : Int) < 6)) (e_var 1) (e_int _) rfl) rfl) (a_cons (e_op2 (o_int fun i j => i + j) (e_int _) (e_cr (fun _ => (by decide : (0 : Int) < 6)) (e_cr (fun _ => (⟨by decide, by decide⟩ : CDiv _ 6)) (e_var 1) (e_int _) rfl) (e_int _) rfl) rfl) a_nil))))))
theorem ok_m_size (T : Glb mg) (R0 : Raw c.K mg "_law_size" "_law_size" s_size)
    (C_m_mixed : Cal P w c.K mg base "_law_mixed" 1 ["_law_cell_here", "_law_k"] (spF c (fun x : Int × Int × Unit => m_mixed x.1 x.2.1) (fun x : Int => kFr c.K x))) :
    Cal P w c.K mg base "_law_size" 2 ["_law_cell_here"] (spF c (fun x : Int × Unit => m_size x.1) (fun x : (Int × Int) => kFr c.K x)) := by
  obtain ⟨f, fd, gf, F⟩ := R0.ex
  exact ⟨f, fd, gf, F.kp, F.binds fun _ _ _ _ _ _ us hl => match us, hl with | [_], _ => rfl, ok_m_size_F T F C_m_mixed⟩
theorem ok_m_stroke_F (T : Glb mg) {f : Addr} {fd : FuncData} (F : Fun c.K "_law_stroke" "_law_stroke" s_stroke f fd) :
    FnOk P w c.K mg base (L2.CX P w) 1 f fd ["_law_size_here", "_law_number"] (spF c (fun x : (Int × Int) × Int × Unit => m_stroke x.1 x.2.1) (fun x : (T4 Str Int Int Int) => kFr c.K x)) := by
  have nd := sc_stroke.nd
  refine F.okX sc_stroke (fun vs H Q E h => spF_len vs H Q E h) (fun cdv A outer s H vs Q E hr h => ?_)
  refine ⟨_, (pss_cons (ps_set (i := 2) nd rfl (by first | exact Or.inl rfl | exact Or.inr rfl) (pe_ix (r := rIxL c.K) ix_list (pe_lst (pa_cons pe_str (pa_cons pe_str pa_nil))) (pe_op op_mod (pv 1) pe_int) (fun _ _ => rfl))) (pss_cons (ps_set (i := 3) nd rfl (by first | exact Or.inl rfl | exact Or.inr rfl) (pe_ix (r := rIxL c.K) ix_list (pe_lst (pa_cons (pe_ix (r := rIxT c.K) ix_tup (pv 0) pe_int (fun _ _ => rfl)) (pa_cons (pe_ix (r := rIxT c.K) ix_tup (pv 0) pe_int (fun _ _ => rfl)) pa_nil))) (pe_op op_mod (pv 1) pe_int) (fun _ _ => rfl))) (pss_cons (ps_set (i := 4) nd rfl (by first | exact Or.inl rfl | exact Or.inr rfl) (pe_ix (r := rIxL c.K) ix_list (pe_lst (pa_cons (pe_ix (r := rIxT c.K) ix_tup (pv 0) pe_int (fun _ _ => rfl)) (pa_cons (pe_ix (r := rIxT c.K) ix_tup (pv 0) pe_int (fun _ _ => rfl)) pa_nil))) (pe_op op_mod (pv 1) pe_int) (fun _ _ => rfl))) (pss_cons (ps_set (i := 5) nd rfl (by first | exact Or.inl rfl | exact Or.inr rfl) (pe_op op_mod (pe_op op_fdiv (pv 1) (pe_op op_mul pe_int (pv 3))) (pv 4))) (pss_cons (ps_set (i := 6) nd rfl (by first | exact Or.inl rfl | exact Or.inr rfl) (pe_op op_fdiv (pv 1) (pe_op op_mul (pe_op op_mul pe_int (pv 3)) (pv 4)))) (pss_cons (ps_ret (pe_tup (pa_cons (pv 2) (pa_cons (pe_op op_mod (pe_op op_fdiv (pv 1) pe_int) (pv 3)) (pa_cons (pv 5) (pa_cons (pe_op op_add (pv 5) (pe_op op_mod (pv 6) (pe_op op_sub (pv 4) (pv 5)))) pa_nil)))))) pss_nil)))))), ?_⟩
  have hm : ∀ x : (Int × Int) × Int × Unit, (fun x : (Int × Int) × Int × Unit => m_stroke x.1 x.2.1) x = (m_stroke_b x.1 x.2.1).run := fun _ => by unfold m_stroke; rfl
  have hN : N_stroke.length = Args.num ((Int × Int) × Int × Unit) + 5 := rfl
  refine fn_run (Bs := fun _ => uns 7) (n := 5) (m := fun x => m_stroke_b x.1 x.2.1) h ?hN ?hm ?hd
  case hN => exact hN
  case hm => exact hm
  intro W x
  obtain ⟨v_size_here, v_number, ⟨⟩⟩ := x
  show Den _ _ _ _ _ _ _ [(.fr v_size_here), (.fr v_number), .un, .un, .un, .un, .un] (m_stroke_b v_size_here v_number) (fun _ => uns 7)
  unfold m_stroke_b
  exact (d_get 2 (wk_uns rfl) (r_op2 o_ixL (exr_p (e_shN (e_lst (xs := [("row" : Str), ("column" : Str)]) (a_cons (e_str _) (a_cons (e_str _) a_nil)) (szl (n := 2) rfl (by decide))))) (exr_p (e_cr (fun _ => (by decide : (0 : Int) < 2)) (e_var 1) (e_int _) rfl))) fun v_way_3 => (d_get 3 (wk_uns rfl) (r_op2 o_ixL (exr_p (e_shN (e_lst (xs := [v_size_here.2, v_size_here.1]) (a_cons (e_ixc (x := v_size_here) p_1 (e_var 0) (e_int _) rfl) (a_cons (e_ixc (x := v_size_here) p_0 (e_var 0) (e_int _) rfl) a_nil)) (szl (n := 2) rfl (by decide))))) (exr_p (e_cr (fun _ => (by decide : (0 : Int) < 2)) (e_var 1) (e_int _) rfl))) fun v_lines_6 => (d_get 4 (wk_uns rfl) (r_op2 o_ixL (exr_p (e_shN (e_lst (xs := [v_size_here.1, v_size_here.2]) (a_cons (e_ixc (x := v_size_here) p_0 (e_var 0) (e_int _) rfl) (a_cons (e_ixc (x := v_size_here) p_1 (e_var 0) (e_int _) rfl) a_nil)) (szl (n := 2) rfl (by decide))))) (exr_p (e_cr (fun _ => (by decide : (0 : Int) < 2)) (e_var 1) (e_int _) rfl))) fun v_places_9 => (d_get 5 (wk_uns rfl) (r_op2 o_mod (r_op2 o_fdiv (exr_p (e_var 1)) (exr_p (e_cl (fun _ => Or.inl ⟨by decide, by decide⟩) (e_int _) (e_var 3) rfl))) (exr_p (e_var 4))) fun v_first_14 => (d_get 6 (wk_uns rfl) (r_op2 o_fdiv (exr_p (e_var 1)) (r_op2 o_mul (exr_p (e_cl (fun _ => Or.inl ⟨by decide, by decide⟩) (e_int _) (e_var 3) rfl)) (exr_p (e_var 4)))) fun v_rest_19 => (d_retR (wk_uns rfl) (r_t4 (ar_cons (k := fun (x : Str) => kFr c.K x) (exr_p (e_var 2)) (ar_cons (k := fun (x : Int) => kFr c.K x) (r_op2 o_mod (exr_p (e_cr (fun _ => (⟨by decide, by decide⟩ : CDiv _ 2)) (e_var 1) (e_int _) rfl)) (exr_p (e_var 3))) (ar_cons (k := fun (x : Int) => kFr c.K x) (exr_p (e_var 5)) (ar_cons (k := fun (x : Int) => kFr c.K x) (r_op2 (o_int fun i j => i + j) (exr_p (e_var 5)) (r_op2 o_mod (exr_p (e_var 6)) (exr_p (e_op2 (o_int fun i j => i - j) (e_var 4) (e_var 5) rfl)))) (axr_p (k := fun _ => aNil) a_nil))))))))))))
theorem ok_m_stroke (T : Glb mg) (R0 : Raw c.K mg "_law_stroke" "_law_stroke" s_stroke) :
    Cal P w c.K mg base "_law_stroke" 1 ["_law_size_here", "_law_number"] (spF c (fun x : (Int × Int) × Int × Unit => m_stroke x.1 x.2.1) (fun x : (T4 Str Int Int Int) => kFr c.K x)) := by
  obtain ⟨f, fd, gf, F⟩ := R0.ex
  exact ⟨f, fd, gf, F.kp, F.binds fun _ _ _ _ _ _ us hl => match us, hl with | [_, _], _ => rfl, ok_m_stroke_F T F⟩
theorem ok_m_cells_F (T : Glb mg) {f : Addr} {fd : FuncData} (F : Fun c.K "_law_cells" "_law_cells" s_cells f fd) :
    FnOk P w c.K mg base (L2.CX P w) 1 f fd ["_law_stroke_here"] (spF c (fun x : (T4 Str Int Int Int) × Unit => m_cells x.1) (fun x : (List (Int × Int)) => kNw c.K x)) := by
  have nd := sc_cells.nd
  refine F.okX sc_cells (fun vs H Q E h => spF_len vs H Q E h) (fun cdv A outer s H vs Q E hr h => ?_)
  refine ⟨_, (pss_cons (ps_asg (pv 0) (pg_tup (by rfl) (pgs_cons (pg_name (i := 1) nd rfl (by first | exact Or.inl rfl | exact Or.inr rfl)) (pgs_cons (pg_name (i := 2) nd rfl (by first | exact Or.inl rfl | exact Or.inr rfl)) (pgs_cons (pg_name (i := 3) nd rfl (by first | exact Or.inl rfl | exact Or.inr rfl)) (pgs_cons (pg_name (i := 4) nd rfl (by first | exact Or.inl rfl | exact Or.inr rfl)) pgs_nil)))))) (pss_cons (ps_if (pt_cmpR op_eq (pv 1) pe_str (nomark _)) (pss_cons (ps_ret (pe_lc (own := [("_law_place", 5)]) (by rfl) nd (pi_range2 (by rfl) T.b_range (pa_cons (pv 3) (pa_cons (pe_op op_add (pv 4) pe_int) pa_nil))) (blkOk_by (own := [("_law_place", 5)]) (N := N_cells) (sc := (defScope s_cells)) (by decide +kernel)) (fun _ _ _ _ _ => (pg_name (i := 5) nd rfl (by first | exact Or.inl rfl | exact Or.inr rfl))) (fun _ _ _ _ _ => pts_nil) (fun _ _ _ _ _ => (pe_tup (pa_cons (pv 5) (pa_cons (pv 2) pa_nil)))))) pss_nil) pss_nil) (pss_cons (ps_ret (pe_lc (own := [("_law_place", 5)]) (by rfl) nd (pi_range2 (by rfl) T.b_range (pa_cons (pv 3) (pa_cons (pe_op op_add (pv 4) pe_int) pa_nil))) (blkOk_by (own := [("_law_place", 5)]) (N := N_cells) (sc := (defScope s_cells)) (by decide +kernel)) (fun _ _ _ _ _ => (pg_name (i := 5) nd rfl (by first | exact Or.inl rfl | exact Or.inr rfl))) (fun _ _ _ _ _ => pts_nil) (fun _ _ _ _ _ => (pe_tup (pa_cons (pv 2) (pa_cons (pv 5) pa_nil)))))) pss_nil))), ?_⟩
  have hm : ∀ x : (T4 Str Int Int Int) × Unit, (fun x : (T4 Str Int Int Int) × Unit => m_cells x.1) x = (m_cells_b x.1).run := fun _ => by unfold m_cells; rfl
  have hN : N_cells.length = Args.num ((T4 Str Int Int Int) × Unit) + 5 := rfl
  refine fn_run (Bs := fun _ => uns 6) (n := 5) (m := fun x => m_cells_b x.1) h ?hN ?hm ?hd
  case hN => exact hN
  case hm => exact hm
  intro W x
  obtain ⟨v_stroke_here, ⟨⟩⟩ := x
  show Den _ _ _ _ _ _ _ [(.fr v_stroke_here), .un, .un, .un, .un, .un] (m_cells_b v_stroke_here) (fun _ => uns 6)
  unfold m_cells_b
  exact (Fw.d_let4 1 2 3 4 (e_var 0) fun v_way_1 v_line_2 v_first_3 v_last_4 => (d_ifap (t_e (e_op2 o_eq (e_var 1) (e_str _) rfl)) (d_retR (wk_uns rfl) (r_lcM (ixh (i_rng2 (exr_p (e_var 3)) (exr_p (e_op2 (o_int fun i j => i + j) (e_var 4) (e_int _) rfl)))) (gs_name 5) (fun x7 => (e_pair (a_cons (e_var 5) (a_cons (e_var 2) a_nil)))))) (d_retR (wk_uns rfl) (r_lcM (ixh (i_rng2 (exr_p (e_var 3)) (exr_p (e_op2 (o_int fun i j => i + j) (e_var 4) (e_int _) rfl)))) (gs_name 5) (fun x11 => (e_pair (a_cons (e_var 2) (a_cons (e_var 5) a_nil))))))))
theorem ok_m_cells (T : Glb mg) (R0 : Raw c.K mg "_law_cells" "_law_cells" s_cells) :
    Cal P w c.K mg base "_law_cells" 1 ["_law_stroke_here"] (spF c (fun x : (T4 Str Int Int Int) × Unit => m_cells x.1) (fun x : (List (Int × Int)) => kNw c.K x)) := by
  obtain ⟨f, fd, gf, F⟩ := R0.ex
  exact ⟨f, fd, gf, F.kp, F.binds fun _ _ _ _ _ _ us hl => match us, hl with | [_], _ => rfl, ok_m_cells_F T F⟩
theorem ok_m_is_number_F (T : Glb mg) {f : Addr} {fd : FuncData} (F : Fun c.K "is_number" "is_number" s_is_number f fd) :
    FnOk P w c.K mg base (L2.CX P w) 1 f fd ["thing"] (spF c (fun x : Dz × Unit => m_is_number x.1) (fun x : Bool => kFr c.K x)) := by
  have nd := sc_is_number.nd
  refine F.okX sc_is_number (fun vs H Q E h => spF_len vs H Q E h) (fun cdv A outer s H vs Q E hr h => ?_)
  refine ⟨_, (pss_cons (ps_ret (pe_and (pe_callB (r := rIsi c.K) call_isi (by rfl) T.b_isinstance (by decide +kernel) (pa_cons (pv 0) (pa_cons (pe_bltn (v := .ty "int") (by rfl) T.b_int (by decide +kernel) rfl) pa_nil))) (pe_and (pe_not (pe_callB (r := rIsi c.K) call_isi (by rfl) T.b_isinstance (by decide +kernel) (pa_cons (pv 0) (pa_cons (pe_bltn (v := .ty "bool") (by rfl) T.b_bool (by decide +kernel) rfl) pa_nil)))) (pe_one (pe_cmpR op_ge (pv 0) pe_int (nomark _)))))) pss_nil), ?_⟩
  have hm : ∀ x : Dz × Unit, (fun x : Dz × Unit => m_is_number x.1) x = (m_is_number_b x.1).run := fun _ => by unfold m_is_number; rfl
  have hN : N_is_number.length = Args.num (Dz × Unit) + 0 := rfl
  refine fn_run (Bs := fun _ => uns 1) (n := 0) (m := fun x => m_is_number_b x.1) h ?hN ?hm ?hd
  case hN => exact hN
  case hm => exact hm
  intro W x
  obtain ⟨v_thing, ⟨⟩⟩ := x
  show Den _ _ _ _ _ _ _ [(.fr v_thing)] (m_is_number_b v_thing) (fun _ => uns 1)
  unfold m_is_number_b
  exact (d_retR (wk_uns rfl) (r_andV (exr_p (e_opA (x := (v_thing, ())) (o_isiZ (T := "int") (by decide +kernel)) (a_cons (e_bw (e_var 0)) (a_cons (e_ty "int") a_nil)) rfl)) (r_andV (exr_p (e_notV (e_opA (x := (v_thing, ())) (o_isiZ (T := "bool") (by decide +kernel)) (a_cons (e_bw (e_var 0)) (a_cons (e_ty "bool") a_nil)) rfl))) (r_op2 (o_cmp fun i j => decide (j ≤ i)) (r_cast c_zint (exr_p (e_var 0))) (exr_p (e_int _))))))
theorem ok_m_is_number (T : Glb mg) (R0 : Raw c.K mg "is_number" "is_number" s_is_number) :
    Cal P w c.K mg base "is_number" 1 ["thing"] (spF c (fun x : Dz × Unit => m_is_number x.1) (fun x : Bool => kFr c.K x)) := by
  obtain ⟨f, fd, gf, F⟩ := R0.ex
  exact ⟨f, fd, gf, F.kp, F.binds fun _ _ _ _ _ _ us hl => match us, hl with | [_], _ => rfl, ok_m_is_number_F T F⟩
theorem ok_m_lies_on_F (T : Glb mg) {f : Addr} {fd : FuncData} (F : Fun c.K "lies_on" "lies_on" s_lies_on f fd)
    (C_m_is_number : Cal P w c.K mg base "is_number" 1 ["thing"] (spF c (fun x : Dz × Unit => m_is_number x.1) (fun x : Bool => kFr c.K x))) :
    FnOk P w c.K mg base (L2.CX P w) 2 f fd ["size", "thing"] (spF c (fun x : (Int × Int) × Dz × Unit => m_lies_on x.1 x.2.1) (fun x : Bool => kFr c.K x)) := by
  obtain ⟨f_m_is_number, fd_m_is_number, g_m_is_number, k_m_is_number, b_m_is_number, G_m_is_number⟩ := C_m_is_number.ex
  have nd := sc_lies_on.nd
  refine F.okX sc_lies_on (fun vs H Q E h => spF_len vs H Q E h) (fun cdv A outer s H vs Q E hr h => ?_)
  refine ⟨_, (pss_cons (ps_if (PW.pt (pw_or (pt_not (pt_val (pe_callB (r := rIsi c.K) call_isi (by rfl) T.b_isinstance (by decide +kernel) (pa_cons (pv 1) (pa_cons (pe_bltn (v := .ty "tuple") (by rfl) T.b_tuple (by decide +kernel) rfl) pa_nil))))) (pw_or (pt_cmpR op_ne (pe_callB (r := Fw.rLen c.K) call_len_seq (by rfl) T.b_len (by decide +kernel) (pa_cons (pv 1) pa_nil)) pe_int (nomark _)) (pw_or1 (pt_cmpR (r := rNotInTZ c.K) (op_notInTZ (hu65 hr)) (pe_ix (r := rIxT c.K) ix_tup (pv 1) pe_int (fun _ _ => rfl)) (pe_tup (pa_cons pe_str (pa_cons pe_str pa_nil))) (by rfl)))))) (pss_cons (ps_ret pe_bl) pss_nil) pss_nil) (pss_cons (ps_for (passes_of rfl) rfl (pi_tup (pe_slice (r := rSlA c.K) sl_tupA (pv 1) (po_some pe_int) po_none)) (pg_name (i := 2) nd rfl (by first | exact Or.inl rfl | exact Or.inr rfl)) (pss_cons (ps_if (pt_not (pt_val (pe_callS G_m_is_number (hr.mono (by decide)) (by rfl) g_m_is_number k_m_is_number b_m_is_number (fun σ => passAt (takes_of rfl rfl rfl rfl) σ) (pa_cons (pv 2) pa_nil)))) (pss_cons (ps_ret pe_bl) pss_nil) pss_nil) pss_nil)) (pss_cons (ps_set (i := 3) nd rfl (by first | exact Or.inl rfl | exact Or.inr rfl) (pe_ix (r := rIxT c.K) ix_tup (pv 0) pe_int (fun _ _ => rfl))) (pss_cons (ps_set (i := 4) nd rfl (by first | exact Or.inl rfl | exact Or.inr rfl) (pe_ix (r := rIxT c.K) ix_tup (pv 0) pe_int (fun _ _ => rfl))) (pss_cons (ps_if (pt_cmpR (r := rEqD c.K) (op_eqD (hu64 hr)) (pe_ix (r := rIxT c.K) ix_tup (pv 1) pe_int (fun _ _ => rfl)) pe_str (nomark _)) (pss_cons (ps_set (i := 3) nd rfl (by first | exact Or.inl rfl | exact Or.inr rfl) (pe_ix (r := rIxT c.K) ix_tup (pv 0) pe_int (fun _ _ => rfl))) (pss_cons (ps_set (i := 4) nd rfl (by first | exact Or.inl rfl | exact Or.inr rfl) (pe_ix (r := rIxT c.K) ix_tup (pv 0) pe_int (fun _ _ => rfl))) pss_nil)) pss_nil) (pss_cons (ps_ret (pe_and (pe_cmpR op_lt (pe_ix (r := rIxT c.K) ix_tup (pv 1) pe_int (fun _ _ => rfl)) (pv 3) (nomark _)) (pe_and (pe_cmpR op_le (pe_ix (r := rIxT c.K) ix_tup (pv 1) pe_int (fun _ _ => rfl)) (pe_ix (r := rIxT c.K) ix_tup (pv 1) pe_int (fun _ _ => rfl)) (nomark _)) (pe_one (pe_cmpR op_lt (pe_ix (r := rIxT c.K) ix_tup (pv 1) pe_int (fun _ _ => rfl)) (pv 4) (nomark _)))))) pss_nil)))))), ?_⟩
  have hm : ∀ x : (Int × Int) × Dz × Unit, (fun x : (Int × Int) × Dz × Unit => m_lies_on x.1 x.2.1) x = (m_lies_on_b x.1 x.2.1).run := fun _ => by unfold m_lies_on; rfl
  have hN : N_lies_on.length = Args.num ((Int × Int) × Dz × Unit) + 3 := rfl
  refine fn_run (Bs := fun _ => uns 5) (n := 3) (m := fun x => m_lies_on_b x.1 x.2.1) h ?hN ?hm ?hd
  case hN => exact hN
  case hm => exact hm
  intro W x
  obtain ⟨v_size, v_thing, ⟨⟩⟩ := x
  show Den _ _ _ _ _ _ _ [(.fr v_size), (.fr v_thing), .un, .un, .un] (m_lies_on_b v_size v_thing) (fun _ => uns 5)
  unfold m_lies_on_b
  exact (d_ifa (wk_uns rfl) (tr_or (txr_p (t_not (t_B (e_opA (x := (v_thing, ())) (o_isiZ (T := "tuple") (by decide +kernel)) (a_cons (e_bw (e_var 1)) (a_cons (e_ty "tuple") a_nil)) rfl)))) (tr_or (tr_e (r_op2 o_ne (r_opA o_lenT (ar_cons (k := fun (x : (Tup Dz)) => kFr c.K x) (r_cast c_ztup (exr_p (e_var 1))) (axr_p (k := fun _ => aNil) a_nil))) (exr_p (e_int _)))) (tr_e (r_op2 o_ninZP (r_op2 o_ixT (r_cast c_ztup (exr_p (e_var 1))) (exr_p (e_int _))) (exr_p (e_pair (a_cons (e_str _) (a_cons (e_str _) a_nil)))))))) (d_ret (e_bl _)) (d_for (Bs := (fun (s15 : Unit) => [(.fr v_size), (.fr v_thing), .un, .un, .un])) (wk_uns rfl) (i_tup (r_slTu (r_cast c_ztup (exr_p (e_var 1))) (po_some' (exr_p (e_int _))) po_none')) (.same (.same (.same (.same (.same .nil))))) (fun _ _ => (g_name 2)) (fun s15 x16 B45 => (d_ifa (wk_uns rfl) (tr_not (tr_B (r_call1 (aa_cons (e_var 2) aa_nil) rfl))) (d_ret (e_bl _)) (d_nx (.same (.same (.drop (.same (.same .nil)))))))) (fun s19 => (d_let 3 (e_ixc (x := v_size) p_1 (e_var 0) (e_int _) rfl) fun v_lines_20 => (d_let 4 (e_ixc (x := v_size) p_0 (e_var 0) (e_int _) rfl) fun v_places_21 => (d_if (Bs := (fun (s26 : (Int × Int)) => [(.fr v_size), (.fr v_thing), .un, (.fr s26.1), (.fr s26.2)])) (wk_uns rfl) (tr_e (r_op2 o_eqZ (r_op2 o_ixT (r_cast c_ztup (exr_p (e_var 1))) (exr_p (e_int _))) (exr_p (e_str _)))) (d_let 3 (e_ixc (x := v_size) p_0 (e_var 0) (e_int _) rfl) fun v_lines_41 => (d_let 4 (e_ixc (x := v_size) p_1 (e_var 0) (e_int _) rfl) fun v_places_42 => (d_nx (.same (.same (.same (.same (.same .nil)))))))) (d_nx (.same (.same (.same (.same (.same .nil)))))) (fun s26 => (d_retR (wk_uns rfl) (r_andV (r_op2 (o_cmp fun i j => decide (i < j)) (r_cast c_zint (r_op2 o_ixT (r_cast c_ztup (exr_p (e_var 1))) (exr_p (e_int _)))) (exr_p (e_var 3))) (r_andV (r_op2 (o_cmp fun i j => decide (i ≤ j)) (r_cast c_zint (r_op2 o_ixT (r_cast c_ztup (exr_p (e_var 1))) (exr_p (e_int _)))) (r_cast c_zint (r_op2 o_ixT (r_cast c_ztup (exr_p (e_var 1))) (exr_p (e_int _))))) (r_op2 (o_cmp fun i j => decide (i < j)) (r_cast c_zint (r_op2 o_ixT (r_cast c_ztup (exr_p (e_var 1))) (exr_p (e_int _)))) (exr_p (e_var 4)))))))))))))
theorem ok_m_lies_on (T : Glb mg) (R0 : Raw c.K mg "lies_on" "lies_on" s_lies_on)
    (C_m_is_number : Cal P w c.K mg base "is_number" 1 ["thing"] (spF c (fun x : Dz × Unit => m_is_number x.1) (fun x : Bool => kFr c.K x))) :
    Cal P w c.K mg base "lies_on" 2 ["size", "thing"] (spF c (fun x : (Int × Int) × Dz × Unit => m_lies_on x.1 x.2.1) (fun x : Bool => kFr c.K x)) := by
  obtain ⟨f, fd, gf, F⟩ := R0.ex
  exact ⟨f, fd, gf, F.kp, F.binds fun _ _ _ _ _ _ us hl => match us, hl with | [_, _], _ => rfl, ok_m_lies_on_F T F C_m_is_number⟩
theorem ok_m_set_of_F (T : Glb mg) {f : Addr} {fd : FuncData} (F : Fun c.K "set_of" "set_of" s_set_of f fd) :
    FnOk P w c.K mg base (L2.CX P w) 1 f fd ["size", "cells"] (spF c (fun x : (Int × Int) × (List (Int × Int)) × Unit => m_set_of x.1 x.2.1) (fun x : Int => kFr c.K x)) := by
  have nd := sc_set_of.nd
  refine F.okX sc_set_of (fun vs H Q E h => spF_len vs H Q E h) (fun cdv A outer s H vs Q E hr h => ?_)
  refine ⟨_, (pss_cons (ps_set (i := 2) nd rfl (by first | exact Or.inl rfl | exact Or.inr rfl) pe_int) (pss_cons (ps_for (passes_of rfl) rfl (pi_list (pv 1)) (pg_tup (by rfl) (pgs_cons (pg_name (i := 3) nd rfl (by first | exact Or.inl rfl | exact Or.inr rfl)) (pgs_cons (pg_name (i := 4) nd rfl (by first | exact Or.inl rfl | exact Or.inr rfl)) pgs_nil))) (pss_cons (ps_set (i := 2) nd rfl (by first | exact Or.inl rfl | exact Or.inr rfl) (pe_op op_or (pv 2) (pe_op op_shl pe_int (pe_op op_add (pe_op op_mul (pv 4) (pe_ix (r := rIxT c.K) ix_tup (pv 0) pe_int (fun _ _ => rfl))) (pv 3))))) pss_nil)) (pss_cons (ps_ret (pv 2)) pss_nil))), ?_⟩
  have hm : ∀ x : (Int × Int) × (List (Int × Int)) × Unit, (fun x : (Int × Int) × (List (Int × Int)) × Unit => m_set_of x.1 x.2.1) x = (m_set_of_b x.1 x.2.1).run := fun _ => by unfold m_set_of; rfl
  have hN : N_set_of.length = Args.num ((Int × Int) × (List (Int × Int)) × Unit) + 3 := rfl
  refine fn_run (Bs := fun _ => uns 5) (n := 3) (m := fun x => m_set_of_b x.1 x.2.1) h ?hN ?hm ?hd
  case hN => exact hN
  case hm => exact hm
  intro W x
  obtain ⟨v_size, v_cells, ⟨⟩⟩ := x
  show Den _ _ _ _ _ _ _ [(.fr v_size), (.fr v_cells), .un, .un, .un] (m_set_of_b v_size v_cells) (fun _ => uns 5)
  unfold m_set_of_b
  exact (d_let 2 (e_int _) fun v_found_1 => (d_for (Bs := (fun (s2 : Int) => [(.fr v_size), (.fr v_cells), (.fr s2), .un, .un])) (wk_uns rfl) (i_list (exr_p (e_var 1))) (.same (.same (.same (.same (.same .nil))))) (fun _ _ => (g_tup2 3 4)) (fun s2 x3 B15 => (d_get 2 (wk_uns rfl) (r_op2 (o_int Builtin.bitOr) (exr_p (e_var 2)) (r_op2 o_shl (exr_p (e_int _)) (r_op2 (o_int fun i j => i + j) (r_op2 o_mul (exr_p (e_var 4)) (exr_p (e_ixc (x := v_size) p_0 (e_var 0) (e_int _) rfl))) (exr_p (e_var 3))))) fun v_found_12 => (d_nx (.same (.same (.same (.drop (.drop .nil)))))))) (fun s13 => (d_ret (e_var 2)))))
theorem ok_m_set_of (T : Glb mg) (R0 : Raw c.K mg "set_of" "set_of" s_set_of) :
    Cal P w c.K mg base "set_of" 1 ["size", "cells"] (spF c (fun x : (Int × Int) × (List (Int × Int)) × Unit => m_set_of x.1 x.2.1) (fun x : Int => kFr c.K x)) := by
  obtain ⟨f, fd, gf, F⟩ := R0.ex
  exact ⟨f, fd, gf, F.kp, F.binds fun _ _ _ _ _ _ us hl => match us, hl with | [_, _], _ => rfl, ok_m_set_of_F T F⟩
theorem ok_m_cells_cut_F (T : Glb mg) {f : Addr} {fd : FuncData} (F : Fun c.K "cells_cut" "cells_cut" s_cells_cut f fd)
    (C_m_set_of : Cal P w c.K mg base "set_of" 1 ["size", "cells"] (spF c (fun x : (Int × Int) × (List (Int × Int)) × Unit => m_set_of x.1 x.2.1) (fun x : Int => kFr c.K x))) :
    FnOk P w c.K mg base (L2.CX P w) 2 f fd ["size", "stroke"] (spF c (fun x : (Int × Int) × (T4 Str Int Int Int) × Unit => m_cells_cut x.1 x.2.1) (fun x : Int => kFr c.K x)) := by
  obtain ⟨f_m_set_of, fd_m_set_of, g_m_set_of, k_m_set_of, b_m_set_of, G_m_set_of⟩ := C_m_set_of.ex
  have nd := sc_cells_cut.nd
  refine F.okX sc_cells_cut (fun vs H Q E h => spF_len vs H Q E h) (fun cdv A outer s H vs Q E hr h => ?_)
  refine ⟨_, (pss_cons (ps_asg (pv 1) (pg_tup (by rfl) (pgs_cons (pg_name (i := 2) nd rfl (by first | exact Or.inl rfl | exact Or.inr rfl)) (pgs_cons (pg_name (i := 3) nd rfl (by first | exact Or.inl rfl | exact Or.inr rfl)) (pgs_cons (pg_name (i := 4) nd rfl (by first | exact Or.inl rfl | exact Or.inr rfl)) (pgs_cons (pg_name (i := 5) nd rfl (by first | exact Or.inl rfl | exact Or.inr rfl)) pgs_nil)))))) (pss_cons (ps_if (pt_cmpR op_eq (pv 2) pe_str (nomark _)) (pss_cons (ps_ret (pe_callS G_m_set_of (hr.mono (by decide)) (by rfl) g_m_set_of k_m_set_of b_m_set_of (fun σ => passAt (takes_of rfl rfl rfl rfl) σ) (pa_cons (pv 0) (pa_cons (pe_lc (own := [("column", 6)]) (by rfl) nd (pi_range2 (by rfl) T.b_range (pa_cons (pv 4) (pa_cons (pe_op op_add (pv 5) pe_int) pa_nil))) (blkOk_by (own := [("column", 6)]) (N := N_cells_cut) (sc := (defScope s_cells_cut)) (by decide +kernel)) (fun _ _ _ _ _ => (pg_name (i := 6) nd rfl (by first | exact Or.inl rfl | exact Or.inr rfl))) (fun _ _ _ _ _ => pts_nil) (fun _ _ _ _ _ => (pe_tup (pa_cons (pv 6) (pa_cons (pv 3) pa_nil))))) pa_nil)))) pss_nil) pss_nil) (pss_cons (ps_ret (pe_callS G_m_set_of (hr.mono (by decide)) (by rfl) g_m_set_of k_m_set_of b_m_set_of (fun σ => passAt (takes_of rfl rfl rfl rfl) σ) (pa_cons (pv 0) (pa_cons (pe_lc (own := [("row", 7)]) (by rfl) nd (pi_range2 (by rfl) T.b_range (pa_cons (pv 4) (pa_cons (pe_op op_add (pv 5) pe_int) pa_nil))) (blkOk_by (own := [("row", 7)]) (N := N_cells_cut) (sc := (defScope s_cells_cut)) (by decide +kernel)) (fun _ _ _ _ _ => (pg_name (i := 7) nd rfl (by first | exact Or.inl rfl | exact Or.inr rfl))) (fun _ _ _ _ _ => pts_nil) (fun _ _ _ _ _ => (pe_tup (pa_cons (pv 3) (pa_cons (pv 7) pa_nil))))) pa_nil)))) pss_nil))), ?_⟩
  have hm : ∀ x : (Int × Int) × (T4 Str Int Int Int) × Unit, (fun x : (Int × Int) × (T4 Str Int Int Int) × Unit => m_cells_cut x.1 x.2.1) x = (m_cells_cut_b x.1 x.2.1).run := fun _ => by unfold m_cells_cut; rfl
  have hN : N_cells_cut.length = Args.num ((Int × Int) × (T4 Str Int Int Int) × Unit) + 6 := rfl
  refine fn_run (Bs := fun _ => uns 8) (n := 6) (m := fun x => m_cells_cut_b x.1 x.2.1) h ?hN ?hm ?hd
  case hN => exact hN
  case hm => exact hm
  intro W x
  obtain ⟨v_size, v_stroke, ⟨⟩⟩ := x
  show Den _ _ _ _ _ _ _ [(.fr v_size), (.fr v_stroke), .un, .un, .un, .un, .un, .un] (m_cells_cut_b v_size v_stroke) (fun _ => uns 8)
  unfold m_cells_cut_b
  exact (Fw.d_let4 2 3 4 5 (e_var 1) fun v_way_1 v_line_2 v_first_3 v_last_4 => (d_ifap (t_e (e_op2 o_eq (e_var 2) (e_str _) rfl)) (d_retR (wk_uns rfl) (r_call (aar_cons (exr_p (e_var 0)) (aar_cons (r_fz (r_lcM (ixh (i_rng2 (exr_p (e_var 4)) (exr_p (e_op2 (o_int fun i j => i + j) (e_var 5) (e_int _) rfl)))) (gs_name 6) (fun x7 => (e_pair (a_cons (e_var 6) (a_cons (e_var 3) a_nil)))))) aar_nil)))) (d_retR (wk_uns rfl) (r_call (aar_cons (exr_p (e_var 0)) (aar_cons (r_fz (r_lcM (ixh (i_rng2 (exr_p (e_var 4)) (exr_p (e_op2 (o_int fun i j => i + j) (e_var 5) (e_int _) rfl)))) (gs_name 7) (fun x16 => (e_pair (a_cons (e_var 3) (a_cons (e_var 7) a_nil)))))) aar_nil))))))
theorem ok_m_cells_cut (T : Glb mg) (R0 : Raw c.K mg "cells_cut" "cells_cut" s_cells_cut)
    (C_m_set_of : Cal P w c.K mg base "set_of" 1 ["size", "cells"] (spF c (fun x : (Int × Int) × (List (Int × Int)) × Unit => m_set_of x.1 x.2.1) (fun x : Int => kFr c.K x))) :
    Cal P w c.K mg base "cells_cut" 2 ["size", "stroke"] (spF c (fun x : (Int × Int) × (T4 Str Int Int Int) × Unit => m_cells_cut x.1 x.2.1) (fun x : Int => kFr c.K x)) := by
  obtain ⟨f, fd, gf, F⟩ := R0.ex
  exact ⟨f, fd, gf, F.kp, F.binds fun _ _ _ _ _ _ us hl => match us, hl with | [_, _], _ => rfl, ok_m_cells_cut_F T F C_m_set_of⟩
theorem ok_m_spoiled_F (T : Glb mg) {f : Addr} {fd : FuncData} (F : Fun c.K "_law_spoiled" "_law_spoiled" s_spoiled f fd) :
    FnOk P w c.K mg base (L2.CX P w) 1 f fd ["_law_size_here", "_law_stroke_here", "_law_number"] (spF c (fun x : (Int × Int) × (T4 Str Int Int Int) × Int × Unit => m_spoiled x.1 x.2.1 x.2.2.1) (fun x : Dz => kFr c.K x)) := by
  have nd := sc_spoiled.nd
  refine F.okX sc_spoiled (fun vs H Q E h => spF_len vs H Q E h) (fun cdv A outer s H vs Q E hr h => ?_)
  refine ⟨_, (pss_cons (ps_asg (pv 1) (pg_tup (by rfl) (pgs_cons (pg_name (i := 3) nd rfl (by first | exact Or.inl rfl | exact Or.inr rfl)) (pgs_cons (pg_name (i := 4) nd rfl (by first | exact Or.inl rfl | exact Or.inr rfl)) (pgs_cons (pg_name (i := 5) nd rfl (by first | exact Or.inl rfl | exact Or.inr rfl)) (pgs_cons (pg_name (i := 6) nd rfl (by first | exact Or.inl rfl | exact Or.inr rfl)) pgs_nil)))))) (pss_cons (ps_set (i := 7) nd rfl (by first | exact Or.inl rfl | exact Or.inr rfl) (pe_ix (r := rIxL c.K) ix_list (pe_lst (pa_cons (pe_ix (r := rIxT c.K) ix_tup (pv 0) pe_int (fun _ _ => rfl)) (pa_cons (pe_ix (r := rIxT c.K) ix_tup (pv 0) pe_int (fun _ _ => rfl)) pa_nil))) (pe_callTy call_int1 (by rfl) T.b_int (by decide +kernel) (pa_cons (pe_cmpR op_eq (pv 3) pe_str (nomark _)) pa_nil)) (fun _ _ => rfl))) (pss_cons (ps_set (i := 8) nd rfl (by first | exact Or.inl rfl | exact Or.inr rfl) (pe_ix (r := rIxL c.K) ix_list (pe_lst (pa_cons (pe_ix (r := rIxT c.K) ix_tup (pv 0) pe_int (fun _ _ => rfl)) (pa_cons (pe_ix (r := rIxT c.K) ix_tup (pv 0) pe_int (fun _ _ => rfl)) pa_nil))) (pe_callTy call_int1 (by rfl) T.b_int (by decide +kernel) (pa_cons (pe_cmpR op_eq (pv 3) pe_str (nomark _)) pa_nil)) (fun _ _ => rfl))) (pss_cons (ps_set (i := 9) nd rfl (by first | exact Or.inl rfl | exact Or.inr rfl) (pe_lst (pa_cons (pe_tup (pa_cons (pv 3) (pa_cons (pv 7) (pa_cons (pv 5) (pa_cons (pv 6) pa_nil))))) (pa_cons (pe_tup (pa_cons (pv 3) (pa_cons (pv 4) (pa_cons (pv 5) (pa_cons (pv 8) pa_nil))))) (pa_cons (pe_tup (pa_cons (pv 3) (pa_cons (pe_un un_neg pe_int) (pa_cons (pv 5) (pa_cons (pv 6) pa_nil))))) (pa_cons (pe_tup (pa_cons (pv 3) (pa_cons (pv 4) (pa_cons (pe_un un_neg pe_int) (pa_cons (pv 6) pa_nil))))) pa_nil)))))) (pss_cons (ps_set (i := 9) nd rfl (by first | exact Or.inl rfl | exact Or.inr rfl) (pe_op op_cat (pv 9) (pe_lst (pa_cons (pe_tup (pa_cons (pv 3) (pa_cons (pv 4) (pa_cons (pe_op op_add (pv 6) pe_int) (pa_cons (pv 6) pa_nil))))) (pa_cons (pe_tup (pa_cons pe_str (pa_cons (pv 4) (pa_cons (pv 5) (pa_cons (pv 6) pa_nil))))) (pa_cons (pe_tup (pa_cons pe_str (pa_cons (pv 4) (pa_cons (pv 5) (pa_cons (pv 6) pa_nil))))) pa_nil)))))) (pss_cons (ps_set (i := 9) nd rfl (by first | exact Or.inl rfl | exact Or.inr rfl) (pe_op op_cat (pv 9) (pe_lst (pa_cons (pe_tup (pa_cons (pv 3) (pa_cons pe_str (pa_cons (pv 5) (pa_cons (pv 6) pa_nil))))) (pa_cons (pe_tup (pa_cons (pv 3) (pa_cons (pv 4) (pa_cons pe_non (pa_cons (pv 6) pa_nil))))) (pa_cons (pe_tup (pa_cons (pv 3) (pa_cons (pv 4) (pa_cons (pv 5) (pa_cons (pe_lst (pa_cons pe_int pa_nil)) pa_nil))))) (pa_cons (pe_tup (pa_cons (pv 3) (pa_cons (pv 4) (pa_cons (pv 5) pa_nil)))) pa_nil))))))) (pss_cons (ps_set (i := 9) nd rfl (by first | exact Or.inl rfl | exact Or.inr rfl) (pe_op op_cat (pv 9) (pe_lst (pa_cons (pe_tup (pa_cons (pv 3) (pa_cons (pv 4) (pa_cons (pv 5) (pa_cons (pv 6) (pa_cons pe_int pa_nil)))))) (pa_cons (pe_lst (pa_cons (pv 3) (pa_cons (pv 4) (pa_cons (pv 5) (pa_cons (pv 6) pa_nil))))) (pa_cons pe_non (pa_cons pe_int (pa_cons (pv 3) (pa_cons (pe_tup pa_nil) (pa_cons (pe_tup (pa_cons pe_non (pa_cons (pv 4) (pa_cons (pv 5) (pa_cons (pv 6) pa_nil))))) pa_nil)))))))))) (pss_cons (ps_set (i := 9) nd rfl (by first | exact Or.inl rfl | exact Or.inr rfl) (pe_op op_cat (pv 9) (pe_lst (pa_cons (pe_tup (pa_cons (pe_lst pa_nil) (pa_cons (pv 4) (pa_cons (pv 5) (pa_cons (pv 6) pa_nil))))) (pa_cons (pe_tup (pa_cons (pe_lk pe_dnewK) (pa_cons (pv 4) (pa_cons (pv 5) (pa_cons (pv 6) pa_nil))))) (pa_cons (pe_tup (pa_cons (pv 3) (pa_cons pe_bl (pa_cons (pv 5) (pa_cons (pv 6) pa_nil))))) pa_nil)))))) (pss_cons (ps_expr (pe_bm PySem.F.plainAttrs_list PySem.F.slot_list_append PySem.F.type_list_append mt_append (pv 9) (pa_cons (pe_tup (pa_cons (pv 3) (pa_cons (pv 4) (pa_cons (pv 5) (pa_cons pe_bl pa_nil))))) pa_nil))) (pss_cons (ps_ret (pe_ix (r := rIxL c.K) ix_list (pv 9) (pe_op op_mod (pv 2) (pe_callB (r := Fw.rLen c.K) call_len_seq (by rfl) T.b_len (by decide +kernel) (pa_cons (pv 9) pa_nil))) (fun _ _ => rfl))) pss_nil)))))))))), ?_⟩
  have hm : ∀ x : (Int × Int) × (T4 Str Int Int Int) × Int × Unit, (fun x : (Int × Int) × (T4 Str Int Int Int) × Int × Unit => m_spoiled x.1 x.2.1 x.2.2.1) x = (m_spoiled_b x.1 x.2.1 x.2.2.1).run := fun _ => by unfold m_spoiled; rfl
  have hN : N_spoiled.length = Args.num ((Int × Int) × (T4 Str Int Int Int) × Int × Unit) + 7 := rfl
  refine fn_run (Bs := fun _ => uns 10) (n := 7) (m := fun x => m_spoiled_b x.1 x.2.1 x.2.2.1) h ?hN ?hm ?hd
  case hN => exact hN
  case hm => exact hm
  intro W x
  obtain ⟨v_size_here, v_stroke_here, v_number, ⟨⟩⟩ := x
  show Den _ _ _ _ _ _ _ [(.fr v_size_here), (.fr v_stroke_here), (.fr v_number), .un, .un, .un, .un, .un, .un, .un] (m_spoiled_b v_size_here v_stroke_here v_number) (fun _ => uns 10)
  unfold m_spoiled_b
  exact (Fw.d_let4 3 4 5 6 (e_var 1) fun v_way_1 v_line_2 v_first_3 v_last_4 => (d_get 7 (wk_uns rfl) (r_op2 o_ixL (exr_p (e_shN (e_lst (xs := [v_size_here.2, v_size_here.1]) (a_cons (e_ixc (x := v_size_here) p_1 (e_var 0) (e_int _) rfl) (a_cons (e_ixc (x := v_size_here) p_0 (e_var 0) (e_int _) rfl) a_nil)) (szl (n := 2) rfl (by decide))))) (exr_p (e_opA (x := ((decide (v_way_1 = ("column" : Str))), ())) o_intB (a_cons (e_op2 o_eq (e_var 3) (e_str _) rfl) a_nil) rfl))) fun v_lines_7 => (d_get 8 (wk_uns rfl) (r_op2 o_ixL (exr_p (e_shN (e_lst (xs := [v_size_here.1, v_size_here.2]) (a_cons (e_ixc (x := v_size_here) p_0 (e_var 0) (e_int _) rfl) (a_cons (e_ixc (x := v_size_here) p_1 (e_var 0) (e_int _) rfl) a_nil)) (szl (n := 2) rfl (by decide))))) (exr_p (e_opA (x := ((decide (v_way_1 = ("column" : Str))), ())) o_intB (a_cons (e_op2 o_eq (e_var 3) (e_str _) rfl) a_nil) rfl))) fun v_places_10 => (d_letN 9 (e_lst (xs := [(dzOf (T4.mk v_way_1 v_lines_7 v_first_3 v_last_4)), (dzOf (T4.mk v_way_1 v_line_2 v_first_3 v_places_10)), (dzOf (T4.mk v_way_1 (-(1 : Int)) v_first_3 v_last_4)), (dzOf (T4.mk v_way_1 v_line_2 (-(1 : Int)) v_last_4))]) (a_cons (e_as (f := dzOf) (dz_rep) (e_t4 (a_cons (e_var 3) (a_cons (e_var 7) (a_cons (e_var 5) (a_cons (e_var 6) a_nil)))))) (a_cons (e_as (f := dzOf) (dz_rep) (e_t4 (a_cons (e_var 3) (a_cons (e_var 4) (a_cons (e_var 5) (a_cons (e_var 8) a_nil)))))) (a_cons (e_as (f := dzOf) (dz_rep) (e_t4 (a_cons (e_var 3) (a_cons (e_op1 o_neg (e_int _) rfl) (a_cons (e_var 5) (a_cons (e_var 6) a_nil)))))) (a_cons (e_as (f := dzOf) (dz_rep) (e_t4 (a_cons (e_var 3) (a_cons (e_var 4) (a_cons (e_op1 o_neg (e_int _) rfl) (a_cons (e_var 6) a_nil)))))) a_nil)))) (szl (n := 4) rfl (by decide))) fun v_some_11 => (d_getN 9 (wk_uns rfl) (r_op2 o_cat (exr_p (e_varL 9)) (exr_p (e_lsN (e_lst (xs := [(dzOf (T4.mk v_way_1 v_line_2 (v_last_4 + (1 : Int)) v_last_4)), (dzOf (T4.mk ("rows" : Str) v_line_2 v_first_3 v_last_4)), (dzOf (T4.mk ("" : Str) v_line_2 v_first_3 v_last_4))]) (a_cons (e_as (f := dzOf) (dz_rep) (e_t4 (a_cons (e_var 3) (a_cons (e_var 4) (a_cons (e_op2 (o_int fun i j => i + j) (e_var 6) (e_int _) rfl) (a_cons (e_var 6) a_nil)))))) (a_cons (e_as (f := dzOf) (dz_rep) (e_t4 (a_cons (e_str _) (a_cons (e_var 4) (a_cons (e_var 5) (a_cons (e_var 6) a_nil)))))) (a_cons (e_as (f := dzOf) (dz_rep) (e_t4 (a_cons (e_str _) (a_cons (e_var 4) (a_cons (e_var 5) (a_cons (e_var 6) a_nil)))))) a_nil))) (szl (n := 3) rfl (by decide)))))) fun v_some_14 => (d_getN 9 (wk_uns rfl) (r_op2 o_cat (exr_p (e_varL 9)) (exr_p (e_lsN (e_lst (xs := [(dzOf (T4.mk v_way_1 ("0" : Str) v_first_3 v_last_4)), (dzOf (T4.mk v_way_1 v_line_2 () v_last_4)), (dzOf (T4.mk v_way_1 v_line_2 v_first_3 [(dzOf (0 : Int))])), (dzOf (T3.mk v_way_1 v_line_2 v_first_3))]) (a_cons (e_as (f := dzOf) (dz_rep) (e_t4 (a_cons (e_var 3) (a_cons (e_str _) (a_cons (e_var 5) (a_cons (e_var 6) a_nil)))))) (a_cons (e_as (f := dzOf) (dz_rep) (e_t4 (a_cons (e_var 3) (a_cons (e_var 4) (a_cons e_unit (a_cons (e_var 6) a_nil)))))) (a_cons (e_as (f := dzOf) (dz_rep) (e_t4 (a_cons (e_var 3) (a_cons (e_var 4) (a_cons (e_var 5) (a_cons (e_fz (e_lst (xs := [(dzOf (0 : Int))]) (a_cons (e_as (f := dzOf) (dz_rep) (e_int _)) a_nil) (szl (n := 1) rfl (by decide)))) a_nil)))))) (a_cons (e_as (f := dzOf) (dz_rep) (e_t3 (a_cons (e_var 3) (a_cons (e_var 4) (a_cons (e_var 5) a_nil))))) a_nil)))) (szl (n := 4) rfl (by decide)))))) fun v_some_17 => (d_getN 9 (wk_uns rfl) (r_op2 o_cat (exr_p (e_varL 9)) (exr_p (e_lsN (e_lst (xs := [(dzOf (Tup.mk ([(dzOf v_way_1), (dzOf v_line_2), (dzOf v_first_3), (dzOf v_last_4), (dzOf (0 : Int))] : List Dz))), (dzOf [(dzOf v_way_1), (dzOf v_line_2), (dzOf v_first_3), (dzOf v_last_4)]), (dzOf ()), (dzOf (7 : Int)), (dzOf v_way_1), (dzOf (Tup.mk ([] : List Int))), (dzOf (T4.mk () v_line_2 v_first_3 v_last_4))]) (a_cons (e_as (f := dzOf) (dz_rep) (e_tupl (xs := ([(dzOf v_way_1), (dzOf v_line_2), (dzOf v_first_3), (dzOf v_last_4), (dzOf (0 : Int))] : List Dz)) (a_cons (e_as (f := dzOf) (dz_rep) (e_var 3)) (a_cons (e_as (f := dzOf) (dz_rep) (e_var 4)) (a_cons (e_as (f := dzOf) (dz_rep) (e_var 5)) (a_cons (e_as (f := dzOf) (dz_rep) (e_var 6)) (a_cons (e_as (f := dzOf) (dz_rep) (e_int _)) a_nil))))) (szl (n := 5) rfl (by decide)))) (a_cons (e_as (f := dzOf) (dz_rep) (e_fz (e_lst (xs := [(dzOf v_way_1), (dzOf v_line_2), (dzOf v_first_3), (dzOf v_last_4)]) (a_cons (e_as (f := dzOf) (dz_rep) (e_var 3)) (a_cons (e_as (f := dzOf) (dz_rep) (e_var 4)) (a_cons (e_as (f := dzOf) (dz_rep) (e_var 5)) (a_cons (e_as (f := dzOf) (dz_rep) (e_var 6)) a_nil)))) (szl (n := 4) rfl (by decide))))) (a_cons (e_as (f := dzOf) (dz_rep) e_unit) (a_cons (e_as (f := dzOf) (dz_rep) (e_int _)) (a_cons (e_as (f := dzOf) (dz_rep) (e_var 3)) (a_cons (e_as (f := dzOf) (dz_rep) (e_tupl (xs := ([] : List Int)) a_nil (szl (n := 0) rfl (by decide)))) (a_cons (e_as (f := dzOf) (dz_rep) (e_t4 (a_cons e_unit (a_cons (e_var 4) (a_cons (e_var 5) (a_cons (e_var 6) a_nil)))))) a_nil))))))) (szl (n := 7) rfl (by decide)))))) fun v_some_20 => (d_getN 9 (wk_uns rfl) (r_op2 o_cat (exr_p (e_varL 9)) (exr_p (e_lsN (e_lst (xs := [(dzOf (T4.mk ([] : List Int) v_line_2 v_first_3 v_last_4)), (dzOf (T4.mk (Dk.mk ([] : List (Int × Int))) v_line_2 v_first_3 v_last_4)), (dzOf (T4.mk v_way_1 false v_first_3 v_last_4))]) (a_cons (e_as (f := dzOf) (dz_rep) (e_t4 (a_cons (e_fz e_nil) (a_cons (e_var 4) (a_cons (e_var 5) (a_cons (e_var 6) a_nil)))))) (a_cons (e_as (f := dzOf) (dz_rep) (e_t4 (a_cons (e_fzD (e_dnew rfl)) (a_cons (e_var 4) (a_cons (e_var 5) (a_cons (e_var 6) a_nil)))))) (a_cons (e_as (f := dzOf) (dz_rep) (e_t4 (a_cons (e_var 3) (a_cons (e_bl _) (a_cons (e_var 5) (a_cons (e_var 6) a_nil)))))) a_nil))) (szl (n := 3) rfl (by decide)))))) fun v_some_23 => (d_app 9 rfl (wk_uns rfl) (exr_p (e_as (f := dzOf) (dz_rep) (e_t4 (a_cons (e_var 3) (a_cons (e_var 4) (a_cons (e_var 5) (a_cons (e_bl _) a_nil))))))) fun v_some_24 => (d_retR (wk_uns rfl) (r_op2 o_ixL (exr_p (e_varS 9)) (r_op2 o_mod (exr_p (e_var 2)) (exr_p (e_opA (x := (v_some_24, ())) o_lenL (a_cons (e_varS 9) a_nil) rfl))))))))))))))
theorem ok_m_spoiled (T : Glb mg) (R0 : Raw c.K mg "_law_spoiled" "_law_spoiled" s_spoiled) :
    Cal P w c.K mg base "_law_spoiled" 1 ["_law_size_here", "_law_stroke_here", "_law_number"] (spF c (fun x : (Int × Int) × (T4 Str Int Int Int) × Int × Unit => m_spoiled x.1 x.2.1 x.2.2.1) (fun x : Dz => kFr c.K x)) := by
  obtain ⟨f, fd, gf, F⟩ := R0.ex
  exact ⟨f, fd, gf, F.kp, F.binds fun _ _ _ _ _ _ us hl => match us, hl with | [_, _, _], _ => rfl, ok_m_spoiled_F T F⟩
theorem ok_m_law_F (T : Glb mg) {f : Addr} {fd : FuncData} (F : Fun c.K "law" "law" s_law f fd)
    (C_m_size : Cal P w c.K mg base "_law_size" 2 ["_law_cell_here"] (spF c (fun x : Int × Unit => m_size x.1) (fun x : (Int × Int) => kFr c.K x)))
    (C_m_cell : Cal P w c.K mg base "_law_cell" 1 ["_law_script", "_law_k"] (spF c (fun x : (Sq Int) × Int × Unit => m_cell x.1 x.2.1) (fun x : Int => kFr c.K x)))
    (C_m_stroke : Cal P w c.K mg base "_law_stroke" 1 ["_law_size_here", "_law_number"] (spF c (fun x : (Int × Int) × Int × Unit => m_stroke x.1 x.2.1) (fun x : (T4 Str Int Int Int) => kFr c.K x)))
    (C_m_mixed : Cal P w c.K mg base "_law_mixed" 1 ["_law_cell_here", "_law_k"] (spF c (fun x : Int × Int × Unit => m_mixed x.1 x.2.1) (fun x : Int => kFr c.K x)))
    (C_m_cells : Cal P w c.K mg base "_law_cells" 1 ["_law_stroke_here"] (spF c (fun x : (T4 Str Int Int Int) × Unit => m_cells x.1) (fun x : (List (Int × Int)) => kNw c.K x)))
    (C_m_lies_on : Cal P w c.K mg base "lies_on" 2 ["size", "thing"] (spF c (fun x : (Int × Int) × Dz × Unit => m_lies_on x.1 x.2.1) (fun x : Bool => kFr c.K x)))
    (C_m_cells_cut : Cal P w c.K mg base "cells_cut" 2 ["size", "stroke"] (spF c (fun x : (Int × Int) × (T4 Str Int Int Int) × Unit => m_cells_cut x.1 x.2.1) (fun x : Int => kFr c.K x)))
    (C_m_spoiled : Cal P w c.K mg base "_law_spoiled" 1 ["_law_size_here", "_law_stroke_here", "_law_number"] (spF c (fun x : (Int × Int) × (T4 Str Int Int Int) × Int × Unit => m_spoiled x.1 x.2.1 x.2.2.1) (fun x : Dz => kFr c.K x))) :
    FnOk P w c.K mg base (L2.CX P w) 3 f fd ["_law_script"] (spF c (fun x : (Sq Int) × Unit => m_law x.1) (fun x : Bool => kFr c.K x)) := by
  obtain ⟨f_m_size, fd_m_size, g_m_size, k_m_size, b_m_size, G_m_size⟩ := C_m_size.ex
  obtain ⟨f_m_cell, fd_m_cell, g_m_cell, k_m_cell, b_m_cell, G_m_cell⟩ := C_m_cell.ex
  obtain ⟨f_m_stroke, fd_m_stroke, g_m_stroke, k_m_stroke, b_m_stroke, G_m_stroke⟩ := C_m_stroke.ex
  obtain ⟨f_m_mixed, fd_m_mixed, g_m_mixed, k_m_mixed, b_m_mixed, G_m_mixed⟩ := C_m_mixed.ex
  obtain ⟨f_m_cells, fd_m_cells, g_m_cells, k_m_cells, b_m_cells, G_m_cells⟩ := C_m_cells.ex
  obtain ⟨f_m_lies_on, fd_m_lies_on, g_m_lies_on, k_m_lies_on, b_m_lies_on, G_m_lies_on⟩ := C_m_lies_on.ex
  obtain ⟨f_m_cells_cut, fd_m_cells_cut, g_m_cells_cut, k_m_cells_cut, b_m_cells_cut, G_m_cells_cut⟩ := C_m_cells_cut.ex
  obtain ⟨f_m_spoiled, fd_m_spoiled, g_m_spoiled, k_m_spoiled, b_m_spoiled, G_m_spoiled⟩ := C_m_spoiled.ex
  have nd := sc_law.nd
  refine F.okX sc_law (fun vs H Q E h => spF_len vs H Q E h) (fun cdv A outer s H vs Q E hr h => ?_)
  refine ⟨_, (pss_cons (ps_set (i := 1) nd rfl (by first | exact Or.inl rfl | exact Or.inr rfl) (pe_callS G_m_size (hr.mono (by decide)) (by rfl) g_m_size k_m_size b_m_size (fun σ => passAt (takes_of rfl rfl rfl rfl) σ) (pa_cons (pe_callS G_m_cell (hr.mono (by decide)) (by rfl) g_m_cell k_m_cell b_m_cell (fun σ => passAt (takes_of rfl rfl rfl rfl) σ) (pa_cons (pv 0) (pa_cons pe_int pa_nil))) pa_nil))) (pss_cons (ps_for (passes_of rfl) rfl (pi_range2 (by rfl) T.b_range (pa_cons pe_int (pa_cons (pe_callB (call_max2 (by rfl)) (by rfl) T.b_max (by decide +kernel) (pa_cons pe_int (pa_cons (pe_callB (call_min2 (by rfl)) (by rfl) T.b_min (by decide +kernel) (pa_cons (pe_callB (r := Fw.rLen c.K) call_len_seq (by rfl) T.b_len (by decide +kernel) (pa_cons (pv 0) pa_nil)) (pa_cons pe_int pa_nil))) pa_nil))) pa_nil))) (pg_name (i := 2) nd rfl (by first | exact Or.inl rfl | exact Or.inr rfl)) (pss_cons (ps_set (i := 3) nd rfl (by first | exact Or.inl rfl | exact Or.inr rfl) (pe_callS G_m_stroke (hr.mono (by decide)) (by rfl) g_m_stroke k_m_stroke b_m_stroke (fun σ => passAt (takes_of rfl rfl rfl rfl) σ) (pa_cons (pv 1) (pa_cons (pe_callS G_m_mixed (hr.mono (by decide)) (by rfl) g_m_mixed k_m_mixed b_m_mixed (fun σ => passAt (takes_of rfl rfl rfl rfl) σ) (pa_cons (pe_callS G_m_cell (hr.mono (by decide)) (by rfl) g_m_cell k_m_cell b_m_cell (fun σ => passAt (takes_of rfl rfl rfl rfl) σ) (pa_cons (pv 0) (pa_cons (pv 2) pa_nil))) (pa_cons pe_int pa_nil))) pa_nil)))) (pss_cons (ps_set (i := 4) nd rfl (by first | exact Or.inl rfl | exact Or.inr rfl) pe_int) (pss_cons (ps_for (passes_of rfl) rfl (pi_list (pe_callS G_m_cells (hr.mono (by decide)) (by rfl) g_m_cells k_m_cells b_m_cells (fun σ => passAt (takes_of rfl rfl rfl rfl) σ) (pa_cons (pv 3) pa_nil))) (pg_tup (by rfl) (pgs_cons (pg_name (i := 5) nd rfl (by first | exact Or.inl rfl | exact Or.inr rfl)) (pgs_cons (pg_name (i := 6) nd rfl (by first | exact Or.inl rfl | exact Or.inr rfl)) pgs_nil))) (pss_cons (ps_set (i := 4) nd rfl (by first | exact Or.inl rfl | exact Or.inr rfl) (pe_op op_add (pv 4) (pe_op op_shl pe_int (pe_op op_add (pe_op op_mul (pv 6) (pe_ix (r := rIxT c.K) ix_tup (pv 1) pe_int (fun _ _ => rfl))) (pv 5))))) pss_nil)) (pss_cons (ps_if (PW.pt (pw_or (pt_cmpR op_isnot_bl (pe_callS G_m_lies_on (hr.mono (by decide)) (by rfl) g_m_lies_on k_m_lies_on b_m_lies_on (fun σ => passAt (takes_of rfl rfl rfl rfl) σ) (pa_cons (pv 1) (pa_cons (pv 3) pa_nil))) pe_bl (nomark _)) (pw_or (pt_cmpR op_ne (pe_callS G_m_cells_cut (hr.mono (by decide)) (by rfl) g_m_cells_cut k_m_cells_cut b_m_cells_cut (fun σ => passAt (takes_of rfl rfl rfl rfl) σ) (pa_cons (pv 1) (pa_cons (pv 3) pa_nil))) (pv 4) (nomark _)) (pw_or1 (pt_cmpR op_ne (pe_callS G_m_cells_cut (hr.mono (by decide)) (by rfl) g_m_cells_cut k_m_cells_cut b_m_cells_cut (fun σ => passAt (takes_of rfl rfl rfl rfl) σ) (pa_cons (pv 1) (pa_cons (pv 3) pa_nil))) (pv 4) (nomark _)))))) (pss_cons (ps_ret pe_bl) pss_nil) pss_nil) (pss_cons (ps_if (pt_cmpR op_isnot_bl (pe_callS G_m_lies_on (hr.mono (by decide)) (by rfl) g_m_lies_on k_m_lies_on b_m_lies_on (fun σ => passAt (takes_of rfl rfl rfl rfl) σ) (pa_cons (pv 1) (pa_cons (pe_callS G_m_spoiled (hr.mono (by decide)) (by rfl) g_m_spoiled k_m_spoiled b_m_spoiled (fun σ => passAt (takes_of rfl rfl rfl rfl) σ) (pa_cons (pv 1) (pa_cons (pv 3) (pa_cons (pe_callS G_m_mixed (hr.mono (by decide)) (by rfl) g_m_mixed k_m_mixed b_m_mixed (fun σ => passAt (takes_of rfl rfl rfl rfl) σ) (pa_cons (pe_callS G_m_cell (hr.mono (by decide)) (by rfl) g_m_cell k_m_cell b_m_cell (fun σ => passAt (takes_of rfl rfl rfl rfl) σ) (pa_cons (pv 0) (pa_cons (pv 2) pa_nil))) (pa_cons pe_int pa_nil))) pa_nil)))) pa_nil))) pe_bl (nomark _)) (pss_cons (ps_ret pe_bl) pss_nil) pss_nil) pss_nil)))))) (pss_cons (ps_ret pe_bl) pss_nil))), ?_⟩
  have hm : ∀ x : (Sq Int) × Unit, (fun x : (Sq Int) × Unit => m_law x.1) x = (m_law_b x.1).run := fun _ => by unfold m_law; rfl
  have hN : N_law.length = Args.num ((Sq Int) × Unit) + 6 := rfl
  refine fn_run (Bs := fun _ => uns 7) (n := 6) (m := fun x => m_law_b x.1) h ?hN ?hm ?hd
  case hN => exact hN
  case hm => exact hm
  intro W x
  obtain ⟨v_script, ⟨⟩⟩ := x
  show Den _ _ _ _ _ _ _ [(.fr v_script), .un, .un, .un, .un, .un, .un] (m_law_b v_script) (fun _ => uns 7)
  unfold m_law_b
  exact (d_get 1 (wk_uns rfl) (r_call (aar_cons (r_call1 (aa_cons (e_var 0) (aa_cons (e_int _) aa_nil)) rfl) aar_nil)) fun v_size_here_4 => (d_for (Bs := (fun (s7 : Unit) => [(.fr v_script), (.fr v_size_here_4), .un, .un, .un, .un, .un])) (wk_uns rfl) (i_rng2 (exr_p (e_int _)) (exr_p (e_opA (x := ((3 : Int), (if (62 : Int) < (v_script.l.length : Int) then (62 : Int) else (v_script.l.length : Int)), ())) o_max (a_cons (e_int _) (a_cons (e_opA (x := ((v_script.l.length : Int), (62 : Int), ())) o_min (a_cons (e_opA (x := (v_script.l, ())) o_lenL (a_cons (e_shQ (e_var 0)) a_nil) rfl) (a_cons (e_int _) a_nil)) rfl) a_nil)) rfl))) (.same (.same (.same (.same (.same (.same (.same .nil))))))) (fun _ _ => (g_name 2)) (fun s7 x8 B64 => (d_get 3 (wk_uns rfl) (r_call (aar_cons (exr_p (e_var 1)) (aar_cons (r_call (aar_cons (r_call1 (aa_cons (e_var 0) (aa_cons (e_var 2) aa_nil)) rfl) (aar_cons (exr_p (e_int _)) aar_nil))) aar_nil))) fun v_stroke_here_19 => (d_let 4 (e_int _) fun v_due_20 => (d_for (Bs := (fun (s21 : Int) => [(.fr v_script), (.fr v_size_here_4), (.fr x8), (.fr v_stroke_here_19), (.fr s21), .un, .un])) (wk_uns rfl) (i_list (r_fz (r_call1 (aa_cons (e_var 3) aa_nil) rfl))) (.same (.same (.same (.same (.same (.same (.same .nil))))))) (fun _ _ => (g_tup2 5 6)) (fun s21 x22 B61 => (d_get 4 (wk_uns rfl) (r_op2 (o_int fun i j => i + j) (exr_p (e_var 4)) (r_op2 o_shl (exr_p (e_int _)) (r_op2 (o_int fun i j => i + j) (r_op2 o_mul (exr_p (e_var 6)) (exr_p (e_ixc (x := v_size_here_4) p_0 (e_var 1) (e_int _) rfl))) (exr_p (e_var 5))))) fun v_due_31 => (d_nx (.same (.same (.same (.same (.same (.drop (.drop .nil)))))))))) (fun s32 => (d_ifa (wk_uns rfl) (tr_or (tr_e (r_op2 o_nisB (r_call1 (aa_cons (e_var 1) (aa_cons (e_as (f := dzOf) (dz_rep) (e_var 3)) aa_nil)) rfl) (exr_p (e_bl _)))) (tr_or (tr_e (r_op2 o_ne (r_call1 (aa_cons (e_var 1) (aa_cons (e_var 3) aa_nil)) rfl) (exr_p (e_var 4)))) (tr_e (r_op2 o_ne (r_call1 (aa_cons (e_var 1) (aa_cons (e_var 3) aa_nil)) rfl) (exr_p (e_var 4)))))) (d_ret (e_bl _)) (d_ifa (wk_uns rfl) (tr_e (r_op2 o_nisB (r_call (aar_cons (exr_p (e_var 1)) (aar_cons (r_call (aar_cons (exr_p (e_var 1)) (aar_cons (exr_p (e_var 3)) (aar_cons (r_call (aar_cons (r_call1 (aa_cons (e_var 0) (aa_cons (e_var 2) aa_nil)) rfl) (aar_cons (exr_p (e_int _)) aar_nil))) aar_nil)))) aar_nil))) (exr_p (e_bl _)))) (d_ret (e_bl _)) (d_nx (.same (.same (.drop (.drop (.drop (.same (.same .nil))))))))))))))) (fun s62 => (d_ret (e_bl _)))))
theorem ok_m_law (T : Glb mg) (R0 : Raw c.K mg "law" "law" s_law)
    (C_m_size : Cal P w c.K mg base "_law_size" 2 ["_law_cell_here"] (spF c (fun x : Int × Unit => m_size x.1) (fun x : (Int × Int) => kFr c.K x)))
    (C_m_cell : Cal P w c.K mg base "_law_cell" 1 ["_law_script", "_law_k"] (spF c (fun x : (Sq Int) × Int × Unit => m_cell x.1 x.2.1) (fun x : Int => kFr c.K x)))
    (C_m_stroke : Cal P w c.K mg base "_law_stroke" 1 ["_law_size_here", "_law_number"] (spF c (fun x : (Int × Int) × Int × Unit => m_stroke x.1 x.2.1) (fun x : (T4 Str Int Int Int) => kFr c.K x)))
    (C_m_mixed : Cal P w c.K mg base "_law_mixed" 1 ["_law_cell_here", "_law_k"] (spF c (fun x : Int × Int × Unit => m_mixed x.1 x.2.1) (fun x : Int => kFr c.K x)))
    (C_m_cells : Cal P w c.K mg base "_law_cells" 1 ["_law_stroke_here"] (spF c (fun x : (T4 Str Int Int Int) × Unit => m_cells x.1) (fun x : (List (Int × Int)) => kNw c.K x)))
    (C_m_lies_on : Cal P w c.K mg base "lies_on" 2 ["size", "thing"] (spF c (fun x : (Int × Int) × Dz × Unit => m_lies_on x.1 x.2.1) (fun x : Bool => kFr c.K x)))
    (C_m_cells_cut : Cal P w c.K mg base "cells_cut" 2 ["size", "stroke"] (spF c (fun x : (Int × Int) × (T4 Str Int Int Int) × Unit => m_cells_cut x.1 x.2.1) (fun x : Int => kFr c.K x)))
    (C_m_spoiled : Cal P w c.K mg base "_law_spoiled" 1 ["_law_size_here", "_law_stroke_here", "_law_number"] (spF c (fun x : (Int × Int) × (T4 Str Int Int Int) × Int × Unit => m_spoiled x.1 x.2.1 x.2.2.1) (fun x : Dz => kFr c.K x))) :
    Cal P w c.K mg base "law" 3 ["_law_script"] (spF c (fun x : (Sq Int) × Unit => m_law x.1) (fun x : Bool => kFr c.K x)) := by
  obtain ⟨f, fd, gf, F⟩ := R0.ex
  exact ⟨f, fd, gf, F.kp, F.binds fun _ _ _ _ _ _ us hl => match us, hl with | [_], _ => rfl, ok_m_law_F T F C_m_size C_m_cell C_m_stroke C_m_mixed C_m_cells C_m_lies_on C_m_cells_cut C_m_spoiled⟩
end
theorem all_mk {l : PySem.W.OpenLaw} {w : World} {K : PySem.W.Frag} {h : Heap} {mg : Str → Option Value} {fa : Addr} (X : K.In h) (G : h.Ns mainGlobals mg) (hfa : mg "law" = some (.ref fa))
    {od0 an0 : Option Addr} {sl0 : Array (Option Value)} {oc0 kV0 dc0 pm0 cd0 ct0 : Value} {f0 : Addr}
    {od1 an1 : Option Addr} {sl1 : Array (Option Value)} {oc1 kV1 dc1 pm1 cd1 ct1 : Value} {f1 : Addr}
    {od2 an2 : Option Addr} {sl2 : Array (Option Value)} {oc2 kV2 dc2 pm2 cd2 ct2 : Value} {f2 : Addr}
    {od3 an3 : Option Addr} {sl3 : Array (Option Value)} {oc3 kV3 dc3 pm3 cd3 ct3 : Value} {f3 : Addr}
    {od4 an4 : Option Addr} {sl4 : Array (Option Value)} {oc4 kV4 dc4 pm4 cd4 ct4 : Value} {f4 : Addr}
    {od5 an5 : Option Addr} {sl5 : Array (Option Value)} {oc5 kV5 dc5 pm5 cd5 ct5 : Value} {f5 : Addr}
    {od6 an6 : Option Addr} {sl6 : Array (Option Value)} {oc6 kV6 dc6 pm6 cd6 ct6 : Value} {f6 : Addr}
    {od7 an7 : Option Addr} {sl7 : Array (Option Value)} {oc7 kV7 dc7 pm7 cd7 ct7 : Value} {f7 : Addr}
    {od8 an8 : Option Addr} {sl8 : Array (Option Value)} {oc8 kV8 dc8 pm8 cd8 ct8 : Value} {f8 : Addr}
    {od9 an9 : Option Addr} {sl9 : Array (Option Value)} {oc9 kV9 dc9 pm9 cd9 ct9 : Value} {f9 : Addr}
    {od10 an10 : Option Addr} {sl10 : Array (Option Value)} {oc10 kV10 dc10 pm10 cd10 ct10 : Value} {f10 : Addr}
    (hb_bool : PySem.W.nsIn K mainGlobals "bool" = some none)
    (hb_int : PySem.W.nsIn K mainGlobals "int" = some none)
    (hb_isinstance : PySem.W.nsIn K mainGlobals "isinstance" = some none)
    (hb_len : PySem.W.nsIn K mainGlobals "len" = some none)
    (hb_max : PySem.W.nsIn K mainGlobals "max" = some none)
    (hb_min : PySem.W.nsIn K mainGlobals "min" = some none)
    (hb_range : PySem.W.nsIn K mainGlobals "range" = some none)
    (hb_tuple : PySem.W.nsIn K mainGlobals "tuple" = some none)
    (a0 : PySem.W.nsIn K mainGlobals "_law_cell" = some (some (.ref f0))) (l0 : K.lookup f0 = some ⟨oc0, od0, .func (PySem.W.fnOf "_law_cell" "_law_cell" (defArgs s_cell) (defBody s_cell) (defScope s_cell) .none kV0 dc0 pm0 an0 cd0 ct0), sl0⟩) (c0 : PySem.W.codeIn K cd0 "_law_cell" = true) (k0 : PySem.W.keepIn K (.ref f0) = true)
    (a1 : PySem.W.nsIn K mainGlobals "_law_mixed" = some (some (.ref f1))) (l1 : K.lookup f1 = some ⟨oc1, od1, .func (PySem.W.fnOf "_law_mixed" "_law_mixed" (defArgs s_mixed) (defBody s_mixed) (defScope s_mixed) .none kV1 dc1 pm1 an1 cd1 ct1), sl1⟩) (c1 : PySem.W.codeIn K cd1 "_law_mixed" = true) (k1 : PySem.W.keepIn K (.ref f1) = true)
    (a2 : PySem.W.nsIn K mainGlobals "_law_size" = some (some (.ref f2))) (l2 : K.lookup f2 = some ⟨oc2, od2, .func (PySem.W.fnOf "_law_size" "_law_size" (defArgs s_size) (defBody s_size) (defScope s_size) .none kV2 dc2 pm2 an2 cd2 ct2), sl2⟩) (c2 : PySem.W.codeIn K cd2 "_law_size" = true) (k2 : PySem.W.keepIn K (.ref f2) = true)
    (a3 : PySem.W.nsIn K mainGlobals "_law_stroke" = some (some (.ref f3))) (l3 : K.lookup f3 = some ⟨oc3, od3, .func (PySem.W.fnOf "_law_stroke" "_law_stroke" (defArgs s_stroke) (defBody s_stroke) (defScope s_stroke) .none kV3 dc3 pm3 an3 cd3 ct3), sl3⟩) (c3 : PySem.W.codeIn K cd3 "_law_stroke" = true) (k3 : PySem.W.keepIn K (.ref f3) = true)
    (a4 : PySem.W.nsIn K mainGlobals "_law_cells" = some (some (.ref f4))) (l4 : K.lookup f4 = some ⟨oc4, od4, .func (PySem.W.fnOf "_law_cells" "_law_cells" (defArgs s_cells) (defBody s_cells) (defScope s_cells) .none kV4 dc4 pm4 an4 cd4 ct4), sl4⟩) (c4 : PySem.W.codeIn K cd4 "_law_cells" = true) (k4 : PySem.W.keepIn K (.ref f4) = true)
    (a5 : PySem.W.nsIn K mainGlobals "is_number" = some (some (.ref f5))) (l5 : K.lookup f5 = some ⟨oc5, od5, .func (PySem.W.fnOf "is_number" "is_number" (defArgs s_is_number) (defBody s_is_number) (defScope s_is_number) .none kV5 dc5 pm5 an5 cd5 ct5), sl5⟩) (c5 : PySem.W.codeIn K cd5 "is_number" = true) (k5 : PySem.W.keepIn K (.ref f5) = true)
    (a6 : PySem.W.nsIn K mainGlobals "lies_on" = some (some (.ref f6))) (l6 : K.lookup f6 = some ⟨oc6, od6, .func (PySem.W.fnOf "lies_on" "lies_on" (defArgs s_lies_on) (defBody s_lies_on) (defScope s_lies_on) .none kV6 dc6 pm6 an6 cd6 ct6), sl6⟩) (c6 : PySem.W.codeIn K cd6 "lies_on" = true) (k6 : PySem.W.keepIn K (.ref f6) = true)
    (a7 : PySem.W.nsIn K mainGlobals "set_of" = some (some (.ref f7))) (l7 : K.lookup f7 = some ⟨oc7, od7, .func (PySem.W.fnOf "set_of" "set_of" (defArgs s_set_of) (defBody s_set_of) (defScope s_set_of) .none kV7 dc7 pm7 an7 cd7 ct7), sl7⟩) (c7 : PySem.W.codeIn K cd7 "set_of" = true) (k7 : PySem.W.keepIn K (.ref f7) = true)
    (a8 : PySem.W.nsIn K mainGlobals "cells_cut" = some (some (.ref f8))) (l8 : K.lookup f8 = some ⟨oc8, od8, .func (PySem.W.fnOf "cells_cut" "cells_cut" (defArgs s_cells_cut) (defBody s_cells_cut) (defScope s_cells_cut) .none kV8 dc8 pm8 an8 cd8 ct8), sl8⟩) (c8 : PySem.W.codeIn K cd8 "cells_cut" = true) (k8 : PySem.W.keepIn K (.ref f8) = true)
    (a9 : PySem.W.nsIn K mainGlobals "_law_spoiled" = some (some (.ref f9))) (l9 : K.lookup f9 = some ⟨oc9, od9, .func (PySem.W.fnOf "_law_spoiled" "_law_spoiled" (defArgs s_spoiled) (defBody s_spoiled) (defScope s_spoiled) .none kV9 dc9 pm9 an9 cd9 ct9), sl9⟩) (c9 : PySem.W.codeIn K cd9 "_law_spoiled" = true) (k9 : PySem.W.keepIn K (.ref f9) = true)
    (a10 : PySem.W.nsIn K mainGlobals "law" = some (some (.ref f10))) (l10 : K.lookup f10 = some ⟨oc10, od10, .func (PySem.W.fnOf "law" "law" (defArgs s_law) (defBody s_law) (defScope s_law) .none kV10 dc10 pm10 an10 cd10 ct10), sl10⟩) (c10 : PySem.W.codeIn K cd10 "law" = true) (k10 : PySem.W.keepIn K (.ref f10) = true) :
    ∃ fd : FuncData, (∀ (s : Shared) (v : Value), BindsTo s fd ⟨[v], []⟩ [("_law_script", v)]) ∧ ∀ base : Heap, K.In base → base.Ns mainGlobals mg → FnOk l.prog w K mg base (L2.CX l.prog w) 3 fa fd ["_law_script"] (spF ⟨K, mK K⟩ (fun x : Sq Int × Unit => m_law x.1) (fun x : Bool => kFr K x)) := by
  have R_cell : Raw K mg "_law_cell" "_law_cell" s_cell := ⟨_, _, PySem.W.mg_of X G a0, fun_mk (st := s_cell) l0 c0 k0⟩
  have R_mixed : Raw K mg "_law_mixed" "_law_mixed" s_mixed := ⟨_, _, PySem.W.mg_of X G a1, fun_mk (st := s_mixed) l1 c1 k1⟩
  have R_size : Raw K mg "_law_size" "_law_size" s_size := ⟨_, _, PySem.W.mg_of X G a2, fun_mk (st := s_size) l2 c2 k2⟩
  have R_stroke : Raw K mg "_law_stroke" "_law_stroke" s_stroke := ⟨_, _, PySem.W.mg_of X G a3, fun_mk (st := s_stroke) l3 c3 k3⟩
  have R_cells : Raw K mg "_law_cells" "_law_cells" s_cells := ⟨_, _, PySem.W.mg_of X G a4, fun_mk (st := s_cells) l4 c4 k4⟩
  have R_is_number : Raw K mg "is_number" "is_number" s_is_number := ⟨_, _, PySem.W.mg_of X G a5, fun_mk (st := s_is_number) l5 c5 k5⟩
  have R_lies_on : Raw K mg "lies_on" "lies_on" s_lies_on := ⟨_, _, PySem.W.mg_of X G a6, fun_mk (st := s_lies_on) l6 c6 k6⟩
  have R_set_of : Raw K mg "set_of" "set_of" s_set_of := ⟨_, _, PySem.W.mg_of X G a7, fun_mk (st := s_set_of) l7 c7 k7⟩
  have R_cells_cut : Raw K mg "cells_cut" "cells_cut" s_cells_cut := ⟨_, _, PySem.W.mg_of X G a8, fun_mk (st := s_cells_cut) l8 c8 k8⟩
  have R_spoiled : Raw K mg "_law_spoiled" "_law_spoiled" s_spoiled := ⟨_, _, PySem.W.mg_of X G a9, fun_mk (st := s_spoiled) l9 c9 k9⟩
  have R_law : Raw K mg "law" "law" s_law := ⟨_, _, PySem.W.mg_of X G a10, fun_mk (st := s_law) l10 c10 k10⟩
  have T : Glb mg := ⟨PySem.W.mg_none_of X G hb_bool, PySem.W.mg_none_of X G hb_int, PySem.W.mg_none_of X G hb_isinstance, PySem.W.mg_none_of X G hb_len, PySem.W.mg_none_of X G hb_max, PySem.W.mg_none_of X G hb_min, PySem.W.mg_none_of X G hb_range, PySem.W.mg_none_of X G hb_tuple⟩
  have e := hfa.symm.trans (PySem.W.mg_of X G a10)
  cases e
  have FL := fun_mk (st := s_law) l10 c10 k10
  refine ⟨PySem.W.fnOf "law" "law" (defArgs s_law) (defBody s_law) (defScope s_law) .none kV10 dc10 pm10 an10 cd10 ct10, fun s v => .of_eq rfl, fun base _ _ => ?_⟩
  have C_m_cell := ok_m_cell (P := l.prog) (w := w) (c := ⟨K, mK K⟩) (base := base) T R_cell 
  have C_m_mixed := ok_m_mixed (P := l.prog) (w := w) (c := ⟨K, mK K⟩) (base := base) T R_mixed 
  have C_m_size := ok_m_size (P := l.prog) (w := w) (c := ⟨K, mK K⟩) (base := base) T R_size C_m_mixed
  have C_m_stroke := ok_m_stroke (P := l.prog) (w := w) (c := ⟨K, mK K⟩) (base := base) T R_stroke 
  have C_m_cells := ok_m_cells (P := l.prog) (w := w) (c := ⟨K, mK K⟩) (base := base) T R_cells 
  have C_m_is_number := ok_m_is_number (P := l.prog) (w := w) (c := ⟨K, mK K⟩) (base := base) T R_is_number 
  have C_m_lies_on := ok_m_lies_on (P := l.prog) (w := w) (c := ⟨K, mK K⟩) (base := base) T R_lies_on C_m_is_number
  have C_m_set_of := ok_m_set_of (P := l.prog) (w := w) (c := ⟨K, mK K⟩) (base := base) T R_set_of 
  have C_m_cells_cut := ok_m_cells_cut (P := l.prog) (w := w) (c := ⟨K, mK K⟩) (base := base) T R_cells_cut C_m_set_of
  have C_m_spoiled := ok_m_spoiled (P := l.prog) (w := w) (c := ⟨K, mK K⟩) (base := base) T R_spoiled 
  exact ok_m_law_F T FL C_m_size C_m_cell C_m_stroke C_m_mixed C_m_cells C_m_lies_on C_m_cells_cut C_m_spoiled
end Wk

open PySem PySem.W PyProof.Rows
set_option maxRecDepth 100000 in
set_option maxHeartbeats 0 in
theorem PySem.Challenge.cw_lostblock_k27_strokes_and_cells_holds : PySem.Challenge.rw_lostblock_k27_strokes_and_cells.Holds := by
  w_on; o_law; k_head; (case hw => w_witness2)
  k_fill
  refine Fw.walk_lawM (l := PySem.Challenge.rw_lostblock_k27_strokes_and_cells) (k := 3) (x := "_law_script") (f := Mir.m_law) Ma.law_true rfl rfl ⟨rfl, by decide, by decide⟩ (fun w h Y => PySem.W.kIn_of Y) ?F
  case F =>
    intro w mg fa h KX G hmg
    refine' Wk.all_mk KX G hmg ?hb_bool ?hb_int ?hb_isinstance ?hb_len ?hb_max ?hb_min ?hb_range ?hb_tuple ?a0 ?l0 ?c0 ?k0 ?a1 ?l1 ?c1 ?k1 ?a2 ?l2 ?c2 ?k2 ?a3 ?l3 ?c3 ?k3 ?a4 ?l4 ?c4 ?k4 ?a5 ?l5 ?c5 ?k5 ?a6 ?l6 ?c6 ?k6 ?a7 ?l7 ?c7 ?k7 ?a8 ?l8 ?c8 ?k8 ?a9 ?l9 ?c9 ?k9 ?a10 ?l10 ?c10 ?k10
    (case hb_bool => k_is)
    (case hb_int => k_is)
    (case hb_isinstance => k_is)
    (case hb_len => k_is)
    (case hb_max => k_is)
    (case hb_min => k_is)
    (case hb_range => k_is)
    (case hb_tuple => k_is)
    (case a0 => k_is)
    (case l0 => k_is)
    (case c0 => k_is)
    (case k0 => k_is)
    (case a1 => k_is)
    (case l1 => k_is)
    (case c1 => k_is)
    (case k1 => k_is)
    (case a2 => k_is)
    (case l2 => k_is)
    (case c2 => k_is)
    (case k2 => k_is)
    (case a3 => k_is)
    (case l3 => k_is)
    (case c3 => k_is)
    (case k3 => k_is)
    (case a4 => k_is)
    (case l4 => k_is)
    (case c4 => k_is)
    (case k4 => k_is)
    (case a5 => k_is)
    (case l5 => k_is)
    (case c5 => k_is)
    (case k5 => k_is)
    (case a6 => k_is)
    (case l6 => k_is)
    (case c6 => k_is)
    (case k6 => k_is)
    (case a7 => k_is)
    (case l7 => k_is)
    (case c7 => k_is)
    (case k7 => k_is)
    (case a8 => k_is)
    (case l8 => k_is)
    (case c8 => k_is)
    (case k8 => k_is)
    (case a9 => k_is)
    (case l9 => k_is)
    (case c9 => k_is)
    (case k9 => k_is)
    (case a10 => k_is)
    (case l10 => k_is)
    (case c10 => k_is)
    (case k10 => k_is)
#print axioms PySem.Challenge.cw_lostblock_k27_strokes_and_cells_holds
