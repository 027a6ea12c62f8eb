import PyProof.Rows.All
import Wide.All
import OpenK.AllK
import Wide.FinOn
import HandS.ForMost
import HandS.Evl
import HandS.ForExc
import HandS.CallSlots
import HandS.Wide
import HandS.TupLe
import HandS.Zip
import HandS.IsInst
import HandS.TupAny
import HandS.Deep
import PyProof.StrOps2
import PyProof.AttrMissHeap
import PyProof.TupleIter
import HandS.Replace
import HandS.Dict
import HandS.RevRange
import HandS.Iter
import HandS.ExcInit
import HandS.ExcIs
import HandS.ExcField
import HandS.WordsExc
import KE.SortKeyHeap
import HandS.More
import HandS.SortKw
import HandS.Keys
import HandS.SetFor
import HandS.Strs
import PyProof.Rows.SortShellAny
import HandS.WordsDict
import HandS.WideBits
import HandS.Conv
import HandS.ListItems
import HandS.SetKeys
import HandS.SortRule
import PyProof.DictMoreH
import HandS.TryOnly
import KE.DataCmp
import PyProof.FactsAll.dict
import HandS.ExcOwn
import PyProof.ExcBaseAll.ValueError
import KE.KDictZip
import KE.GoesEnum
import HandS.Finally
import PyProof.SumWalkG
import PyProof.EqKinds
import KE.KIndexOf
import HandS.DictEq
import HandS.OwnEq
import HandS.TryMany
import HandS.RaiseMore
import HandS.ReplaceLit
import KE.KDictCopyH
import HandS.Lambda
import HandS.EndOwn
import HandS.Head2
import PySem.Challenge.RW_lostblock_k25_order_tells
set_option Elab.async false
set_option linter.all false
set_option maxRecDepth 100000
set_option synthInstance.maxSize 4000
set_option maxHeartbeats 8000000
namespace Hd
open PySem PySem.W PySem.Calls PyProof.Rows
abbrev R : OpenRow := OpenLaw.row PySem.Challenge.rw_lostblock_k25_order_tells
section
local macro_rules | `(tactic| o_head $H) => `(tactic| assumption)
set_option maxHeartbeats 0 in
theorem z (z : R.Holds) : R.Holds := by k_head
end
noncomputable section
def q : Program := view R.prog [13]
def n0 : List PySem.Str := [("__name__" : PySem.Str), ("within" : PySem.Str), ("later_ones" : PySem.Str), ("find_next" : PySem.Str), ("reached_from" : PySem.Str), ("chain_from" : PySem.Str), ("fewest_blocks" : PySem.Str), ("_law_cell_at" : PySem.Str), ("_law_mixed" : PySem.Str), ("_law_nested" : PySem.Str), ("_law_growing" : PySem.Str)]
def names : List PySem.Str := n0
def a0 : List Addr := [2, 3, 6, 15, 17, 18, 20, 21, 22, 25, 26, 27, 29, 30, 32, 33, 34, 36, 37, 39, 40, 41, 43, 44, 46, 47, 48, 51, 52, 53, 55, 56, 58, 59, 60, 62, 63, 65, 66, 67, 70, 71, 72, 74, 75, 77, 78, 79, 81, 82, 84, 85]
def as0 : List Addr := a0
theorem ek (P : Params) : as0 = (z.heap_1 P).map (·.1) := by kernel_rfl
abbrev E (w : World) (os : OsState) := HandSHeadRun.endF (HandSHeadRun.stepQ (HandSHeadRun.denQ HandSHeadRun.tabQ) R.prog w) 880 R.prog w os
theorem two {α β γ : Type} {o : Option α} {f : α → β} {g : α → γ} {x : β} {y : γ} (h1 : o.map f = some x) (h2 : o.map g = some y) : o.map (fun s => (f s, g s)) = some (x, y) := by
  cases o with
  | none => cases h1
  | some a => cases h1; cases h2; rfl
theorem app {α β : Type} {o : Option α} {f g : α → List β} {x y : List β} (h1 : o.map f = some x) (h2 : o.map g = some y) : o.map (fun s => f s ++ g s) = some (x ++ y) := by
  cases o with
  | none => cases h1
  | some a => cases h1; cases h2; rfl
set_option maxHeartbeats 0 in
theorem r1 (w : World) (os : OsState) : (E w os).map (fun s => HandSHeadRun.looksF R.prog (boot_heap w.params) s.abs) = some true := by kernel_rfl
set_option maxHeartbeats 0 in
theorem r2 (w : World) (os : OsState) : (E w os).map (fun s => HandSHeadRun.seenQ q names (importedModules R.prog.main.body) (fun s => xlAt q [] s && recOk R.toRowW.records s) s.abs) = some (openGood q names) := by kernel_rfl
set_option maxHeartbeats 0 in
theorem o0 (w : World) (os : OsState) : (E w os).map (fun s => a0.map (HandSHeadRun.getT s)) = some ((((z.heap_1 w.params).drop 0).take 52).map fun p => some p.2) := by kernel_rfl
def ob (s : SharedT) : List (Option Obj) := as0.map (HandSHeadRun.getT s)
theorem ob_eq (s : SharedT) : ob s = (kHook z.heap_1 as0 ek).obs s.abs := List.map_congr_left fun a _ => HandSHeadRun.getT_eq s a
theorem ob_s (s : SharedT) : ob s = a0.map (HandSHeadRun.getT s) := by
  unfold ob as0
  simp only [List.map_append]
theorem val_s (w : World) : ((z.heap_1 w.params).map fun p => some p.2) = ((((z.heap_1 w.params).drop 0).take 52).map fun p => some p.2) := by kernel_rfl
theorem run (w : World) : HandSHeadRun.RunEq R q (kHook z.heap_1 as0 ek) ob 880 names w := by
  intro os
  refine two (r1 w os) (two (r2 w os) ?_)
  show (E w os).map ob = some ((z.heap_1 w.params).map fun p => some p.2)
  rw [show ob = _ from funext ob_s, val_s]
  exact (o0 w os)
end
end Hd
namespace Fw
open PySem L2
abbrev Frag := PySem.W.Frag
def Inc (G H : Hp) : Prop := ∀ a o, G a = some o → H a = some o
theorem Inc.refl (H : Hp) : Inc H H := fun _ _ h => h
theorem Inc.trans {H H1 H2 : Hp} (a : Inc H H1) (b : Inc H1 H2) : Inc H H2 := fun x o h => b x o (a x o h)
theorem Inc.nope {G H : Hp} (s : Inc G H) {a : Addr} (h : H a = none) : G a = none := by
  cases e : G a with
  | none => rfl
  | some o => rw [s a o e] at h; cases h
theorem Inc.new {G : Hp} {a : Addr} {o : HO} (h : G a = none) : Inc G (upd G a o) := fun b u e => by
  rw [upd_ne (ne_of_none e h)]; exact e
theorem Inc.mut {G H : Hp} {a : Addr} {o : HO} (s : Inc G H) (h : G a = none) : Inc G (upd H a o) := fun b u e => by
  rw [upd_ne (ne_of_none e h)]; exact s b u e
theorem Inc.both {G H : Hp} {a : Addr} {o : HO} (s : Inc G H) : Inc (upd G a o) (upd H a o) := fun b u e => by
  by_cases q : b = a
  · subst q; rw [upd_same] at e ⊢; exact e
  · rw [upd_ne q] at e ⊢; exact s b u e
theorem Inc.rd {G H : Hp} {a : Addr} {u : HO} (e : Inc G H) (h : Rd G a u) : Rd H a u := by
  rcases h with h | ⟨o, h⟩
  · exact .inl (e a _ h)
  · exact .inr ⟨o, e a _ h⟩
theorem Inc.sql {K : Frag} {G H : Hp} {a : Addr} {xs : List V} (e : Inc G H) (h : SqL K G a xs) : SqL K H a xs := by
  rcases h with h | h
  · exact .inl (e.rd h)
  · exact .inr h
theorem Inc.sqt {K : Frag} {G H : Hp} {a : Addr} {xs : List V} (e : Inc G H) (h : SqT K G a xs) : SqT K H a xs := by
  rcases h with h | h
  · exact .inl (e.rd h)
  · exact .inr h
/-- what never changes -/
def imm : HO → Bool
  | .tup _ => true
  | .frz _ _ => true
  | .xd _ => true
  | .own _ => true
  | _ => false
/-- a world: what is frozen for good, and all that is tracked; what never changes is frozen -/
structure Wd where
  G : Hp
  H : Hp
  sub : Inc G H
  im : ∀ a u, H a = some u → imm u = true → G a = some u
theorem im_upd {G H : Hp} {p : Addr} {o : HO} (im : ∀ a u, H a = some u → imm u = true → G a = some u) (hi : imm o = false) : ∀ a u, upd H p o a = some u → imm u = true → G a = some u := fun a u h i => by
  by_cases q : a = p
  · subst q
    rw [upd_same] at h
    cases h
    rw [hi] at i; cases i
  · rw [upd_ne q] at h
    exact im a u h i
theorem im_both {G H : Hp} {p : Addr} {o : HO} (im : ∀ a u, H a = some u → imm u = true → G a = some u) : ∀ a u, upd H p o a = some u → imm u = true → upd G p o a = some u := fun a u h i => by
  by_cases q : a = p
  · subst q
    rw [upd_same] at h ⊢
    exact h
  · rw [upd_ne q] at h ⊢
    exact im a u h i
/-- all is frozen -/
def Wd.all (H : Hp) : Wd := ⟨H, H, fun _ _ h => h, fun _ _ h _ => h⟩
structure Le (W W' : Wd) : Prop where
  g : Inc W.G W'.G
  h : Inc W.H W'.H
  o : ∀ a, W.G a = none → W.H a ≠ none → W'.G a = none
theorem Le.refl (W : Wd) : Le W W := ⟨Inc.refl _, Inc.refl _, fun _ h _ => h⟩
theorem Le.trans {A B C : Wd} (x : Le A B) (y : Le B C) : Le A C := ⟨x.g.trans y.g, x.h.trans y.h, fun a h n => by
  refine y.o a (x.o a h n) fun q => ?_
  exact n (x.h.nope q)⟩
/-- a new frozen thing | a new owned thing -/
def Wd.nf (W : Wd) (p : Addr) (o : HO) : Wd := ⟨upd W.G p o, upd W.H p o, W.sub.both, im_both W.im⟩
def Wd.no (W : Wd) (p : Addr) (o : HO) (h : W.H p = none) (hi : imm o = false := by rfl) : Wd := ⟨W.G, upd W.H p o, W.sub.mut (W.sub.nope h), im_upd W.im hi⟩
def Wd.mt (W : Wd) (p : Addr) (o : HO) (h : W.G p = none) (hi : imm o = false := by rfl) : Wd := ⟨W.G, upd W.H p o, W.sub.mut h, im_upd W.im hi⟩
theorem Le.nf {W : Wd} {p : Addr} {o : HO} (h : W.H p = none) : Le W (W.nf p o) :=
  ⟨Inc.new (W.sub.nope h), Inc.new h, fun a g n => by
    show upd W.G p o a = none
    rw [upd_ne (fun q => n (by rw [q]; exact h))]; exact g⟩
theorem Le.no {W : Wd} {p : Addr} {o : HO} (h : W.H p = none) {hi : imm o = false} : Le W (W.no p o h hi) :=
  ⟨Inc.refl _, Inc.new h, fun a g n => g⟩
theorem Le.mt {W W' : Wd} {p : Addr} {o : HO} (e : Le W W') (h : W'.G p = none) (n : W.H p = none) {hi : imm o = false} : Le W (W'.mt p o h hi) :=
  ⟨e.g, fun b u q => by
    show upd W'.H p o b = _
    rw [upd_ne (ne_of_none q n)]; exact e.h b u q, fun a g n => e.o a g n⟩
theorem Le.fr {W W' : Wd} {p : Addr} (e : Le W W') (h : W'.H p = none) : W.H p = none := e.h.nope h
/-- an owned thing is frozen -/
def Wd.fz (W : Wd) (f : List Addr) : Wd := ⟨fun a => if a ∈ f then W.H a else W.G a, W.H, fun a o e => by
  dsimp only at e
  by_cases q : a ∈ f
  · rw [if_pos q] at e; exact e
  · rw [if_neg q] at e; exact W.sub a o e, fun a u h i => by
  show (if a ∈ f then W.H a else W.G a) = some u
  by_cases q : a ∈ f
  · rw [if_pos q]; exact h
  · rw [if_neg q]; exact W.im a u h i⟩
theorem Wd.fz_in {W : Wd} {f : List Addr} {a : Addr} (h : a ∈ f) : (W.fz f).G a = W.H a := if_pos h
theorem Wd.fz_ni {W : Wd} {f : List Addr} {a : Addr} (h : a ∉ f) : (W.fz f).G a = W.G a := if_neg h
theorem Wd.fz_sub {W : Wd} {f : List Addr} : Inc W.G (W.fz f).G := fun a o e => by
  by_cases q : a ∈ f
  · rw [Wd.fz_in q]; exact W.sub a o e
  · rw [Wd.fz_ni q]; exact e
theorem Le.fz {W W' : Wd} {f : List Addr} (e : Le W W') (h : ∀ a ∈ f, W.H a = none) : Le W (W'.fz f) :=
  ⟨e.g.trans Wd.fz_sub, e.h, fun a g n => by
    rw [Wd.fz_ni (fun q => n (h a q))]; exact e.o a g n⟩

/-! ### mirror values and what represents them -/
class Rp (α : Type) where
  rep : Frag → α → V → Hp → Prop
  mono : ∀ {K : Frag} {x : α} {v : V} {G H : Hp}, Inc G H → rep K x v G → rep K x v H
class Ob (α : Type) where
  own : Frag → α → V → List Addr → Wd → Prop
  keep : ∀ {K : Frag} {x : α} {v : V} {f : List Addr} {W W' : Wd}, own K x v f W → Inc W.G W'.G → (∀ a ∈ f, W'.G a = none) → (∀ a ∈ f, W'.H a = W.H a) → own K x v f W'
  foot : ∀ {K : Frag} {x : α} {v : V} {f : List Addr} {W : Wd}, own K x v f W → ∀ a ∈ f, W.G a = none ∧ W.H a ≠ none
class Fz (α : Type) extends Rp α, Ob α where
  fz : ∀ {K : Frag} {x : α} {v : V} {f : List Addr} {W : Wd}, own K x v f W → rep K x v (W.fz f).G

instance : Rp Int := ⟨fun _ x v _ => v = .int x, fun _ h => h⟩
instance : Rp Bool := ⟨fun _ x v _ => v = .bl x, fun _ h => h⟩
def SOk (x : Str) : Prop := x.length ≤ sizeLine ∧ x.cps.all (· < 0x110000) = true
instance : Rp Str := ⟨fun _ x v _ => v = .str x ∧ SOk x, fun _ h => h⟩
instance : Rp Unit := ⟨fun _ _ v _ => v = .non, fun _ h => h⟩
/-- values of which the heap says nothing -/
class Sc (α : Type) extends Rp α where
  any : ∀ {K : Frag} {x : α} {v : V} {G H : Hp}, rep K x v G → rep K x v H
  nn : ∀ {K : Frag} {x : α} {v : V} {G : Hp}, rep K x v G → ∃ u : V, v = u
instance : Sc Int := ⟨fun h => h, fun _ => ⟨_, rfl⟩⟩
instance : Sc Bool := ⟨fun h => h, fun _ => ⟨_, rfl⟩⟩
instance : Sc Str := ⟨fun h => h, fun _ => ⟨_, rfl⟩⟩
instance : Sc Unit := ⟨fun h => h, fun _ => ⟨_, rfl⟩⟩
/-- place by place -/
def Al {α : Type} (P : α → V → Prop) (xs : List α) (vs : List V) : Prop := xs.length = vs.length ∧ ∀ (i : Nat) x v, xs[i]? = some x → vs[i]? = some v → P x v
section
variable {α β : Type} {P Q : α → V → Prop} {xs ys : List α} {vs ws : List V} {x : α} {v : V}
theorem Al.imp (h : Al P xs vs) (k : ∀ x v, P x v → Q x v) : Al Q xs vs := ⟨h.1, fun i x v a b => k x v (h.2 i x v a b)⟩
theorem Al.nil : Al P [] [] := ⟨rfl, fun i x v a _ => by simp at a⟩
theorem Al.one (h : P x v) : Al P [x] [v] := ⟨rfl, fun i y w a b => by
  cases i with
  | zero => cases a; cases b; exact h
  | succ i => simp at a⟩
theorem Al.cons (h : P x v) (t : Al P xs vs) : Al P (x :: xs) (v :: vs) := ⟨by simp [t.1], fun i y w a b => by
  cases i with
  | zero => cases a; cases b; exact h
  | succ i => exact t.2 i y w a b⟩
theorem Al.app (h : Al P xs vs) (t : Al P ys ws) : Al P (xs ++ ys) (vs ++ ws) := ⟨by simp [h.1, t.1], fun i y w a b => by
  by_cases q : i < xs.length
  · rw [List.getElem?_append_left q] at a
    rw [List.getElem?_append_left (h.1 ▸ q)] at b
    exact h.2 i y w a b
  · rw [List.getElem?_append_right (by omega)] at a
    rw [List.getElem?_append_right (by have := h.1; omega)] at b
    rw [← h.1] at b
    exact t.2 _ y w a b⟩
theorem Al.get {i : Nat} (h : Al P xs vs) (a : xs[i]? = some x) : ∃ v, vs[i]? = some v ∧ P x v := by
  have hi : i < vs.length := h.1 ▸ (List.getElem?_eq_some_iff.mp a).1
  exact ⟨vs[i], List.getElem?_eq_getElem hi, h.2 i x _ a (List.getElem?_eq_getElem hi)⟩
theorem Al.set (h : Al P xs vs) (r : P x v) (i : Nat) : Al P (xs.set i x) (vs.set i v) := ⟨by simp [h.1], fun j y w a b => by
  rw [List.getElem?_set] at a b
  by_cases q : i = j
  · subst q
    simp only [if_true] at a b
    split at a
    · rename_i c
      rw [if_pos (h.1 ▸ c)] at b
      cases a; cases b; exact r
    · cases a
  · rw [if_neg q] at a b
    exact h.2 j y w a b⟩
theorem Al.take (h : Al P xs vs) (n : Nat) : Al P (xs.take n) (vs.take n) := ⟨by simp [h.1], fun i y w a b => by
  rw [List.getElem?_take] at a b
  split at a
  · rename_i c; rw [if_pos c] at b; exact h.2 i y w a b
  · cases a⟩
theorem Al.drop (h : Al P xs vs) (n : Nat) : Al P (xs.drop n) (vs.drop n) := ⟨by simp [h.1], fun i y w a b => by
  rw [List.getElem?_drop] at a b
  exact h.2 _ y w a b⟩
end
section
variable {α β γ δ : Type} [Rp α] [Rp β] [Rp γ] [Rp δ]
def repL (K : Frag) (xs : List α) (v : V) (G : Hp) : Prop := ∃ p vs, v = .ref p ∧ G p = some (.lst vs) ∧ Al (fun x v => Rp.rep K x v G) xs vs ∧ xs.length ≤ sizeLine
instance : Rp (List α) := ⟨repL, fun s ⟨p, vs, e, h, a, l⟩ => ⟨p, vs, e, s _ _ h, a.imp fun _ _ r => Rp.mono s r, l⟩⟩
instance : Rp (α × β) := ⟨fun K x v G => ∃ p a b, v = .ref p ∧ SqT K G p [a, b] ∧ Rp.rep K x.1 a G ∧ Rp.rep K x.2 b G, fun s ⟨p, a, b, e, h, r1, r2⟩ => ⟨p, a, b, e, s.sqt h, Rp.mono s r1, Rp.mono s r2⟩⟩
end
/-- a list that is only read: the script, what is written -/
structure Sq (α : Type) where
  l : List α
deriving DecidableEq
/-- a tuple of any length, of one kind -/
structure Tup (α : Type) where
  l : List α
deriving DecidableEq
structure T3 (α β γ : Type) where
  a : α
  b : β
  c : γ
deriving DecidableEq
structure T4 (α β γ δ : Type) where
  a : α
  b : β
  c : γ
  d : δ
deriving DecidableEq
section
variable {α β γ δ : Type} [Rp α] [Rp β] [Rp γ] [Rp δ]
instance : Rp (Sq α) := ⟨fun K xs v G => ∃ p vs, v = .ref p ∧ SqL K G p vs ∧ Al (fun x v => Rp.rep K x v G) xs.l vs ∧ xs.l.length ≤ sizeLine, fun s ⟨p, vs, e, h, a, l⟩ => ⟨p, vs, e, s.sql h, a.imp fun _ _ r => Rp.mono s r, l⟩⟩
instance : Rp (Tup α) := ⟨fun K xs v G => ∃ p vs, v = .ref p ∧ SqT K G p vs ∧ Al (fun x v => Rp.rep K x v G) xs.l vs ∧ xs.l.length ≤ sizeLine, fun s ⟨p, vs, e, h, a, l⟩ => ⟨p, vs, e, s.sqt h, a.imp fun _ _ r => Rp.mono s r, l⟩⟩
instance : Rp (T3 α β γ) := ⟨fun K x v G => ∃ p a b c, v = .ref p ∧ SqT K G p [a, b, c] ∧ Rp.rep K x.a a G ∧ Rp.rep K x.b b G ∧ Rp.rep K x.c c G,
  fun s ⟨p, a, b, c, e, h, r1, r2, r3⟩ => ⟨p, a, b, c, e, s.sqt h, Rp.mono s r1, Rp.mono s r2, Rp.mono s r3⟩⟩
instance : Rp (T4 α β γ δ) := ⟨fun K x v G => ∃ p a b c d, v = .ref p ∧ SqT K G p [a, b, c, d] ∧ Rp.rep K x.a a G ∧ Rp.rep K x.b b G ∧ Rp.rep K x.c c G ∧ Rp.rep K x.d d G,
  fun s ⟨p, a, b, c, d, e, h, r1, r2, r3, r4⟩ => ⟨p, a, b, c, d, e, s.sqt h, Rp.mono s r1, Rp.mono s r2, Rp.mono s r3, Rp.mono s r4⟩⟩
instance : Rp (Option α) := ⟨fun K x v G => match x with
  | none => v = .non
  | some y => v ≠ .non ∧ Rp.rep K y v G, fun {K x v G H} s h => by
    cases x with
    | none => exact h
    | some y => exact ⟨h.1, Rp.mono s h.2⟩⟩
/-- an owned list -/
def ownL (K : Frag) (xs : List α) (v : V) (f : List Addr) (W : Wd) : Prop := ∃ p vs, v = .ref p ∧ f = [p] ∧ W.G p = none ∧ W.H p = some (.lst vs) ∧ Al (fun x v => Rp.rep K x v W.G) xs vs ∧ xs.length ≤ sizeLine
instance : Fz (List α) where
  own := ownL
  keep := fun {K x v f W W'} ⟨p, vs, e, ef, g, h, a, l⟩ s n k => by
    subst ef
    exact ⟨p, vs, e, rfl, n p (List.mem_singleton.mpr rfl), (k p (List.mem_singleton.mpr rfl)).trans h, a.imp fun _ _ r => Rp.mono s r, l⟩
  foot := fun {K x v f W} ⟨p, vs, e, ef, g, h, a, l⟩ b hb => by
    subst ef
    obtain rfl := List.mem_singleton.mp hb
    exact ⟨g, by rw [h]; exact fun z => nomatch z⟩
  fz := fun {K x v f W} ⟨p, vs, e, ef, g, h, a, l⟩ => by
    subst ef
    exact ⟨p, vs, e, (Wd.fz_in (List.mem_singleton.mpr rfl)).trans h, a.imp fun _ _ r => Rp.mono Wd.fz_sub r, l⟩
end
/-! ### what the slots hold -/
inductive Sl : Type 1 where
  | un
  | fr {α : Type} [Rp α] (x : α)
  | ow {α : Type} [Ob α] (pin : Option V) (x : α)
def Hd (K : Frag) : Sl → Option V → Wd → List Addr → Prop
  | .un, _, _, _ => True
  | @Sl.fr _ _ x, o, W, _ => ∃ v, o = some v ∧ Rp.rep K x v W.G
  | @Sl.ow _ _ pin x, o, W, f => ∃ v, o = some v ∧ Ob.own K x v f W ∧ ∀ u, pin = some u → v = u
structure At (K : Frag) (W0 : Wd) (As : List Sl) (σ : St) (W : Wd) : Prop where
  len : σ.length = As.length
  le : Le W0 W
  fp : ∃ F : Nat → List Addr, (∀ (i : Nat) A o, As[i]? = some A → σ[i]? = some o → Hd K A o W (F i)) ∧ (∀ i j a, i ≠ j → a ∈ F i → a ∉ F j) ∧ ∀ i a, a ∈ F i → W.G a = none ∧ W.H a ≠ none ∧ W0.H a = none
section
variable {K : Frag} {W0 W W' : Wd} {As Bs : List Sl} {σ : St} {i : Nat} {v : V}
theorem Hd.mono {A : Sl} {o : Option V} {f : List Addr} (e : Le W W') (hf : ∀ a ∈ f, W.G a = none ∧ W.H a ≠ none) (h : Hd K A o W f) : Hd K A o W' f := by
  cases A with
  | un => trivial
  | fr x => obtain ⟨v, e1, r⟩ := h; exact ⟨v, e1, Rp.mono e.g r⟩
  | ow x =>
    obtain ⟨v, e1, r, pn⟩ := h
    refine ⟨v, e1, Ob.keep r e.g (fun a ha => e.o a (hf a ha).1 (hf a ha).2) fun a ha => ?_, pn⟩
    cases q : W.H a with
    | none => exact absurd q (hf a ha).2
    | some u => exact e.h a u q
theorem At.mono (h : At K W0 As σ W) (e : Le W W') : At K W0 As σ W' := by
  obtain ⟨l, le, F, h1, h2, h3⟩ := h
  refine ⟨l, le.trans e, F, fun i A o a b => Hd.mono e (fun x hx => ⟨(h3 i x hx).1, (h3 i x hx).2.1⟩) (h1 i A o a b), h2, fun i a ha => ?_⟩
  obtain ⟨g, n, z⟩ := h3 i a ha
  exact ⟨e.o a g n, fun q => n (e.h.nope q), z⟩
theorem At.var {α : Type} [Rp α] {x : α} (h : At K W0 As σ W) (hi : As[i]? = some (.fr x)) : ∃ v, σ[i]? = some (some v) ∧ Rp.rep K x v W.G := by
  obtain ⟨l, le, F, h1, h2, h3⟩ := h
  have hl : i < σ.length := l ▸ (List.getElem?_eq_some_iff.mp hi).1
  obtain ⟨v, e, r⟩ := h1 i _ _ hi (List.getElem?_eq_getElem hl)
  exact ⟨v, by rw [List.getElem?_eq_getElem hl, e], r⟩
theorem At.varO {α : Type} [Ob α] {x : α} {pin : Option V} (h : At K W0 As σ W) (hi : As[i]? = some (.ow pin x)) : ∃ v f, σ[i]? = some (some v) ∧ Ob.own K x v f W ∧ (∀ u, pin = some u → v = u) ∧ ∀ a ∈ f, W0.H a = none := by
  obtain ⟨l, le, F, h1, h2, h3⟩ := h
  have hl : i < σ.length := l ▸ (List.getElem?_eq_some_iff.mp hi).1
  obtain ⟨v, e, r, pn⟩ := h1 i _ _ hi (List.getElem?_eq_getElem hl)
  exact ⟨v, F i, by rw [List.getElem?_eq_getElem hl, e], r, pn, fun a ha => (h3 i a ha).2.2⟩
theorem get_set_ne.{u} {α : Type u} {l : List α} {i j : Nat} {x : α} (h : i ≠ j) : (l.set i x)[j]? = l[j]? := by
  rw [List.getElem?_set, if_neg h]
theorem get_set_eq.{u} {α : Type u} {l : List α} {i : Nat} {x y : α} (h : (l.set i x)[i]? = some y) : y = x := by
  rw [List.getElem?_set] at h
  simp only [if_true] at h
  split at h
  · exact (Option.some.inj h).symm
  · cases h
/-- slot i gets a frozen value, or one of which nothing is known -/
theorem At.set {A : Sl} {o : Option V} (h : At K W0 As σ W) (hA : Hd K A o W []) : At K W0 (As.set i A) (σ.set i o) W := by
  obtain ⟨l, le, F, h1, h2, h3⟩ := h
  refine ⟨by simp [l], le, fun j => if j = i then [] else F j, fun j B p a b => ?_, fun j k a n ha hb => ?_, fun j a ha => ?_⟩
  · by_cases q : i = j
    · subst q
      rw [get_set_eq a, get_set_eq b]
      simpa using hA
    · rw [get_set_ne q] at a b
      dsimp only
      rw [if_neg (Ne.symm q)]
      exact h1 j B p a b
  · dsimp only at ha hb
    split at ha
    · cases ha
    · split at hb
      · cases hb
      · exact h2 j k a n ha hb
  · dsimp only at ha
    split at ha
    · cases ha
    · exact h3 j a ha
/-- slot i gets an owned thing on new ground -/
theorem At.setO {α : Type} [Ob α] {x : α} {f : List Addr} {W1 : Wd} (h : At K W0 As σ W1) (e : Le W1 W) (r : Ob.own K x v f W) (hf : ∀ a ∈ f, W1.H a = none) : At K W0 (As.set i (.ow none x)) (σ.set i (some v)) W := by
  have h' := h.mono e
  obtain ⟨l, le, F, h1, h2, h3⟩ := h
  obtain ⟨_, le', _⟩ := h'
  refine ⟨by simp [l], le', fun j => if j = i then f else F j, fun j B p a b => ?_, fun j k a n ha hb => ?_, fun j a ha => ?_⟩
  · by_cases q : i = j
    · subst q
      rw [get_set_eq a, get_set_eq b]
      simp only [if_true]
      exact ⟨v, rfl, r, fun u z => nomatch z⟩
    · rw [get_set_ne q] at a b
      dsimp only
      rw [if_neg (Ne.symm q)]
      exact Hd.mono e (fun x hx => ⟨(h3 j x hx).1, (h3 j x hx).2.1⟩) (h1 j B p a b)
  · dsimp only at ha hb
    split at ha
    · split at hb
      · rename_i c d; exact n (c.trans d.symm)
      · exact (h3 k a hb).2.1 (hf a ha)
    · split at hb
      · exact (h3 j a ha).2.1 (hf a hb)
      · exact h2 j k a n ha hb
  · dsimp only at ha
    split at ha
    · exact ⟨(Ob.foot r a ha).1, (Ob.foot r a ha).2, le.h.nope (hf a ha)⟩
    · obtain ⟨g, n, z⟩ := h3 j a ha
      exact ⟨e.o a g n, fun q => n (e.h.nope q), z⟩
/-- the owned thing of slot i changes, on its own and on new ground -/
theorem At.chg {α β : Type} [Ob α] [Ob β] {x : α} {y : β} {pin : Option V} (h : At K W0 As σ W) (hi : As[i]? = some (.ow pin x)) :
    ∃ v f, σ[i]? = some (some v) ∧ Ob.own K x v f W ∧ (∀ a ∈ f, W0.H a = none) ∧ ∀ (W' : Wd) f', Inc W.G W'.G → (∀ a, a ∉ f → W.G a = none → W.H a ≠ none → W'.G a = none) → (∀ a, a ∉ f → W.H a ≠ none → W'.H a = W.H a) →
      Ob.own K y v f' W' → (∀ a ∈ f', a ∈ f ∨ W.H a = none) → At K W0 (As.set i (.ow pin y)) σ W' := by
  obtain ⟨l, le, F, h1, h2, h3⟩ := h
  have hl : i < σ.length := l ▸ (List.getElem?_eq_some_iff.mp hi).1
  obtain ⟨v, e, r, pn⟩ := h1 i _ _ hi (List.getElem?_eq_getElem hl)
  refine ⟨v, F i, by rw [List.getElem?_eq_getElem hl, e], r, fun a ha => (h3 i a ha).2.2, fun W' f' sg so sh r' hf => ?_⟩
  have z0 : ∀ a ∈ f', W0.H a = none := fun a ha => by
    rcases hf a ha with q | q
    · exact (h3 i a q).2.2
    · exact le.h.nope q
  have lw : Le W0 W' := ⟨le.g.trans sg, fun a o q => by
    have n0 : W0.H a ≠ none := by rw [q]; exact fun z => nomatch z
    have w := le.h a o q
    rw [sh a (fun ha => n0 ((h3 i a ha).2.2)) (by rw [w]; exact fun z => nomatch z)]
    exact w, fun a g n => so a (fun ha => n ((h3 i a ha).2.2)) (le.o a g n) (fun q => n (le.h.nope q))⟩
  refine ⟨by simp [l], lw, fun j => if j = i then f' else F j, fun j B p a b => ?_, fun j k a n ha hb => ?_, fun j a ha => ?_⟩
  · by_cases q : i = j
    · subst q
      rw [get_set_eq a]
      rw [List.getElem?_eq_getElem hl, e] at b
      cases b
      simp only [if_true]
      exact ⟨v, rfl, r', pn⟩
    · rw [get_set_ne q] at a
      dsimp only
      rw [if_neg (Ne.symm q)]
      have hd := h1 j B p a b
      cases B with
      | un => trivial
      | fr x => obtain ⟨v, e1, r⟩ := hd; exact ⟨v, e1, Rp.mono sg r⟩
      | ow x =>
        obtain ⟨v, e1, r, pn⟩ := hd
        exact ⟨v, e1, Ob.keep r sg (fun a ha => so a (fun z => h2 j i a (Ne.symm q) ha z) (h3 j a ha).1 (h3 j a ha).2.1) fun a ha => sh a (fun z => h2 j i a (Ne.symm q) ha z) (h3 j a ha).2.1, pn⟩
  · dsimp only at ha hb
    split at ha
    · split at hb
      · rename_i c d; exact n (c.trans d.symm)
      · rename_i c d
        rcases hf a ha with q | q
        · exact h2 i k a (Ne.symm d) q hb
        · exact (h3 k a hb).2.1 q
    · split at hb
      · rename_i c d
        rcases hf a hb with q | q
        · exact h2 j i a c ha q
        · exact (h3 j a ha).2.1 q
      · exact h2 j k a n ha hb
  · dsimp only at ha
    split at ha
    · exact ⟨(Ob.foot r' a ha).1, (Ob.foot r' a ha).2, z0 a ha⟩
    · rename_i c
      obtain ⟨g, n, z⟩ := h3 j a ha
      refine ⟨so a (fun q => h2 j i a c ha q) g n, ?_, z⟩
      rw [sh a (fun q => h2 j i a c ha q) n]
      exact n
/-- an owned thing is frozen -/
theorem At.fz {α : Type} [Fz α] {x : α} {pin : Option V} (h : At K W0 As σ W) (hi : As[i]? = some (.ow pin x)) : ∃ W', W'.H = W.H ∧ At K W0 (As.set i (.fr x)) σ W' := by
  obtain ⟨l, le, F, h1, h2, h3⟩ := h
  have hl : i < σ.length := l ▸ (List.getElem?_eq_some_iff.mp hi).1
  obtain ⟨v, e, r, _⟩ := h1 i _ _ hi (List.getElem?_eq_getElem hl)
  refine ⟨W.fz (F i), rfl, by simp [l], le.fz fun a ha => (h3 i a ha).2.2, fun j => if j = i then [] else F j, fun j B p a b => ?_, fun j k a n ha hb => ?_, fun j a ha => ?_⟩
  · by_cases q : i = j
    · subst q
      rw [get_set_eq a]
      rw [List.getElem?_eq_getElem hl, e] at b
      cases b
      exact ⟨v, rfl, Fz.fz r⟩
    · rw [get_set_ne q] at a
      dsimp only
      rw [if_neg (Ne.symm q)]
      have hd := h1 j B p a b
      cases B with
      | un => trivial
      | fr x => obtain ⟨v, e1, r⟩ := hd; exact ⟨v, e1, Rp.mono Wd.fz_sub r⟩
      | ow x =>
        obtain ⟨v, e1, r, pn⟩ := hd
        refine ⟨v, e1, Ob.keep r Wd.fz_sub (fun a ha => ?_) (fun _ _ => rfl), pn⟩
        rw [Wd.fz_ni (fun z => h2 j i a (Ne.symm q) ha z)]
        exact (h3 j a ha).1
  · dsimp only at ha hb
    split at ha
    · cases ha
    · split at hb
      · cases hb
      · exact h2 j k a n ha hb
  · dsimp only at ha
    split at ha
    · cases ha
    · rename_i c
      obtain ⟨g, n, z⟩ := h3 j a ha
      refine ⟨?_, n, z⟩
      rw [Wd.fz_ni (fun z => h2 j i a c ha z)]
      exact g
theorem At.re {W1 : Wd} (h : At K W1 As σ W) (e : Le W0 W1) : At K W0 As σ W := by
  obtain ⟨l, le, F, h1, h2, h3⟩ := h
  exact ⟨l, e.trans le, F, h1, h2, fun i a ha => ⟨(h3 i a ha).1, (h3 i a ha).2.1, e.h.nope (h3 i a ha).2.2⟩⟩
/-- a later ground, by what is frozen now -/
def Wd.rb (W0 W : Wd) (le : Le W0 W) : Wd := ⟨W.G, fun a => match W0.H a with | some o => some o | none => W.G a, fun a o e => by
  show (match W0.H a with | some o => some o | none => W.G a) = some o
  cases q : W0.H a with
  | none => exact e
  | some u => exact (le.h a u q).symm.trans (W.sub a o e), fun a u h i => by
  have h' : (match W0.H a with | some o => some o | none => W.G a) = some u := h
  cases q : W0.H a with
  | none => rw [q] at h'; exact h'
  | some o => rw [q] at h'; cases h'; exact le.g a _ (W0.im a _ q i)⟩
theorem Wd.rb_none {W0 W : Wd} {le : Le W0 W} {a : Addr} (h : W0.H a = none) (g : W.G a = none) : (W0.rb W le).H a = none := by
  show (match W0.H a with | some o => some o | none => W.G a) = none
  rw [h]; exact g
theorem Le.rb0 {W0 W : Wd} (le : Le W0 W) : Le W0 (W0.rb W le) := ⟨le.g, fun a o e => by
  show (match W0.H a with | some o => some o | none => W.G a) = some o
  rw [e], fun a g n => le.o a g n⟩
theorem Le.rb1 {W0 W : Wd} (le : Le W0 W) : Le (W0.rb W le) W := ⟨Inc.refl _, fun a o e => by
  have e' : (match W0.H a with | some o => some o | none => W.G a) = some o := e
  cases q : W0.H a with
  | none => rw [q] at e'; exact W.sub a o e'
  | some u => rw [q] at e'; cases e'; exact le.h a _ q, fun _ g _ => g⟩
theorem At.rb (h : At K W0 As σ W) : At K (W0.rb W h.le) As σ W := by
  have le' := h.le
  obtain ⟨l, le, F, h1, h2, h3⟩ := h
  exact ⟨l, Le.rb1 le, F, h1, h2, fun i a ha => ⟨(h3 i a ha).1, (h3 i a ha).2.1, Wd.rb_none (h3 i a ha).2.2 (h3 i a ha).1⟩⟩
/-- less is known -/
inductive Wk : List Sl → List Sl → Prop
  | nil : Wk [] []
  | same {A As Bs} : Wk As Bs → Wk (A :: As) (A :: Bs)
  | drop {A As Bs} : Wk As Bs → Wk (A :: As) (.un :: Bs)
theorem Wk.get : ∀ {As Bs : List Sl} {i : Nat} {B : Sl}, Wk As Bs → Bs[i]? = some B → B = .un ∨ As[i]? = some B
  | _, _, _, _, .nil, h => by simp at h
  | _, _, 0, _, .same _, h => .inr h
  | _, _, i + 1, _, .same t, h => Wk.get (i := i) t h
  | _, _, 0, _, .drop _, h => .inl (Option.some.inj h).symm
  | _, _, i + 1, _, .drop t, h => Wk.get (i := i) t h
theorem Wk.len : ∀ {As Bs : List Sl}, Wk As Bs → As.length = Bs.length
  | _, _, .nil => rfl
  | _, _, .same t => congrArg (· + 1) (Wk.len t)
  | _, _, .drop t => congrArg (· + 1) (Wk.len t)
theorem Wk.refl : ∀ {As : List Sl}, Wk As As
  | [] => .nil
  | _ :: _ => .same Wk.refl
theorem At.wk (h : At K W0 As σ W) (w : Wk As Bs) : At K W0 Bs σ W := by
  obtain ⟨l, le, F, h1, h2, h3⟩ := h
  refine ⟨l.trans w.len, le, F, fun i B o a b => ?_, h2, h3⟩
  rcases w.get a with q | q
  · rw [q]; trivial
  · exact h1 i B o q b
end
end Fw

namespace Fw
open PySem L2
/-! ### kinds of what an expression hands back -/
structure Kd where
  p : Wd → V → Wd → Prop
  up : ∀ {A B C : Wd} {v : V}, p A v B → Le B C → p A v C
  dn : ∀ {A B C : Wd} {v : V}, Le A B → p B v C → p A v C
def kFr (K : Frag) {α : Type} [Rp α] (x : α) : Kd := ⟨fun _ v W => Rp.rep K x v W.G, fun h e => Rp.mono e.g h, fun _ h => h⟩
theorem own_up {K : Frag} {α : Type} [Ob α] {x : α} {v : V} {f : List Addr} {W W' : Wd} (h : Ob.own K x v f W) (e : Le W W') : Ob.own K x v f W' :=
  Ob.keep h e.g (fun a ha => e.o a (Ob.foot h a ha).1 (Ob.foot h a ha).2) fun a ha => by
    cases q : W.H a with
    | none => exact absurd q (Ob.foot h a ha).2
    | some u => exact e.h a u q
def kNw (K : Frag) {α : Type} [Ob α] (x : α) : Kd := ⟨fun A v W => ∃ f, Ob.own K x v f W ∧ ∀ a ∈ f, A.H a = none,
  fun ⟨f, r, n⟩ e => ⟨f, own_up r e, n⟩, fun e ⟨f, r, n⟩ => ⟨f, r, fun a ha => e.h.nope (n a ha)⟩⟩
/-- a list that may be read: frozen or owned -/
def kSh (K : Frag) {α : Type} [Rp α] (xs : List α) : Kd := ⟨fun _ v W => ∃ p vs, v = .ref p ∧ SqL K W.H p vs ∧ Al (fun x v => Rp.rep K x v W.G) xs vs ∧ xs.length ≤ sizeLine,
  fun ⟨p, vs, e, h, a, l⟩ q => ⟨p, vs, e, q.h.sql h, a.imp fun _ _ r => Rp.mono q.g r, l⟩, fun _ h => h⟩
/-- a value of which the heap says nothing more -/
def kV (v : V) : Kd := ⟨fun _ u _ => u = v, fun h _ => h, fun _ h => h⟩
def Ev (te : TE) (σ : St) (W : Wd) (k : Kd) : Prop := ∀ W1, Le W W1 → ∀ Q : VK, (∀ v W2, Le W1 W2 → k.p W1 v W2 → Q v W2.H) → te σ W1.H Q
def EvT (tt : TT) (σ : St) (W : Wd) (b : Bool) : Prop := ∀ W1, Le W W1 → ∀ Q : Bool → Hp → Prop, (∀ W2, Le W1 W2 → Q b W2.H) → tt σ W1.H Q

/-! ### the mirror's monad -/
structure Exc where
  cls : Str
  fs : List (Str × V)
inductive R (α : Type) where
  | ok (x : α)
  | ex (e : Exc)
  | no
namespace R
variable {α β γ : Type}
def bind (m : R α) (f : α → R β) : R β := match m with
  | .ok x => f x
  | .ex e => .ex e
  | .no => .no
@[simp] theorem bind_ok (x : α) (f : α → R β) : (R.ok x).bind f = f x := rfl
@[simp] theorem bind_no (f : α → R β) : (R.no : R α).bind f = .no := rfl
@[simp] theorem bind_ex (e : Exc) (f : α → R β) : (R.ex e : R α).bind f = .ex e := rfl
/-- checked -/
def chk (c : Bool) (x : α) : R α := if c then .ok x else .no
@[simp] theorem chk_t (x : α) : chk true x = .ok x := rfl
/-- of an option -/
def opt (o : Option α) : R α := match o with
  | some x => .ok x
  | none => .no
@[simp] theorem opt_some (x : α) : opt (some x) = .ok x := rfl
def and (a b : R Bool) : R Bool := a.bind fun c => if c then b else .ok false
def or (a b : R Bool) : R Bool := a.bind fun c => if c then .ok true else b
/-- what can't be raised here -/
def np (m : R α) : R α := match m with
  | .ok x => .ok x
  | _ => .no
@[simp] theorem np_ok (x : α) : np (.ok x) = .ok x := rfl
end R
/-- what a raised exception is: its class, its own dict -/
structure ExM where
  C : Str → Value
/-- what a field of an exception may be -/
def VOk : V → Prop
  | .str s => s.length ≤ sizeLine ∧ s.cps.all (· < 0x110000) = true
  | _ => True
/-- its own dict -/
def ExD (fs : List (Str × V)) (d : Option Addr) (G : Hp) : Prop := match fs with
  | [] => d = none
  | fs => ∃ a, d = some a ∧ G a = some (.xd fs)
def ExAt (M : Str → Value) (e : Exc) (cls : Value) (d : Option Addr) (W : Wd) : Prop := cls = M e.cls ∧ ExD e.fs d W.G ∧ ∀ p ∈ e.fs, VOk p.2
/-- what stands fixed in a def: the written part, the classes of exceptions -/
structure Cn where
  K : Frag
  M : Str → Value
section
variable {c : Cn} {W0 : Wd} {X : WX} {As Bs : List Sl} {α β γ δ τ ρ : Type}
def Exp (c : Cn) (W0 : Wd) (te : TE) (As : List Sl) (k : Kd) : Prop := ∀ σ W, At c.K W0 As σ W → Ev te σ W k
def Rz (c : Cn) (X : WX) (te : TE) (σ : St) (W : Wd) (e : Exc) : Prop := ∀ W1, Le W W1 → ∀ Q, (∀ cls d W2, Le W1 W2 → ExAt c.M e cls d W2 → X cls d σ W2.H) → te σ W1.H Q
def SatR (m : R α) (P : α → Prop) (E : Exc → Prop) : Prop := match m with
  | .ok x => P x
  | .ex e => E e
  | .no => True
def Exr (c : Cn) (W0 : Wd) (X : WX) (te : TE) (As : List Sl) (m : R α) (k : α → Kd) : Prop := ∀ σ W, At c.K W0 As σ W → SatR m (fun x => Ev te σ W (k x)) (Rz c X te σ W)
def Txp (c : Cn) (W0 : Wd) (tt : TT) (As : List Sl) (b : Bool) : Prop := ∀ σ W, At c.K W0 As σ W → EvT tt σ W b
def RzT (c : Cn) (X : WX) (tt : TT) (σ : St) (W : Wd) (e : Exc) : Prop := ∀ W1, Le W W1 → ∀ Q, (∀ cls d W2, Le W1 W2 → ExAt c.M e cls d W2 → X cls d σ W2.H) → tt σ W1.H Q
def Txr (c : Cn) (W0 : Wd) (X : WX) (tt : TT) (As : List Sl) (m : R Bool) : Prop := ∀ σ W, At c.K W0 As σ W → SatR m (EvT tt σ W) (RzT c X tt σ W)
theorem exr_p {te : TE} {x : α} {k : α → Kd} (h : Exp c W0 te As (k x)) : Exr c W0 X te As (.ok x) k := h
theorem txr_p {tt : TT} {b : Bool} (h : Txp c W0 tt As b) : Txr c W0 X tt As (.ok b) := h
theorem exp_w {te : TE} {k k' : Kd} (h : Exp c W0 te As k) (w : ∀ A v B, k.p A v B → k'.p A v B) : Exp c W0 te As k' := fun σ W a W1 e Q q => h σ W a W1 e Q fun v W2 e2 p => q v W2 e2 (w _ _ _ p)
theorem exr_w {te : TE} {m : R α} {k k' : α → Kd} (h : Exr c W0 X te As m k) (w : ∀ x A v B, (k x).p A v B → (k' x).p A v B) : Exr c W0 X te As m k' := fun σ W a => by
  have h' := h σ W a
  cases m with
  | ok x => exact fun W1 e Q q => h' W1 e Q fun v W2 e2 p => q v W2 e2 (w _ _ _ _ p)
  | ex e => exact h'
  | no => trivial
/-! leaves -/
theorem e_var [Rp α] {x : α} (i : Nat) (h : As[i]? = some (.fr x) := by rfl) : Exp c W0 (tVar i) As (kFr c.K x) := fun σ W a W1 e Q q => by
  obtain ⟨v, hv, r⟩ := a.var h
  exact ⟨v, hv, q v W1 (Le.refl _) (Rp.mono e.g r)⟩
/-- an owned list, read -/
theorem own_sh [Rp α] {K : Frag} {x : List α} {v : V} {f : List Addr} {W A : Wd} (h : Ob.own K x v f W) : (kSh K x).p A v W := by
  obtain ⟨p, vs, e, ef, g, hh, a, l⟩ := h
  exact ⟨p, vs, e, .inl (.inl hh), a, l⟩
theorem fr_sh [Rp α] {K : Frag} {x : List α} {v : V} {W A : Wd} (h : (kFr K x).p A v W) : (kSh K x).p A v W := by
  obtain ⟨p, vs, e, hh, a, l⟩ := h
  exact ⟨p, vs, e, .inl (.inl (W.sub _ _ hh)), a, l⟩
theorem sq_sh [Rp α] {K : Frag} {x : Sq α} {v : V} {W A : Wd} (h : (kFr K x).p A v W) : (kSh K x.l).p A v W := by
  obtain ⟨p, vs, e, hh, a, l⟩ := h
  exact ⟨p, vs, e, W.sub.sql hh, a, l⟩
theorem nw_sh [Rp α] {K : Frag} {x : List α} {v : V} {W A : Wd} (h : (kNw K x).p A v W) : (kSh K x).p A v W := by
  obtain ⟨f, o, _⟩ := h
  exact own_sh o
theorem e_varS [Rp α] {x : List α} {pin : Option V} (i : Nat) (h : As[i]? = some (.ow pin x) := by rfl) : Exp c W0 (tVar i) As (kSh c.K x) := fun σ W a W1 e Q q => by
  obtain ⟨v, f, hv, r, _⟩ := a.varO h
  exact ⟨v, hv, q v W1 (Le.refl _) (own_sh (own_up r e))⟩
theorem e_int (i : Int) : Exp c W0 (tC (.int i)) As (kFr c.K i) := fun σ W a W1 e Q q => q _ W1 (Le.refl _) rfl
theorem e_bl (b : Bool) : Exp c W0 (tC (.bl b)) As (kFr c.K b) := fun σ W a W1 e Q q => q _ W1 (Le.refl _) rfl
theorem e_unit : Exp c W0 (tC .non) As (kFr c.K ()) := fun σ W a W1 e Q q => q _ W1 (Le.refl _) rfl
theorem e_nil [Rp α] : Exp c W0 (tLst tNil) As (kNw c.K ([] : List α)) := fun σ W a W1 e Q q =>
  ⟨Nat.zero_le _, fun p hp => q _ (W1.no p _ hp) (Le.no hp) ⟨[p], ⟨p, [], rfl, rfl, W1.sub.nope hp, upd_same, Al.nil, Nat.zero_le _⟩, fun a ha => by rw [List.mem_singleton.mp ha]; exact hp⟩⟩
/-- a new thing is left as it is for good -/
theorem nw_fr [Fz α] {K : Frag} {x : α} {v : V} {A W : Wd} (h : (kNw K x).p A v W) : ∃ W', W'.H = W.H ∧ (Le A W → Le A W') ∧ Inc W.G W'.G ∧ (kFr K x).p A v W' := by
  obtain ⟨f, o, n⟩ := h
  exact ⟨W.fz f, rfl, fun e => e.fz n, Wd.fz_sub, Fz.fz o⟩
theorem e_fz [Fz α] {te : TE} {x : α} (h : Exp c W0 te As (kNw c.K x)) : Exp c W0 te As (kFr c.K x) := fun σ W a W1 e Q q => h σ W a W1 e Q fun v W2 e2 p => by
  obtain ⟨W', eh, le, _, r⟩ := nw_fr p
  rw [← eh]
  exact q v W' (le e2) r
theorem r_fz [Fz α] {te : TE} {m : R α} (h : Exr c W0 X te As m fun x => kNw c.K x) : Exr c W0 X te As m fun x => kFr c.K x := fun σ W a => by
  have h' := h σ W a
  cases m with
  | ok x => exact e_fz (fun σ W a => by exact h σ W a) σ W a
  | ex e => exact h'
  | no => trivial
theorem e_sh [Rp α] {te : TE} {x : List α} (h : Exp c W0 te As (kFr c.K x)) : Exp c W0 te As (kSh c.K x) := exp_w h fun _ _ _ => fr_sh
theorem e_shQ [Rp α] {te : TE} {x : Sq α} (h : Exp c W0 te As (kFr c.K x)) : Exp c W0 te As (kSh c.K x.l) := exp_w h fun _ _ _ => sq_sh
theorem r_shN [Rp α] {te : TE} {m : R (List α)} (h : Exr c W0 X te As m fun x => kNw c.K x) : Exr c W0 X te As m fun x => kSh c.K x := exr_w h fun _ _ _ _ => nw_sh

/-! operators of one and of two places -/
def Op1 (r : V → Hp → VK → Prop) (k1 : α → Kd) (f : α → R γ) (k3 : γ → Kd) : Prop := ∀ x, match f x with
  | .ok z => ∀ (W0 W : Wd) v, (k1 x).p W0 v W → ∀ Q : VK, (∀ u W', Le W W' → (k3 z).p W u W' → Q u W'.H) → r v W.H Q
  | .ex _ => False
  | .no => True
def Op2 (r : R2) (k1 : α → Kd) (k2 : β → Kd) (f : α → β → R γ) (k3 : γ → Kd) : Prop := ∀ x y, match f x y with
  | .ok z => ∀ (W0 W : Wd) v w, (k1 x).p W0 v W → (k2 y).p W0 w W → ∀ Q : VK, (∀ u W', Le W W' → (k3 z).p W u W' → Q u W'.H) → r v w W.H Q
  | .ex _ => False
  | .no => True
theorem e_op1 {r : V → Hp → VK → Prop} {ta : TE} {k1 : α → Kd} {k3 : γ → Kd} {g : α → γ} {x : α} (h : Op1 r k1 (fun x => .ok (g x)) k3) (ha : Exp c W0 ta As (k1 x)) {k : Kd} (hk : k3 (g x) = k) : Exp c W0 (tUn r ta) As k := hk ▸ fun σ W a W1 e Q q =>
  ha σ W a W1 e _ fun v W2 e2 p => h x _ _ v p Q fun u W3 e3 p3 => q u W3 (e2.trans e3) ((k3 (g x)).dn e2 p3)
theorem e_op2 {r : R2} {ta tb : TE} {k1 : α → Kd} {k2 : β → Kd} {k3 : γ → Kd} {g : α → β → γ} {x : α} {y : β} (h : Op2 r k1 k2 (fun x y => .ok (g x y)) k3) (ha : Exp c W0 ta As (k1 x)) (hb : Exp c W0 tb As (k2 y)) {k : Kd} (hk : k3 (g x y) = k) : Exp c W0 (tOp r ta tb) As k := hk ▸ fun σ W a W1 e Q q =>
  ha σ W a W1 e _ fun v W2 e2 p => hb σ W a W2 (e.trans e2) _ fun w W3 e3 p3 => h x y W1 W3 v w ((k1 x).up p e3) ((k2 y).dn e2 p3) Q fun u W4 e4 p4 => q u W4 (e2.trans (e3.trans e4)) ((k3 (g x y)).dn (e2.trans e3) p4)
theorem r_op2 {r : R2} {ta tb : TE} {k1 : α → Kd} {k2 : β → Kd} {k3 : γ → Kd} {f : α → β → R γ} {m : R α} {n : R β} (h : Op2 r k1 k2 f k3) (ha : Exr c W0 X ta As m k1) (hb : Exr c W0 X tb As n k2) :
    Exr c W0 X (tOp r ta tb) As (m.bind fun x => n.bind fun y => f x y) k3 := fun σ W a => by
  have ha' := ha σ W a
  have hb' := hb σ W a
  cases m with
  | no => trivial
  | ex e => exact fun W1 e1 Q q => ha' W1 e1 _ q
  | ok x =>
    cases n with
    | no => trivial
    | ex e => exact fun W1 e1 Q q => ha' W1 e1 _ fun v W2 e2 p => hb' W2 (e1.trans e2) _ fun cls d W3 e3 z => q cls d W3 (e2.trans e3) z
    | ok y =>
      have h' := h x y
      show SatR (f x y) _ _
      cases hf : f x y with
      | no => trivial
      | ex e => rw [hf] at h'; exact h'.elim
      | ok z =>
        rw [hf] at h'
        exact fun W1 e Q q => ha' W1 e _ fun v W2 e2 p => hb' W2 (e.trans e2) _ fun w W3 e3 p3 => h' W1 W3 v w ((k1 x).up p e3) ((k2 y).dn e2 p3) Q fun u W4 e4 p4 => q u W4 (e2.trans (e3.trans e4)) ((k3 z).dn (e2.trans e3) p4)
/-! arguments -/
structure KdA where
  p : Wd → List V → Wd → Prop
  up : ∀ {A B C : Wd} {v : List V}, p A v B → Le B C → p A v C
  dn : ∀ {A B C : Wd} {v : List V}, Le A B → p B v C → p A v C
def aNil : KdA := ⟨fun _ vs _ => vs = [], fun h _ => h, fun _ h => h⟩
def aCons (k : Kd) (ks : KdA) : KdA := ⟨fun A vs W => ∃ v r, vs = v :: r ∧ k.p A v W ∧ ks.p A r W, fun ⟨v, r, e, a, b⟩ q => ⟨v, r, e, k.up a q, ks.up b q⟩, fun q ⟨v, r, e, a, b⟩ => ⟨v, r, e, k.dn q a, ks.dn q b⟩⟩
def EvA (ta : TA) (σ : St) (W : Wd) (k : KdA) : Prop := ∀ W1, Le W W1 → ∀ Q : List V → Hp → Prop, (∀ v W2, Le W1 W2 → k.p W1 v W2 → Q v W2.H) → ta σ W1.H Q
def RzA (c : Cn) (X : WX) (ta : TA) (σ : St) (W : Wd) (e : Exc) : Prop := ∀ W1, Le W W1 → ∀ Q, (∀ cls d W2, Le W1 W2 → ExAt c.M e cls d W2 → X cls d σ W2.H) → ta σ W1.H Q
def Axp (c : Cn) (W0 : Wd) (ta : TA) (As : List Sl) (k : KdA) : Prop := ∀ σ W, At c.K W0 As σ W → EvA ta σ W k
def Axr (c : Cn) (W0 : Wd) (X : WX) (ta : TA) (As : List Sl) (m : R τ) (k : τ → KdA) : Prop := ∀ σ W, At c.K W0 As σ W → SatR m (fun x => EvA ta σ W (k x)) (RzA c X ta σ W)
theorem axr_p {ta : TA} {x : τ} {k : τ → KdA} (h : Axp c W0 ta As (k x)) : Axr c W0 X ta As (.ok x) k := h
theorem a_nil : Axp c W0 tNil As aNil := fun σ W a W1 e Q q => q [] W1 (Le.refl _) rfl
theorem a_cons {te : TE} {ta : TA} {k : Kd} {ks : KdA} (h : Exp c W0 te As k) (hr : Axp c W0 ta As ks) : Axp c W0 (tCons te ta) As (aCons k ks) := fun σ W a W1 e Q q =>
  h σ W a W1 e _ fun v W2 e2 p => hr σ W a W2 (e.trans e2) _ fun vs W3 e3 ps => q _ W3 (e2.trans e3) ⟨v, vs, rfl, k.up p e3, ks.dn e2 ps⟩
theorem ar_cons {te : TE} {ta : TA} {m : R α} {n : R τ} {k : α → Kd} {ks : τ → KdA} (h : Exr c W0 X te As m k) (hr : Axr c W0 X ta As n ks) :
    Axr c W0 X (tCons te ta) As (m.bind fun x => n.bind fun y => .ok (x, y)) (fun z => aCons (k z.1) (ks z.2)) := fun σ W a => by
  have h' := h σ W a
  have hr' := hr σ W a
  cases m with
  | no => trivial
  | ex e => exact fun W1 e1 Q q => h' W1 e1 _ q
  | ok x =>
    cases n with
    | no => trivial
    | ex e => exact fun W1 e1 Q q => h' W1 e1 _ fun v W2 e2 p => hr' W2 (e1.trans e2) _ fun cls d W3 e3 z => q cls d W3 (e2.trans e3) z
    | ok y => exact fun W1 e Q q => h' W1 e _ fun v W2 e2 p => hr' W2 (e.trans e2) _ fun vs W3 e3 ps => q _ W3 (e2.trans e3) ⟨v, vs, rfl, (k x).up p e3, (ks y).dn e2 ps⟩
/-- what is reckoned of arguments -/
def OpA (r : List V → Hp → VK → Prop) (ks : τ → KdA) (f : τ → R γ) (k3 : γ → Kd) : Prop := ∀ x, match f x with
  | .ok z => ∀ (W0 W : Wd) vs, (ks x).p W0 vs W → ∀ Q : VK, (∀ u W', Le W W' → (k3 z).p W u W' → Q u W'.H) → r vs W.H Q
  | .ex _ => False
  | .no => True
/-- any reading that goes by its arguments -/
theorem e_opA {r : List V → Hp → VK → Prop} {ta : TA} {ks : τ → KdA} {k3 : γ → Kd} {g : τ → γ} {x : τ} (h : OpA r ks (fun x => .ok (g x)) k3) (ha : Axp c W0 ta As (ks x)) {k : Kd} (hk : k3 (g x) = k) : Exp c W0 (fun σ H Q => ta σ H fun vs H1 => r vs H1 Q) As k := hk ▸ fun σ W a W1 e Q q =>
  ha σ W a W1 e _ fun v W2 e2 p => h x _ _ v p Q fun u W3 e3 p3 => q u W3 (e2.trans e3) ((k3 (g x)).dn e2 p3)
theorem r_opA {r : List V → Hp → VK → Prop} {ta : TA} {ks : τ → KdA} {k3 : γ → Kd} {f : τ → R γ} {m : R τ} (h : OpA r ks f k3) (ha : Axr c W0 X ta As m ks) : Exr c W0 X (fun σ H Q => ta σ H fun vs H1 => r vs H1 Q) As (m.bind f) k3 := fun σ W a => by
  have ha' := ha σ W a
  cases m with
  | no => trivial
  | ex e => exact fun W1 e1 Q q => ha' W1 e1 _ q
  | ok x =>
    have h' := h x
    show SatR (f x) _ _
    cases hf : f x with
    | no => trivial
    | ex e => rw [hf] at h'; exact h'.elim
    | ok z =>
      rw [hf] at h'
      exact fun W1 e Q q => ha' W1 e _ fun v W2 e2 p => h' _ _ v p Q fun u W3 e3 p3 => q u W3 (e2.trans e3) ((k3 z).dn e2 p3)
/-! displays of tuples and lists -/
theorem e_pair [Rp α] [Rp β] {ta : TA} {x : α} {y : β} (h : Axp c W0 ta As (aCons (kFr c.K x) (aCons (kFr c.K y) aNil))) : Exp c W0 (tTup ta) As (kFr c.K (x, y)) := fun σ W a W1 e Q q =>
  h σ W a W1 e _ fun vs W2 e2 ⟨v, r, ev, p1, w, r2, ew, p2, en⟩ => by
    subst ev ew en
    exact ⟨by show 2 ≤ sizeLine; decide, fun p hp => q _ (W2.nf p _) (e2.trans (Le.nf hp)) ⟨p, v, w, rfl, .inl (.inl upd_same), Rp.mono (Le.nf hp).g p1, Rp.mono (Le.nf hp).g p2⟩⟩
theorem rz_tup {ta : TA} {σ : St} {W : Wd} {e : Exc} (h : RzA c X ta σ W e) : Rz c X (tTup ta) σ W e := fun W1 e1 Q q => h W1 e1 _ q
theorem rz_lst {ta : TA} {σ : St} {W : Wd} {e : Exc} (h : RzA c X ta σ W e) : Rz c X (tLst ta) σ W e := fun W1 e1 Q q => h W1 e1 _ q
/-- a reading over arguments lifts -/
theorem r_ofA {ta : TA} {m : R τ} {g : τ → γ} {ks : τ → KdA} {k : γ → Kd} {te : TA → TE} (ha : Axr c W0 X ta As m ks) (h : ∀ x, m = .ok x → Axp c W0 ta As (ks x) → Exp c W0 (te ta) As (k (g x)))
    (hz : ∀ σ W e, RzA c X ta σ W e → Rz c X (te ta) σ W e) : Exr c W0 X (te ta) As (m.bind fun x => .ok (g x)) k := fun σ W a => by
  cases m with
  | no => trivial
  | ex e => exact hz σ W e (ha σ W a)
  | ok x => exact h x rfl (fun σ W a => ha σ W a) σ W a
theorem r_pair [Rp α] [Rp β] {ta : TA} {m : R (α × β × Unit)} (h : Axr c W0 X ta As m fun z => aCons (kFr c.K z.1) (aCons (kFr c.K z.2.1) aNil)) : Exr c W0 X (tTup ta) As (m.bind fun z => .ok (z.1, z.2.1)) fun x => kFr c.K x :=
  r_ofA (te := tTup) h (fun x _ h' => e_pair h') fun _ _ _ => rz_tup
/-- all arguments of one kind -/
def aAll (k : α → Kd) : List α → KdA
  | [] => aNil
  | x :: xs => aCons (k x) (aAll k xs)
theorem aAll_al [Rp α] {K : Frag} : ∀ {xs : List α} {A B : Wd} {vs : List V}, (aAll (fun x => kFr K x) xs).p A vs B → Al (fun x v => Rp.rep K x v B.G) xs vs
  | [], _, _, _, h => by cases h; exact Al.nil
  | x :: xs, _, _, _, ⟨v, r, e, p, q⟩ => by subst e; exact Al.cons p (aAll_al q)
theorem szl {xs : List α} {n : Nat} (h : xs.length = n) (hn : n ≤ 1000) : xs.length ≤ sizeLine := by
  rw [h, sizeLine_eq]
  omega
theorem e_lst [Rp α] {ta : TA} {xs : List α} (h : Axp c W0 ta As (aAll (fun x => kFr c.K x) xs)) (hl : xs.length ≤ sizeLine) : Exp c W0 (tLst ta) As (kNw c.K xs) := fun σ W a W1 e Q q =>
  h σ W a W1 e _ fun vs W2 e2 ps => by
    have al := aAll_al ps
    exact ⟨al.1 ▸ hl, fun p hp => q _ (W2.no p _ hp) (e2.trans (Le.no hp)) ⟨[p], ⟨p, vs, rfl, rfl, W2.sub.nope hp, upd_same, al, hl⟩, fun b hb => by rw [List.mem_singleton.mp hb]; exact e2.fr hp⟩⟩
theorem r_lst [Rp α] {ta : TA} {m : R τ} {g : τ → List α} {ks : τ → KdA} (h : Axr c W0 X ta As m ks) (hk : ∀ z, ks z = aAll (fun x => kFr c.K x) (g z)) (hl : ∀ z, (g z).length ≤ sizeLine) : Exr c W0 X (tLst ta) As (m.bind fun z => .ok (g z)) fun x => kNw c.K x :=
  r_ofA (te := tLst) h (fun x _ h' => e_lst (by rw [← hk]; exact h') (hl x)) fun _ _ _ => rz_lst
/-! tests -/
theorem t_e {te : TE} {b : Bool} (h : Exp c W0 te As (kFr c.K b)) : Txp c W0 (tTest te) As b := fun σ W a W1 e Q q => h σ W a W1 e _ fun v W2 e2 p => ⟨b, p, q W2 e2⟩
theorem tr_e {te : TE} {m : R Bool} (h : Exr c W0 X te As m fun b => kFr c.K b) : Txr c W0 X (tTest te) As m := fun σ W a => by
  have h' := h σ W a
  cases m with
  | no => trivial
  | ex e => exact fun W1 e1 Q q => h' W1 e1 _ q
  | ok b => exact fun W1 e Q q => h' W1 e _ fun v W2 e2 p => ⟨b, p, q W2 e2⟩
theorem t_B {te : TE} {b : Bool} (h : Exp c W0 te As (kFr c.K b)) : Txp c W0 (tB te) As b := fun σ W a W1 e Q q => h σ W a W1 e _ fun v W2 e2 p => ⟨b, p, q W2 e2⟩
theorem tr_B {te : TE} {m : R Bool} (h : Exr c W0 X te As m fun b => kFr c.K b) : Txr c W0 X (tB te) As m := fun σ W a => by
  have h' := h σ W a
  cases m with
  | no => trivial
  | ex e => exact fun W1 e1 Q q => h' W1 e1 _ q
  | ok b => exact fun W1 e Q q => h' W1 e _ fun v W2 e2 p => ⟨b, p, q W2 e2⟩
theorem t_and {t u : TT} {a b : Bool} (h : Txp c W0 t As a) (h2 : Txp c W0 u As b) : Txp c W0 (tAnd t u) As (a && b) := fun σ W at_ W1 e Q q => h σ W at_ W1 e _ fun W2 e2 => by
  cases a with
  | true => exact h2 σ W at_ W2 (e.trans e2) Q fun W3 e3 => q W3 (e2.trans e3)
  | false => exact q W2 e2
theorem tr_and {t u : TT} {m n : R Bool} (h : Txr c W0 X t As m) (h2 : Txr c W0 X u As n) : Txr c W0 X (tAnd t u) As (m.and n) := fun σ W a => by
  have h' := h σ W a
  have h2' := h2 σ W a
  cases m with
  | no => trivial
  | ex e => exact fun W1 e1 Q q => h' W1 e1 _ q
  | ok b =>
    cases b with
    | false => exact fun W1 e Q q => h' W1 e _ fun W2 e2 => q W2 e2
    | true =>
      show SatR (n) _ _
      cases n with
      | no => trivial
      | ex e => exact fun W1 e1 Q q => h' W1 e1 _ fun W2 e2 => h2' W2 (e1.trans e2) _ fun cls d W3 e3 z => q cls d W3 (e2.trans e3) z
      | ok b => exact fun W1 e Q q => h' W1 e _ fun W2 e2 => h2' W2 (e.trans e2) Q fun W3 e3 => q W3 (e2.trans e3)
theorem tr_or {t u : TT} {m n : R Bool} (h : Txr c W0 X t As m) (h2 : Txr c W0 X u As n) : Txr c W0 X (tOr t u) As (m.or n) := fun σ W a => by
  have h' := h σ W a
  have h2' := h2 σ W a
  cases m with
  | no => trivial
  | ex e => exact fun W1 e1 Q q => h' W1 e1 _ q
  | ok b =>
    cases b with
    | true => exact fun W1 e Q q => h' W1 e _ fun W2 e2 => q W2 e2
    | false =>
      show SatR (n) _ _
      cases n with
      | no => trivial
      | ex e => exact fun W1 e1 Q q => h' W1 e1 _ fun W2 e2 => h2' W2 (e1.trans e2) _ fun cls d W3 e3 z => q cls d W3 (e2.trans e3) z
      | ok b => exact fun W1 e Q q => h' W1 e _ fun W2 e2 => h2' W2 (e.trans e2) Q fun W3 e3 => q W3 (e2.trans e3)
/-! and, or, not, if as values -/
theorem r_andV {ta tb : TE} {m n : R Bool} (h : Exr c W0 X ta As m fun b => kFr c.K b) (h2 : Exr c W0 X tb As n fun b => kFr c.K b) : Exr c W0 X (tAndV ta tb) As (m.and n) fun b => kFr c.K b := fun σ W a => by
  have h' := h σ W a
  have h2' := h2 σ W a
  cases m with
  | no => trivial
  | ex e => exact fun W1 e1 Q q => h' W1 e1 _ q
  | ok b =>
    cases b with
    | false => exact fun W1 e Q q => h' W1 e _ fun v W2 e2 p => ⟨false, p, q _ W2 e2 rfl⟩
    | true =>
      show SatR (n) _ _
      cases n with
      | no => trivial
      | ex e => exact fun W1 e1 Q q => h' W1 e1 _ fun v W2 e2 p => ⟨true, p, h2' W2 (e1.trans e2) _ fun cls d W3 e3 z => q cls d W3 (e2.trans e3) z⟩
      | ok b => exact fun W1 e Q q => h' W1 e _ fun v W2 e2 p => ⟨true, p, h2' W2 (e.trans e2) Q fun w W3 e3 p3 => q w W3 (e2.trans e3) p3⟩
end
end Fw

namespace Fw
open PySem L2
inductive Out (S J ρ : Type) where
  | nx (s : S)
  | rt (r : ρ)
  | bk (j : J)
  | ct (j : J)
  | ex (e : Exc)
  | no
namespace Out
variable {S T J ρ α : Type}
def bind (m : Out S J ρ) (k : S → Out T J ρ) : Out T J ρ := match m with
  | .nx s => k s
  | .rt r => .rt r
  | .bk j => .bk j
  | .ct j => .ct j
  | .ex e => .ex e
  | .no => .no
@[simp] theorem bind_nx (s : S) (k : S → Out T J ρ) : (Out.nx s : Out S J ρ).bind k = k s := rfl
@[simp] theorem bind_rt (r : ρ) (k : S → Out T J ρ) : (Out.rt r : Out S J ρ).bind k = .rt r := rfl
@[simp] theorem bind_bk (r : J) (k : S → Out T J ρ) : (Out.bk r : Out S J ρ).bind k = .bk r := rfl
@[simp] theorem bind_ct (r : J) (k : S → Out T J ρ) : (Out.ct r : Out S J ρ).bind k = .ct r := rfl
@[simp] theorem bind_ex (r : Exc) (k : S → Out T J ρ) : (Out.ex r : Out S J ρ).bind k = .ex r := rfl
@[simp] theorem bind_no (k : S → Out T J ρ) : (Out.no : Out S J ρ).bind k = .no := rfl
end Out
/-- go on with what was reckoned -/
def R.to {α S J ρ : Type} (m : R α) (k : α → Out S J ρ) : Out S J ρ := match m with
  | .ok x => k x
  | .ex e => .ex e
  | .no => .no
section
variable {α S J ρ : Type}
@[simp] theorem R.to_ok (x : α) (k : α → Out S J ρ) : (R.ok x).to k = k x := rfl
@[simp] theorem R.to_no (k : α → Out S J ρ) : (R.no : R α).to k = .no := rfl
@[simp] theorem R.to_ex (e : Exc) (k : α → Out S J ρ) : (R.ex e : R α).to k = .ex e := rfl
/-- a def's end: what it hands back -/
def Out.fin (m : Out Unit Unit ρ) (d : Unit → R ρ) : R ρ := match m with
  | .nx s => d s
  | .rt r => .ok r
  | _ => .no
/-- a def all of whose ways return -/
def Out.run (m : Out Unit Unit ρ) : R ρ := match m with
  | .rt r => .ok r
  | _ => .no
@[simp] theorem Out.run_rt (r : ρ) : (Out.rt r : Out Unit Unit ρ).run = .ok r := rfl
@[simp] theorem Out.run_ex (e : Exc) : (Out.ex e : Out Unit Unit ρ).run = .no := rfl
@[simp] theorem Out.run_no : (Out.no : Out Unit Unit ρ).run = .no := rfl
def lt {β : Type} (x : α) (k : α → β) : β := k x
def R.to2 {β : Type} (m : R (α × β)) (k : α → β → Out S J ρ) : Out S J ρ := m.to fun z => k z.1 z.2
def R.toS {β : Type} (m : R (β × α)) (k : α → Out S J ρ) : Out S J ρ := m.to fun z => k z.2
@[simp] theorem R.to2_ok {β : Type} (x : α × β) (k : α → β → Out S J ρ) : (R.ok x).to2 k = k x.1 x.2 := rfl
@[simp] theorem R.toS_ok {β : Type} (x : β × α) (k : α → Out S J ρ) : (R.ok x).toS k = k x.2 := rfl
def forL : List α → S → (S → α → Out S S ρ) → Out S J ρ
  | [], s, _ => .nx s
  | x :: xs, s, f => match f s x with
    | .nx s' => forL xs s' f
    | .ct s' => forL xs s' f
    | .bk s' => .nx s'
    | .rt r => .rt r
    | .ex e => .ex e
    | .no => .no
def whileF : Nat → S → (S → R Bool) → (S → Out S S ρ) → Out S J ρ
  | 0, _, _, _ => .no
  | n + 1, s, c, f => match c s with
    | .ok true => match f s with
      | .nx s' => whileF n s' c f
      | .ct s' => whileF n s' c f
      | .bk s' => .nx s'
      | .rt r => .rt r
      | .ex e => .ex e
      | .no => .no
    | .ok false => .nx s
    | .ex e => .ex e
    | .no => .no
end
/-- the grounds of a block: its own, the def's, that of what is raised -/
structure Bd where
  W0 : Wd
  Wo : Wd
  We : Wd
  le : Le Wo W0
  lx : Le We W0
def Bd.re (B : Bd) (W1 : Wd) (e : Le B.W0 W1) : Bd := ⟨W1, B.Wo, B.We, B.le.trans e, B.lx.trans e⟩
section
variable {J S T U ρ α β γ : Type} {c : Cn} {X : WX} {kr : ρ → Kd} {Ls : List Sl} {Js : J → List Sl} {B : Bd} {As Bs' : List Sl} {Bs : S → List Sl} {Cs : T → List Sl}
def Fin (c : Cn) (X : WX) (kr : ρ → Kd) (Ls : List Sl) (Js : J → List Sl) (B : Bd) (Bs : S → List Sl) (D : Ends) (m : Out S J ρ) : Prop := match m with
  | .nx s => ∀ σ W, At c.K B.W0 (Bs s) σ W → D.nx σ W.H
  | .rt r => ∀ v W, Le B.W0 W → (kr r).p B.Wo v W → D.rt v W.H
  | .bk j => ∀ σ W, At c.K B.W0 (Js j) σ W → D.bk σ W.H
  | .ct j => ∀ σ W, At c.K B.W0 (Js j) σ W → D.ct σ W.H
  | .ex e => ∀ cls d σ W, At c.K B.We Ls σ W → ExAt c.M e cls d W → X cls d σ W.H
  | .no => False
def Den (c : Cn) (X : WX) (kr : ρ → Kd) (Ls : List Sl) (Js : J → List Sl) (B : Bd) (t : TS) (As : List Sl) (m : Out S J ρ) (Bs : S → List Sl) : Prop := ∀ D σ W, At c.K B.W0 As σ W → Fin c X kr Ls Js B Bs D m → t D σ W.H
/-- what may leave the block where the slots are so -/
abbrev Lx (Ls : List Sl) (As : List Sl) : Prop := Wk As Ls
theorem lx_at {K : Frag} {W : Wd} {σ : St} (h : Lx Ls As) (a : At K B.W0 As σ W) : At K B.We Ls σ W := (a.wk h).re B.lx
theorem At.setF [Rp α] {K : Frag} {W0 W : Wd} {σ : St} {x : α} {v : V} {i : Nat} (h : At K W0 As σ W) (r : Rp.rep K x v W.G) : At K W0 (As.set i (.fr x)) (σ.set i (some v)) W := h.set ⟨v, rfl, r⟩
theorem d_seq {t u : TS} {m : Out S J ρ} {k : S → Out T J ρ} (h : Den c X kr Ls Js B t As m Bs) (hk : ∀ s, Den c X kr Ls Js B u (Bs s) (k s) Cs) : Den c X kr Ls Js B (tSeq t u) As (m.bind k) Cs := fun D σ W a f => by
  refine h { D with nx := u D } σ W a ?_
  cases m with
  | nx s => exact fun σ' W' a' => hk s D σ' W' a' f
  | _ => exact f
theorem d_nx {s : S} (w : Wk As (Bs s)) : Den c X kr Ls Js B tNext As (.nx s) Bs := fun D σ W a f => f σ W (a.wk w)
theorem d_fz [Fz α] {pin : Option V} {t : TS} {m : Out S J ρ} {x : α} (i : Nat) (hi : As[i]? = some (.ow pin x)) (h : Den c X kr Ls Js B t (As.set i (.fr x)) m Bs) : Den c X kr Ls Js B t As m Bs := fun D σ W a f => by
  obtain ⟨W', e, a'⟩ := a.fz hi
  rw [← e]
  exact h D σ W' a' f
/-- x = e -/
theorem d_let [Rp α] {te : TE} {u : TS} {x : α} {k : α → Out S J ρ} (i : Nat) (h : Exp c B.W0 te As (kFr c.K x)) (hk : ∀ y, Den c X kr Ls Js B u (As.set i (.fr y)) (k y) Bs) : Den c X kr Ls Js B (tSeq (tAsg te (gName i)) u) As (lt x k) Bs := fun D σ W a f =>
  h σ W a W (Le.refl _) _ fun v W2 e p => hk x D _ W2 ((a.mono e).setF p) f
theorem d_get [Rp α] {te : TE} {u : TS} {m : R α} {k : α → Out S J ρ} (i : Nat) (lx : Lx Ls As) (h : Exr c B.W0 X te As m fun x => kFr c.K x) (hk : ∀ y, Den c X kr Ls Js B u (As.set i (.fr y)) (k y) Bs) : Den c X kr Ls Js B (tSeq (tAsg te (gName i)) u) As (m.to k) Bs := fun D σ W a f => by
  have h' := h σ W a
  cases m with
  | no => exact False.elim f
  | ex e => exact h' W (Le.refl _) _ fun cls d W2 e2 z => f cls d σ W2 (lx_at lx (a.mono e2)) z
  | ok x => exact h' W (Le.refl _) _ fun v W2 e p => hk x D _ W2 ((a.mono e).setF p) f
theorem d_letN [Ob α] {te : TE} {u : TS} {x : α} {k : α → Out S J ρ} (i : Nat) (h : Exp c B.W0 te As (kNw c.K x)) (hk : ∀ y, Den c X kr Ls Js B u (As.set i (.ow none y)) (k y) Bs) : Den c X kr Ls Js B (tSeq (tAsg te (gName i)) u) As (lt x k) Bs := fun D σ W a f =>
  h σ W a W (Le.refl _) _ fun v W2 e ⟨fp, o, n⟩ => hk x D _ W2 (a.setO e o n) f
theorem d_getN [Ob α] {te : TE} {u : TS} {m : R α} {k : α → Out S J ρ} (i : Nat) (lx : Lx Ls As) (h : Exr c B.W0 X te As m fun x => kNw c.K x) (hk : ∀ y, Den c X kr Ls Js B u (As.set i (.ow none y)) (k y) Bs) : Den c X kr Ls Js B (tSeq (tAsg te (gName i)) u) As (m.to k) Bs := fun D σ W a f => by
  have h' := h σ W a
  cases m with
  | no => exact False.elim f
  | ex e => exact h' W (Le.refl _) _ fun cls d W2 e2 z => f cls d σ W2 (lx_at lx (a.mono e2)) z
  | ok x => exact h' W (Le.refl _) _ fun v W2 e ⟨fp, o, n⟩ => hk x D _ W2 (a.setO e o n) f
theorem d_get2 [Rp α] [Rp β] {te : TE} {u : TS} {m : R (α × β)} {k : α → β → Out S J ρ} (i j : Nat) (lx : Lx Ls As) (h : Exr c B.W0 X te As m fun x => kFr c.K x) (hk : ∀ y z, Den c X kr Ls Js B u ((As.set i (.fr y)).set j (.fr z)) (k y z) Bs) :
    Den c X kr Ls Js B (tSeq (tAsg te (gTup c.K 2 (gCons (gName i) (gCons (gName j) gNil)))) u) As (m.to2 k) Bs := fun D σ W a f => by
  have h' := h σ W a
  cases m with
  | no => exact False.elim f
  | ex e => exact h' W (Le.refl _) _ fun cls d W2 e2 z => f cls d σ W2 (lx_at lx (a.mono e2)) z
  | ok x => exact h' W (Le.refl _) _ fun v W2 e ⟨p, va, vb, ev, hp, r1, r2⟩ => ⟨p, [va, vb], ev, W2.sub.sqt hp, rfl, va, [vb], rfl, vb, [], rfl, rfl, hk x.1 x.2 D _ W2 (((a.mono e).setF r1).setF r2) f⟩
/-- return e -/
theorem kr_ok {r : ρ} {v : V} {A W : Wd} (e : Le B.W0 A) (h : (kr r).p A v W) : (kr r).p B.Wo v W := (kr r).dn (B.le.trans e) h
theorem d_ret {te : TE} {u : TS} {r : ρ} (h : Exp c B.W0 te As (kr r)) : Den c X kr Ls Js B (tSeq (tRet te) u) As (.rt r) Bs := fun D σ W a f =>
  h σ W a W (Le.refl _) _ fun v W2 e p => f v W2 (a.le.trans e) (kr_ok a.le p)
theorem d_retR {te : TE} {u : TS} {m : R ρ} (lx : Lx Ls As) (h : Exr c B.W0 X te As m kr) : Den c X kr Ls Js B (tSeq (tRet te) u) As (m.to .rt) Bs := fun D σ W a f => by
  have h' := h σ W a
  cases m with
  | no => exact False.elim f
  | ex e => exact h' W (Le.refl _) _ fun cls d W2 e2 z => f cls d σ W2 (lx_at lx (a.mono e2)) z
  | ok x => exact h' W (Le.refl _) _ fun v W2 e p => f v W2 (a.le.trans e) (kr_ok a.le p)
/-- return x, x an owned thing of this def -/
theorem d_retO [Ob ρ] {pin : Option V} {u : TS} {r : ρ} (i : Nat) (hi : As[i]? = some (.ow pin r)) (hr : kr = fun x => kNw c.K x) : Den c X kr Ls Js B (tSeq (tRet (tVar i)) u) As (.rt r) Bs := fun D σ W a f => by
  obtain ⟨v, fp, hv, o, n, _⟩ := a.chg (β := ρ) (y := r) hi
  refine ⟨v, hv, f v W a.le ?_⟩
  rw [hr]
  exact ⟨fp, o, fun b hb => B.le.h.nope (n b hb)⟩
/-- if -/
theorem d_if {tc : TT} {t u v : TS} {m : R Bool} {a b : Out S J ρ} {k : S → Out T J ρ} (lx : Lx Ls As) (hc : Txr c B.W0 X tc As m) (h1 : Den c X kr Ls Js B t As a Bs) (h2 : Den c X kr Ls Js B u As b Bs) (hk : ∀ s, Den c X kr Ls Js B v (Bs s) (k s) Cs) :
    Den c X kr Ls Js B (tSeq (tIfS tc t u) v) As (m.to fun z => (if z then a else b).bind k) Cs := fun D σ W at_ f => by
  have h' := hc σ W at_
  cases m with
  | no => exact False.elim f
  | ex e => exact h' W (Le.refl _) _ fun cls d W2 e2 z => f cls d σ W2 (lx_at lx (at_.mono e2)) z
  | ok z =>
    refine h' W (Le.refl _) _ fun W2 e2 => ?_
    cases z with
    | true => exact d_seq h1 hk D σ W2 (at_.mono e2) f
    | false => exact d_seq h2 hk D σ W2 (at_.mono e2) f
theorem d_ifp {tc : TT} {t u v : TS} {z : Bool} {a b : Out S J ρ} {k : S → Out T J ρ} (hc : Txp c B.W0 tc As z) (h1 : Den c X kr Ls Js B t As a Bs) (h2 : Den c X kr Ls Js B u As b Bs) (hk : ∀ s, Den c X kr Ls Js B v (Bs s) (k s) Cs) :
    Den c X kr Ls Js B (tSeq (tIfS tc t u) v) As ((if z then a else b).bind k) Cs := fun D σ W at_ f => by
  refine hc σ W at_ W (Le.refl _) _ fun W2 e2 => ?_
  cases z with
  | true => exact d_seq h1 hk D σ W2 (at_.mono e2) f
  | false => exact d_seq h2 hk D σ W2 (at_.mono e2) f
/-- a block that never goes on: its state is of the type Empty -/
def Out.abs (m : Out Empty J ρ) : Out S J ρ := m.bind fun e => nomatch e
@[simp] theorem Out.abs_rt (r : ρ) : (Out.rt r : Out Empty J ρ).abs = (Out.rt r : Out S J ρ) := rfl
@[simp] theorem Out.abs_bk (r : J) : (Out.bk r : Out Empty J ρ).abs = (Out.bk r : Out S J ρ) := rfl
@[simp] theorem Out.abs_ct (r : J) : (Out.ct r : Out Empty J ρ).abs = (Out.ct r : Out S J ρ) := rfl
@[simp] theorem Out.abs_ex (r : Exc) : (Out.ex r : Out Empty J ρ).abs = (Out.ex r : Out S J ρ) := rfl
@[simp] theorem Out.abs_no : (Out.no : Out Empty J ρ).abs = (Out.no : Out S J ρ) := rfl
def noSl : Empty → List Sl := fun e => nomatch e
/-- if c: a block that never goes on -/
theorem d_abs {t v : TS} {a : Out Empty J ρ} (h : Den c X kr Ls Js B t As a noSl) (D : Ends) : ∀ σ W, At c.K B.W0 As σ W → Fin c X kr Ls Js B Cs D a.abs → t { D with nx := v D } σ W.H := fun σ W at_ f => by
  refine h { D with nx := v D } σ W at_ ?_
  cases a with
  | nx s => exact s.elim
  | _ => exact f
theorem d_ifa {tc : TT} {t v : TS} {m : R Bool} {a : Out Empty J ρ} {k : Out T J ρ} (lx : Lx Ls As) (hc : Txr c B.W0 X tc As m) (h1 : Den c X kr Ls Js B t As a noSl) (hk : Den c X kr Ls Js B v As k Cs) :
    Den c X kr Ls Js B (tSeq (tIfS tc t tNext) v) As (m.to fun z => if z then a.abs else k) Cs := fun D σ W at_ f => by
  have h' := hc σ W at_
  cases m with
  | no => exact False.elim f
  | ex e => exact h' W (Le.refl _) _ fun cls d W2 e2 z => f cls d σ W2 (lx_at lx (at_.mono e2)) z
  | ok z =>
    refine h' W (Le.refl _) _ fun W2 e2 => ?_
    cases z with
    | true => exact d_abs (v := v) h1 D σ W2 (at_.mono e2) f
    | false => exact hk D σ W2 (at_.mono e2) f
theorem d_ifap {tc : TT} {t v : TS} {z : Bool} {a : Out Empty J ρ} {k : Out T J ρ} (hc : Txp c B.W0 tc As z) (h1 : Den c X kr Ls Js B t As a noSl) (hk : Den c X kr Ls Js B v As k Cs) :
    Den c X kr Ls Js B (tSeq (tIfS tc t tNext) v) As (if z then a.abs else k) Cs := fun D σ W at_ f => by
  refine hc σ W at_ W (Le.refl _) _ fun W2 e2 => ?_
  cases z with
  | true => exact d_abs (v := v) h1 D σ W2 (at_.mono e2) f
  | false => exact hk D σ W2 (at_.mono e2) f
/-- xs.append(e) -/
@[irreducible] def R.app (xs : List α) (x : α) : R (List α) := if xs.length < sizeLine then .ok (xs ++ [x]) else .no
@[irreducible] def R.ext (xs ys : List α) : R (List α) := if xs.length + ys.length ≤ sizeLine then .ok (xs ++ ys) else .no
theorem al_mono {K : Frag} [Rp α] {xs : List α} {vs : List V} {G H : Hp} (h : Al (fun x v => Rp.rep K x v G) xs vs) (s : Inc G H) : Al (fun x v => Rp.rep K x v H) xs vs := h.imp fun _ _ r => Rp.mono s r
theorem mut_keep {W : Wd} {p : Addr} {o : HO} (g : W.G p = none) {hi : imm o = false} (a : Addr) (h : a ∉ [p]) (n : W.H a ≠ none) : (W.mt p o g hi).H a = W.H a := upd_ne (fun q => h (List.mem_singleton.mpr q))
theorem d_app [Rp α] {pin : Option V} {te : TE} {u : TS} {xs : List α} {m : R α} {k : List α → Out S J ρ} (i : Nat) (hi : As[i]? = some (.ow pin xs)) (lx : Lx Ls As) (h : Exr c B.W0 X te As m fun x => kFr c.K x) (hk : ∀ ys : List α, Den c X kr Ls Js B u (As.set i (.ow pin ys)) (k ys) Bs) :
    Den c X kr Ls Js B (tSeq (tDrop (tBM c.K "list" rAppend (tVar i) (tCons te tNil))) u) As (m.to fun y => (R.app xs y).to k) Bs := fun D σ W a f => by
  have h' := h σ W a
  obtain ⟨w, fp, hw, rw_, n0, chg⟩ := a.chg (β := List α) (y := xs) hi
  obtain ⟨p, vs, ew, ef, g, hh, al, l⟩ := rw_
  subst ew ef
  refine ⟨_, hw, .inl ⟨rfl, vs, .inl (.inl hh)⟩, ?_⟩
  cases m with
  | no => exact False.elim f
  | ex e => exact h' W (Le.refl _) _ fun cls d W2 e2 z => f cls d σ W2 (lx_at lx (a.mono e2)) z
  | ok y =>
    refine h' W (Le.refl _) _ fun v W2 e r => ?_
    have f' : Fin c X kr Ls Js B Bs D (R.to (if xs.length < sizeLine then R.ok (xs ++ [y]) else R.no) k) := by
      have f2 : Fin c X kr Ls Js B Bs D ((R.app xs y).to k) := f
      unfold R.app at f2
      exact f2
    have g2 : W2.G p = none := e.o p g (by rw [hh]; exact fun z => nomatch z)
    by_cases cz : xs.length < sizeLine
    · rw [if_pos cz] at f'
      refine ⟨p, vs, v, rfl, rfl, e.h _ _ hh, al.1 ▸ cz, ?_⟩
      obtain ⟨w', fp', hw', rw', n0', chg'⟩ := (a.mono e).chg (β := List α) (y := xs ++ [y]) hi
      rw [hw] at hw'
      cases hw'
      obtain ⟨p', vs', ep, ef', g', hh', al', l'⟩ := rw'
      cases ep
      subst ef'
      have a3 := chg' (W2.mt p (.lst (vs ++ [v])) g2) [p] (Inc.refl _) (fun b _ hb _ => hb) (fun b hb n => mut_keep g2 b hb n) ⟨p, _, rfl, rfl, g2, upd_same, (al_mono al e.g).app (Al.one r), by simp; omega⟩ (fun b hb => .inl hb)
      exact hk _ D _ _ a3 f'
    · rw [if_neg cz] at f'
      exact False.elim f'
/-- xs[i] = e -/
@[irreducible] def R.set (xs : List α) (i : Int) (y : α) : R (List α) := match ixN xs.length i with
  | some j => .ok (xs.set j y)
  | none => .no
theorem d_setL [Rp α] {pin : Option V} {te ti : TE} {u : TS} {xs : List α} {m : R α} {n : R Int} {k : List α → Out S J ρ} (i : Nat) (hi : As[i]? = some (.ow pin xs)) (lx : Lx Ls As) (h : Exr c B.W0 X te As m fun x => kFr c.K x) (hn : Exr c B.W0 X ti As n fun x => kFr c.K x)
    (hk : ∀ ys : List α, Den c X kr Ls Js B u (As.set i (.ow pin ys)) (k ys) Bs) :
    Den c X kr Ls Js B (tSeq (tAsg te (gSub (tVar i) ti rSetL)) u) As (m.to fun y => n.to fun j => (R.set xs j y).to k) Bs := fun D σ W a f => by
  have h' := h σ W a
  have hn' := hn σ W a
  cases m with
  | no => exact False.elim f
  | ex e => exact h' W (Le.refl _) _ fun cls d W2 e2 z => f cls d σ W2 (lx_at lx (a.mono e2)) z
  | ok y =>
    refine h' W (Le.refl _) _ fun v W1 e1 r => ?_
    obtain ⟨w, fp, hw, rw_, _⟩ := (a.mono e1).chg (β := List α) (y := xs) hi
    refine ⟨w, hw, ?_⟩
    cases n with
    | no => exact False.elim f
    | ex e => exact hn' W1 e1 _ fun cls d W2 e2 z => f cls d σ W2 (lx_at lx (a.mono (e1.trans e2))) z
    | ok j =>
      refine hn' W1 e1 _ fun jv W2 e2 rj => ?_
      have rj' : jv = .int j := rj
      subst rj'
      obtain ⟨w', fp', hw', rw', n0', chg'⟩ := (a.mono (e1.trans e2)).chg (β := List α) (y := (match ixN xs.length j with | some q => xs.set q y | none => xs)) hi
      rw [hw] at hw'
      cases hw'
      obtain ⟨p, vs, ep, ef, g, hh, al, l⟩ := rw'
      subst ep ef
      have f' : Fin c X kr Ls Js B Bs D (R.to (match ixN xs.length j with | some q => .ok (xs.set q y) | none => .no) k) := by
        have f2 : Fin c X kr Ls Js B Bs D ((R.set xs j y).to k) := f
        unfold R.set at f2
        exact f2
      cases q : ixN xs.length j with
      | none => rw [q] at f'; exact False.elim f'
      | some z =>
        rw [q] at f' chg'
        refine ⟨p, vs, j, z, rfl, rfl, hh, al.1 ▸ q, ?_⟩
        have a3 := chg' (W2.mt p (.lst (vs.set z v)) g) [p] (Inc.refl _) (fun b _ hb _ => hb) (fun b hb n => mut_keep g b hb n) ⟨p, _, rfl, rfl, g, upd_same, al.set (Rp.mono e2.g r) z, by simp; omega⟩ (fun b hb => .inl hb)
        exact hk _ D _ _ a3 f'
/-- xs.extend(a list that stands in the heap) -/
def kLs (K : Frag) [Rp α] (xs : List α) : Kd := ⟨fun _ v W => ∃ p vs, v = .ref p ∧ W.H p = some (.lst vs) ∧ Al (fun x v => Rp.rep K x v W.G) xs vs ∧ xs.length ≤ sizeLine,
  fun ⟨p, vs, e, h, a, l⟩ q => ⟨p, vs, e, q.h _ _ h, al_mono a q.g, l⟩, fun _ h => h⟩
theorem own_ls [Rp α] {K : Frag} {x : List α} {v : V} {f : List Addr} {W A : Wd} (h : Ob.own K x v f W) : (kLs K x).p A v W := by
  obtain ⟨p, vs, e, ef, g, hh, a, l⟩ := h
  exact ⟨p, vs, e, hh, a, l⟩
theorem nw_ls [Rp α] {K : Frag} {x : List α} {v : V} {W A : Wd} (h : (kNw K x).p A v W) : (kLs K x).p A v W := by
  obtain ⟨f, o, _⟩ := h
  exact own_ls o
theorem e_lsN {W0 : Wd} [Rp α] {te : TE} {x : List α} (h : Exp c W0 te As (kNw c.K x)) : Exp c W0 te As (kLs c.K x) := exp_w h fun _ _ _ => nw_ls
/-! ### what is walked -/
def Gives (J : It) (G1 : Hp) (xs : List α) (k : α → Kd) : Prop := ∀ (i : Nat) (W : Wd), Inc G1 W.G → (xs.length ≤ i → J.stop i W.H) ∧ ∀ x, xs[i]? = some x → J.go i W.H ∧ ∀ v H', J.yld i W.H v H' → ∃ W', W'.H = H' ∧ Le W W' ∧ (k x).p W v W'
def Ixr (c : Cn) (W0 : Wd) (X : WX) (wi : TI) (As : List Sl) (m : R (List α)) (k : α → Kd) : Prop := ∀ σ W, At c.K W0 As σ W →
  SatR m (fun xs => ∀ W1, Le W W1 → ∀ Q : It → Hp → Prop, (∀ J W2, Le W1 W2 → Gives J W2.G xs k → Q J W2.H) → wi σ W1.H Q) (fun e => ∀ W1, Le W W1 → ∀ Q, (∀ cls d W2, Le W1 W2 → ExAt c.M e cls d W2 → X cls d σ W2.H) → wi σ W1.H Q)
def Tg (c : Cn) (W0 : Wd) (g : TG) (As : List Sl) (k : α → Kd) (Bs : α → List Sl) : Prop := ∀ x σ W A v, At c.K W0 As σ W → (k x).p A v W → ∀ Q : St → Hp → Prop, (∀ σ', At c.K W0 (Bs x) σ' W → Q σ' W.H) → g v σ W.H Q
theorem g_name {W0 : Wd} [Rp α] (i : Nat) : Tg c W0 (gName i) As (fun x : α => kFr c.K x) (fun x => As.set i (.fr x)) := fun x σ W A v a r Q q => q _ (a.setF r)
theorem g_tup2 {W0 : Wd} [Rp α] [Rp β] (i j : Nat) : Tg c W0 (gTup c.K 2 (gCons (gName i) (gCons (gName j) gNil))) As (fun x : α × β => kFr c.K x) (fun x => (As.set i (.fr x.1)).set j (.fr x.2)) := fun x σ W A v a ⟨p, va, vb, ev, hp, r1, r2⟩ Q q =>
  ⟨p, [va, vb], ev, W.sub.sqt hp, rfl, va, [vb], rfl, vb, [], rfl, rfl, q _ ((a.setF r1).setF r2)⟩
theorem drop_cons {l : List α} {i : Nat} {x : α} (h : l[i]? = some x) : l.drop i = x :: l.drop (i + 1) := by
  obtain ⟨hi, e⟩ := List.getElem?_eq_some_iff.mp h
  rw [← e]
  exact List.drop_eq_getElem_cons hi
/-- for -/
theorem d_for {wi : TI} {g : TG} {tb u : TS} {m : R (List α)} {k : α → Kd} {s0 : S} {Ts : S → α → List Sl} {f : S → α → Out S S ρ} {kk : S → Out T J ρ} (lx : Lx Ls As) (hi : Ixr c B.W0 X wi As m k) (w : Wk As (Bs s0)) (hg : ∀ s (W1 : Wd), Tg c W1 g (Bs s) k (Ts s))
    (hb : ∀ s x B', Den c X kr Ls Bs B' tb (Ts s x) (f s x) Bs) (hk : ∀ s, Den c X kr Ls Js B u (Bs s) (kk s) Cs) : Den c X kr Ls Js B (tSeq (tFor wi g tb) u) As (m.to fun xs => (forL xs s0 f).bind kk) Cs := fun D σ W a fn => by
  have h' := hi σ W a
  cases m with
  | no => exact False.elim fn
  | ex e => exact h' W (Le.refl _) _ fun cls d W2 e2 z => fn cls d σ W2 (lx_at lx (a.mono e2)) z
  | ok xs =>
    refine h' W (Le.refl _) _ fun Jt W2 e2 gv => ?_
    have a2 : At c.K B.W0 (Bs s0) σ W2 := (a.mono e2).wk w
    let Wb := B.W0.rb W2 a2.le
    have eb : Le B.W0 Wb := Le.rb0 a2.le
    have fin0 : Fin c X kr Ls Js B Bs { D with nx := u D } (forL xs s0 f) := by
      have fn' : Fin c X kr Ls Js B Cs D ((forL xs s0 f).bind kk) := fn
      revert fn'
      generalize (forL xs s0 f : Out S J ρ) = o
      intro fn'
      cases o with
      | nx s => exact fun σ' W' a' => hk s D σ' W' a' fn'
      | _ => exact fn'
    refine ⟨fun i n σ H => ∃ (Wd' : Wd) (s : S), H = Wd'.H ∧ At c.K Wb (Bs s) σ Wd' ∧ n = xs.length - i ∧ i ≤ xs.length ∧ Fin c X kr Ls Js B Bs { D with nx := u D } (forL (xs.drop i) s f), ⟨xs.length, W2, s0, rfl, a2.rb, by simp, Nat.zero_le _, fin0⟩, ?_⟩
    rintro i n σ H ⟨Wi, s, rfl, ai, rfl, il, fi⟩
    have gi : Inc W2.G Wi.G := ai.le.g
    obtain ⟨g1, g2⟩ := gv i Wi gi
    by_cases ci : i = xs.length
    · refine .inl ⟨g1 (by omega), ?_⟩
      rw [ci, List.drop_length] at fi
      exact fi σ Wi (ai.re eb)
    · have hx : xs[i]? = some (xs[i]'(by omega)) := List.getElem?_eq_getElem (by omega)
      obtain ⟨go, yl⟩ := g2 _ hx
      rw [drop_cons hx] at fi
      refine .inr ⟨go, fun σ' H' => ∃ (Wd' : Wd) (s : S), H' = Wd'.H ∧ At c.K Wb (Bs s) σ' Wd' ∧ Fin c X kr Ls Js B Bs { D with nx := u D } (forL (xs.drop (i + 1)) s f), fun σ' H' ⟨W', s', e1, e2', e3⟩ => ⟨xs.length - (i + 1), by omega, W', s', e1, e2', rfl, by omega, e3⟩, fun v H' hy => ?_⟩
      obtain ⟨W', eh, le', kp⟩ := yl v H' hy
      subst eh
      refine hg s Wb _ σ W' Wi v (ai.mono le') kp _ fun σ2 a2' => ?_
      refine hb s _ (B.re Wb eb) _ σ2 W' a2' ?_
      have fi' : Fin c X kr Ls Js B Bs { D with nx := u D } (match f s (xs[i]'(by omega)) with
        | .nx s' => forL (xs.drop (i + 1)) s' f
        | .ct s' => forL (xs.drop (i + 1)) s' f
        | .bk s' => .nx s'
        | .rt r => .rt r
        | .ex e => .ex e
        | .no => .no) := fi
      revert fi'
      generalize f s (xs[i]'(by omega)) = o
      intro fi'
      cases o with
      | nx s' => exact fun σ3 W3 a3 => ⟨W3, s', rfl, a3, fi'⟩
      | ct s' => exact fun σ3 W3 a3 => ⟨W3, s', rfl, a3, fi'⟩
      | bk s' => exact fun σ3 W3 a3 => fi' σ3 W3 (a3.re eb)
      | rt r => exact fun v W3 l p => fi' v W3 (eb.trans l) p
      | ex e => exact fi'
      | no => exact fi'
/-- while -/
theorem d_while {tc : TT} {tb u : TS} {s0 : S} {cn : S → R Bool} {f : S → Out S S ρ} {kk : S → Out T J ρ} (n : Nat) (w : Wk As (Bs s0)) (lx : ∀ s, Lx Ls (Bs s)) (hc : ∀ s (W1 : Wd), Txr c W1 X tc (Bs s) (cn s)) (hb : ∀ s, Den c X kr Ls Bs B tb (Bs s) (f s) Bs) (hk : ∀ s, Den c X kr Ls Js B u (Bs s) (kk s) Cs) :
    Den c X kr Ls Js B (tSeq (tWhile tc tb) u) As ((whileF n s0 cn f).bind kk) Cs := fun D σ W a fn => by
  have fin0 : Fin c X kr Ls Js B Bs { D with nx := u D } (whileF n s0 cn f) := by
    have fn' : Fin c X kr Ls Js B Cs D ((whileF n s0 cn f).bind kk) := fn
    revert fn'
    generalize (whileF n s0 cn f : Out S J ρ) = o
    intro fn'
    cases o with
    | nx s => exact fun σ' W' a' => hk s D σ' W' a' fn'
    | _ => exact fn'
  refine ⟨fun n σ H => ∃ (Wd' : Wd) (s : S), H = Wd'.H ∧ At c.K B.W0 (Bs s) σ Wd' ∧ Fin c X kr Ls Js B Bs { D with nx := u D } (whileF n s cn f), ⟨n, W, s0, rfl, a.wk w, fin0⟩, ?_⟩
  rintro n σ H ⟨Wi, s, rfl, ai, fi⟩
  cases n with
  | zero => exact False.elim fi
  | succ n =>
    have h' := hc s B.W0 σ Wi ai
    have fi' : Fin c X kr Ls Js B Bs { D with nx := u D } (match cn s with
      | .ok true => match f s with
        | .nx s' => whileF n s' cn f
        | .ct s' => whileF n s' cn f
        | .bk s' => .nx s'
        | .rt r => .rt r
        | .ex e => .ex e
        | .no => .no
      | .ok false => .nx s
      | .ex e => .ex e
      | .no => .no) := fi
    revert fi' h'
    generalize cn s = cs
    intro h' fi'
    cases cs with
    | no => exact False.elim fi'
    | ex e => exact h' Wi (Le.refl _) _ fun cls d W2 e2 z => fi' cls d σ W2 (lx_at (lx s) (ai.mono e2)) z
    | ok b =>
      refine h' Wi (Le.refl _) _ fun W2 e2 => ?_
      cases b with
      | false => exact fi' σ W2 (ai.mono e2)
      | true =>
        refine ⟨fun σ' H' => ∃ (Wd' : Wd) (s : S), H' = Wd'.H ∧ At c.K B.W0 (Bs s) σ' Wd' ∧ Fin c X kr Ls Js B Bs { D with nx := u D } (whileF n s cn f), fun σ' H' ⟨W', s', e1, e2', e3⟩ => ⟨n, by omega, W', s', e1, e2', e3⟩, ?_⟩
        refine hb s _ σ W2 (ai.mono e2) ?_
        revert fi'
        generalize f s = o
        intro fi'
        cases o with
        | nx s' => exact fun σ3 W3 a3 => ⟨W3, s', rfl, a3, fi'⟩
        | ct s' => exact fun σ3 W3 a3 => ⟨W3, s', rfl, a3, fi'⟩
        | bk s' => exact fun σ3 W3 a3 => fi' σ3 W3 a3
        | rt r => exact fun v W3 l p => fi' v W3 l p
        | ex e => exact fi'
        | no => exact fi'
end
end Fw

namespace Fw
open PySem L2
/-! ### what is walked -/
section
variable {c : Cn} {W0 : Wd} {X : WX} {As Bs : List Sl} {α β γ δ τ ρ : Type}
theorem i_list [Rp α] {te : TE} {m : R (List α)} (h : Exr c W0 X te As m fun x => kFr c.K x) : Ixr c W0 X (iList c.K te) As m fun x => kFr c.K x := fun σ W a => by
  have h' := h σ W a
  cases m with
  | no => trivial
  | ex e => exact fun W1 e1 Q q => h' W1 e1 _ q
  | ok xs =>
    refine fun W1 e1 Q q => h' W1 e1 _ fun v W2 e2 ⟨p, vs, ev, hp, al, l⟩ => ⟨p, ev, ⟨vs, .inl (.inl (W2.sub _ _ hp))⟩, q _ W2 e2 fun i W g => ?_⟩
    have hs : SqL c.K W.H p vs := .inl (.inl (W.sub _ _ (g _ _ hp)))
    refine ⟨fun hi => ⟨vs, hs, al.1 ▸ hi⟩, fun x hx => ?_⟩
    obtain ⟨u, hu, r⟩ := al.get hx
    refine ⟨⟨vs, u, hs, hu⟩, fun v H' ⟨eh, k⟩ => ⟨W, eh.symm, Le.refl _, ?_⟩⟩
    have := k vs hs
    rw [hu] at this
    cases this
    exact Rp.mono g r
/-- range -/
def rng (lo hi : Int) : List Int := (List.range (hi - lo).toNat).map fun i => lo + (i : Nat)
@[irreducible] def R.rng (lo hi : Int) : R (List Int) := if -16777216 ≤ lo ∧ lo ≤ 16777216 ∧ -16777216 ≤ hi ∧ hi ≤ 16777216 then .ok (Fw.rng lo hi) else .no
theorem rng_len (lo hi : Int) : (rng lo hi).length = (hi - lo).toNat := by simp [rng]
theorem rng_get {lo hi : Int} {i : Nat} {x : Int} (h : (rng lo hi)[i]? = some x) : i < (hi - lo).toNat ∧ x = lo + (i : Nat) := by
  unfold rng at h
  rw [List.getElem?_map] at h
  by_cases c : i < (hi - lo).toNat
  · rw [List.getElem?_range c] at h
    exact ⟨c, (Option.some.inj h).symm⟩
  · rw [List.getElem?_eq_none (by simp; omega)] at h
    cases h
theorem gives_rng (lo hi : Int) (G : Hp) : Gives (Itr lo (hi - lo).toNat) G (rng lo hi) fun x => kFr c.K x := fun i W g => by
  refine ⟨fun hi' => by rw [rng_len] at hi'; exact hi', fun x hx => ?_⟩
  obtain ⟨h1, h2⟩ := rng_get hx
  refine ⟨h1, fun v H' ⟨eh, ev⟩ => ⟨W, eh.symm, Le.refl _, ?_⟩⟩
  rw [h2]
  exact ev
theorem i_rng1 {te : TE} {m : R Int} (h : Exr c W0 X te As m fun x => kFr c.K x) : Ixr c W0 X (iRng1 (tCons te tNil)) As (m.bind fun n => R.rng 0 n) fun x => kFr c.K x := fun σ W a => by
  have h' := h σ W a
  cases m with
  | no => trivial
  | ex e => exact fun W1 e1 Q q => h' W1 e1 _ q
  | ok n =>
    show SatR (R.rng 0 n) _ _
    unfold R.rng
    split
    · rename_i z
      refine fun W1 e1 Q q => h' W1 e1 _ fun v W2 e2 r => ⟨n, by rw [show v = .int n from r], by omega, by omega, ?_⟩
      have g := gives_rng (c := c) 0 n W2.G
      rw [Int.sub_zero] at g
      exact q _ W2 e2 g
    · trivial
theorem i_rng2 {te tf : TE} {m n : R Int} (h : Exr c W0 X te As m fun x => kFr c.K x) (h2 : Exr c W0 X tf As n fun x => kFr c.K x) : Ixr c W0 X (iRng2 (tCons te (tCons tf tNil))) As (m.bind fun a => n.bind fun b => R.rng a b) fun x => kFr c.K x := fun σ W a => by
  have h' := h σ W a
  have h2' := h2 σ W a
  cases m with
  | no => trivial
  | ex e => exact fun W1 e1 Q q => h' W1 e1 _ q
  | ok lo =>
    cases n with
    | no => trivial
    | ex e => exact fun W1 e1 Q q => h' W1 e1 _ fun v W2 e2 r => h2' W2 (e1.trans e2) _ fun cls d W3 e3 z => q cls d W3 (e2.trans e3) z
    | ok hi =>
      show SatR (R.rng lo hi) _ _
      unfold R.rng
      split
      · rename_i z
        refine fun W1 e1 Q q => h' W1 e1 _ fun v W2 e2 r => h2' W2 (e1.trans e2) _ fun u W3 e3 r2 => ⟨lo, hi, by rw [show v = .int lo from r, show u = .int hi from r2], by omega, q _ W3 (e2.trans e3) (gives_rng (c := c) lo hi W3.G)⟩
      · trivial
/-- enumerate of a list -/
def enum (xs : List α) : List (Int × α) := (List.range xs.length).zipWith (fun i x => ((i : Nat), x)) xs
theorem enum_len (xs : List α) : (enum xs).length = xs.length := by simp [enum]
theorem enum_get {xs : List α} {i : Nat} {x : Int × α} (h : (enum xs)[i]? = some x) : x.1 = (i : Nat) ∧ xs[i]? = some x.2 := by
  unfold enum at h
  rw [List.getElem?_zipWith] at h
  by_cases q : i < xs.length
  · rw [List.getElem?_range q, List.getElem?_eq_getElem q] at h
    cases h
    exact ⟨rfl, List.getElem?_eq_getElem q⟩
  · rw [List.getElem?_eq_none (l := List.range xs.length) (by simp; omega)] at h
    cases h
theorem i_enum [Rp α] {te : TE} {m : R (List α)} (h : Exr c W0 X te As m fun x => kFr c.K x) : Ixr c W0 X (iEnum c.K (tCons te tNil)) As (m.bind fun xs => .ok (enum xs)) fun x => kFr c.K x := fun σ W a => by
  have h' := h σ W a
  cases m with
  | no => trivial
  | ex e => exact fun W1 e1 Q q => h' W1 e1 _ q
  | ok xs =>
    refine fun W1 e1 Q q => h' W1 e1 _ fun v W2 e2 ⟨p, vs, ev, hp, al, l⟩ => ⟨p, vs, by rw [ev], .inl (.inl (W2.sub _ _ hp)), q _ W2 e2 fun i W g => ?_⟩
    have hs : SqL c.K W.H p vs := .inl (.inl (W.sub _ _ (g _ _ hp)))
    refine ⟨fun hi => ⟨vs, hs, by rw [enum_len] at hi; exact al.1 ▸ hi⟩, fun x hx => ?_⟩
    obtain ⟨x1, x2⟩ := enum_get hx
    obtain ⟨u, hu, r⟩ := al.get x2
    refine ⟨⟨vs, u, hs, hu⟩, fun v H' ⟨T, y, ev, nT, eh, k⟩ => ⟨W.nf T _, eh.symm, Le.nf nT, ?_⟩⟩
    have := k vs hs
    rw [hu] at this
    cases this
    exact ⟨T, _, _, ev, .inl (.inl upd_same), by rw [x1]; rfl, Rp.mono (Le.nf nT).g (Rp.mono g r)⟩
/-! ### comprehensions -/
def lcGo : List α → (α → R Bool) → (α → R β) → R (List β)
  | [], _, _ => .ok []
  | x :: xs, p, f => match p x with
    | .ok true => match f x with
      | .ok y => match lcGo xs p f with
        | .ok ys => .ok (y :: ys)
        | _ => .no
      | _ => .no
    | .ok false => lcGo xs p f
    | _ => .no
@[irreducible] def R.lc (xs : List α) (p : α → R Bool) (f : α → R β) : R (List β) := if xs.length ≤ sizeLine then lcGo xs p f else .no
theorem lcGo_ok (p : α → Bool) (f : α → β) : ∀ xs : List α, lcGo xs (fun x => .ok (p x)) (fun x => .ok (f x)) = .ok ((xs.filter p).map f)
  | [] => rfl
  | x :: xs => by
    unfold lcGo
    rw [lcGo_ok p f xs]
    cases h : p x with
    | true => simp [List.filter_cons, h]
    | false => simp [List.filter_cons, h]
def wipeS (As : List Sl) : List Nat → List Sl
  | [] => As
  | v :: vs => (wipeS As vs).set v .un
theorem At.wipe {K : Frag} {W : Wd} {σ : St} (h : At K W0 As σ W) : ∀ vs, At K W0 (wipeS As vs) (wipe σ vs) W
  | [] => h
  | v :: vs => (At.wipe h vs).set trivial
/-- what stands outside some slots is as it was -/
def Same (is : List Nat) (σ σ' : St) : Prop := σ'.length = σ.length ∧ ∀ j, j ∉ is → σ'[j]? = σ[j]?
theorem wipe_get {σ : St} {j : Nat} : ∀ {vs : List Nat}, (L2.wipe σ vs)[j]? = if j ∈ vs then (if j < σ.length then some none else none) else σ[j]?
  | [] => by simp [L2.wipe]
  | v :: vs => by
    show ((L2.wipe σ vs).set v none)[j]? = _
    rw [List.getElem?_set]
    by_cases q : v = j
    · subst q
      simp [wipe_length]
    · rw [if_neg q, wipe_get (vs := vs)]
      by_cases z : j ∈ vs
      · rw [if_pos z, if_pos (List.mem_cons_of_mem _ z)]
      · rw [if_neg z, if_neg (fun m => (List.mem_cons.mp m).elim (fun w => q w.symm) z)]
theorem wipe_same {σ σ2 : St} {vs : List Nat} (h : Same vs (L2.wipe σ vs) σ2) : L2.wipe σ2 vs = L2.wipe σ vs := by
  apply List.ext_getElem?
  intro j
  rw [wipe_get]
  by_cases z : j ∈ vs
  · rw [if_pos z, wipe_get, if_pos z, h.1, wipe_length]
  · rw [if_neg z]
    exact h.2 j z
/-- a target that touches some slots alone -/
def TgS (c : Cn) (g : TG) (is : List Nat) (As : List Sl) (k : α → Kd) (Bs : α → List Sl) : Prop := ∀ W0 x σ W A v, At c.K W0 As σ W → (k x).p A v W → ∀ Q : St → Hp → Prop, (∀ σ', Same is σ σ' → At c.K W0 (Bs x) σ' W → Q σ' W.H) → g v σ W.H Q
theorem TgS.tg {g : TG} {is : List Nat} {k : α → Kd} {Ts : α → List Sl} (h : TgS c g is As k Ts) : Tg c W0 g As k Ts := fun x σ W A v a r Q q => h W0 x σ W A v a r Q fun σ' _ a' => q σ' a'
theorem same_set {σ : St} {i : Nat} {o : Option V} {is : List Nat} (h : i ∈ is) : Same is σ (σ.set i o) := ⟨by simp, fun j hj => by
  rw [List.getElem?_set, if_neg]
  intro q
  subst q
  exact hj h⟩
theorem Same.trans {is : List Nat} {a b d : St} (h : Same is a b) (k : Same is b d) : Same is a d := ⟨k.1.trans h.1, fun j hj => (k.2 j hj).trans (h.2 j hj)⟩
theorem gs_name [Rp α] (i : Nat) : TgS c (gName i) [i] As (fun x : α => kFr c.K x) (fun x => As.set i (.fr x)) := fun W0 x σ W A v a r Q q => q _ (same_set (by simp)) (a.setF r)
def xF : WX := fun _ _ _ _ => False
/-- what a comprehension walks: owned things too stay as they are meanwhile -/
def GivesH (J : It) (W1 : Wd) (xs : List α) (k : α → Kd) : Prop := ∀ (i : Nat) (W : Wd), Le W1 W → (xs.length ≤ i → J.stop i W.H) ∧ ∀ x, xs[i]? = some x → J.go i W.H ∧ ∀ v H', J.yld i W.H v H' → ∃ W', W'.H = H' ∧ Le W W' ∧ (k x).p W v W'
def IxH (c : Cn) (W0 : Wd) (X : WX) (wi : TI) (As : List Sl) (m : R (List α)) (k : α → Kd) : Prop := ∀ σ W, At c.K W0 As σ W →
  SatR m (fun xs => ∀ W1, Le W W1 → ∀ Q : It → Hp → Prop, (∀ J W2, Le W1 W2 → GivesH J W2 xs k → Q J W2.H) → wi σ W1.H Q) (fun e => ∀ W1, Le W W1 → ∀ Q, (∀ cls d W2, Le W1 W2 → ExAt c.M e cls d W2 → X cls d σ W2.H) → wi σ W1.H Q)
theorem ixh {wi : TI} {m : R (List α)} {k : α → Kd} (h : Ixr c W0 X wi As m k) : IxH c W0 X wi As m k := fun σ W a => by
  have h' := h σ W a
  cases m with
  | no => trivial
  | ex e => exact h'
  | ok xs => exact fun W1 e1 Q q => h' W1 e1 Q fun J W2 e2 g => q J W2 e2 fun i W e => g i W e.g
/-- [e for x in xs if t] -/
theorem r_lcG [Rp β] {wi : TI} {g : TG} {tt : TT} {te : TE} {vs : List Nat} {m : R (List α)} {k : α → Kd} {Ts : α → List Sl} {p : α → R Bool} {f : α → R β} (hi : IxH c W0 X wi As m k) (hg : TgS c g vs (wipeS As vs) k Ts)
    (ht : ∀ x, Txr c W0 xF tt (Ts x) (p x)) (he : ∀ x, Exr c W0 xF te (Ts x) (f x) fun y => kFr c.K y) : Exr c W0 X (tLc wi g tt te vs) As (m.bind fun xs => R.lc xs p f) fun ys => kNw c.K ys := fun σ W a => by
  have h' := hi σ W a
  cases m with
  | no => trivial
  | ex e => exact fun W1 e1 Q q => h' W1 e1 _ q
  | ok xs =>
    show SatR (R.lc xs p f) _ _
    unfold R.lc
    by_cases hl : xs.length ≤ sizeLine
    · rw [if_pos hl]
      cases hz : lcGo xs p f with
      | no => trivial
      | ex e =>
        exfalso
        revert hz
        clear hi h' ht he hl a
        induction xs with
        | nil => intro z; cases z
        | cons x xs ih =>
          unfold lcGo
          intro z
          split at z
          · split at z
            · split at z <;> cases z
            · cases z
          · exact ih z
          · cases z
      | ok zs =>
        refine fun W1 e1 Q q => h' W1 e1 _ fun Jt W2 e2 gv Dl hD => ?_
        refine ⟨fun i n H => ∃ (Wd' : Wd) (ys ws : List _) (ls : List V), H = Wd'.H ∧ Le W2 Wd' ∧ Wd'.G Dl = none ∧ Wd'.H Dl = some (.lst ls) ∧ Al (fun x v => Rp.rep c.K x v Wd'.G) ys ls ∧ ys.length ≤ i ∧ lcGo (xs.drop i) p f = .ok ws ∧ zs = ys ++ ws ∧ n = xs.length - i ∧ i ≤ xs.length,
          ⟨xs.length, W2.no Dl _ hD, [], zs, [], rfl, Le.no hD, W2.sub.nope hD, upd_same, Al.nil, Nat.zero_le _, hz, rfl, rfl, Nat.zero_le _⟩, ?_⟩
        rintro i n H ⟨Wi, ys, ws, ls, rfl, ei, gD, hDl, al, yl, hw, ez, rfl, il⟩
        obtain ⟨g1, g2⟩ := gv i Wi ei
        by_cases ci : i = xs.length
        · refine .inl ⟨g1 (by omega), ?_⟩
          rw [ci, List.drop_length] at hw
          cases hw
          rw [List.append_nil] at ez
          subst ez
          exact q _ Wi (e2.trans ei) ⟨[Dl], ⟨Dl, ls, rfl, rfl, gD, hDl, al, by omega⟩, fun b hb => by rw [List.mem_singleton.mp hb]; exact e2.fr hD⟩
        · have hx : xs[i]? = some (xs[i]'(by omega)) := List.getElem?_eq_getElem (by omega)
          obtain ⟨go, yld⟩ := g2 _ hx
          rw [drop_cons hx] at hw
          refine .inr ⟨go, fun H' => ∃ (Wd' : Wd) (ys ws : List _) (ls : List V), H' = Wd'.H ∧ Le W2 Wd' ∧ Wd'.G Dl = none ∧ Wd'.H Dl = some (.lst ls) ∧ Al (fun x v => Rp.rep c.K x v Wd'.G) ys ls ∧ ys.length ≤ i + 1 ∧ lcGo (xs.drop (i + 1)) p f = .ok ws ∧ zs = ys ++ ws,
            fun H' ⟨W', ys', ws', ls', a1, a2, a3, a4, a5, a6, a7, a8⟩ => ⟨xs.length - (i + 1), by omega, W', ys', ws', ls', a1, a2, a3, a4, a5, a6, a7, a8, rfl, by omega⟩, fun v H' hy => ?_⟩
          obtain ⟨W', eh, le', kp⟩ := yld v H' hy
          subst eh
          have aW : At c.K W0 As σ W' := a.mono ((e1.trans e2).trans (ei.trans le'))
          refine hg W0 _ _ W' Wi v (aW.wipe vs) kp _ fun σ2 sm a2 => ⟨wipe_same sm, ?_⟩
          have d3 : W'.H Dl = some (.lst ls) := le'.h _ _ hDl
          have ht' := ht (xs[i]'(by omega)) σ2 W' a2
          have he' := he (xs[i]'(by omega)) σ2
          unfold lcGo at hw
          revert hw ht' he'
          generalize p (xs[i]'(by omega)) = pb
          generalize f (xs[i]'(by omega)) = fb
          intro ht' he' hw
          cases pb with
          | no => cases hw
          | ex e => cases hw
          | ok b =>
            refine ht' W' (Le.refl _) _ fun W3 e3 => ?_
            cases b with
            | false =>
              rw [if_neg (by decide)]
              exact ⟨W3, ys, ws, ls, rfl, (ei.trans le').trans e3, e3.o _ (le'.o _ gD (by rw [hDl]; exact fun z => nomatch z)) (by rw [d3]; exact fun z => nomatch z), e3.h _ _ d3, al_mono al (le'.g.trans e3.g), by omega, hw, ez⟩
            | true =>
              rw [if_pos rfl]
              cases fb with
              | no => cases hw
              | ex e => cases hw
              | ok y =>
                refine he' W3 (a2.mono e3) W3 (Le.refl _) _ fun u W4 e4 r => ?_
                have gD4 : W4.G Dl = none := (le'.trans (e3.trans e4)).o _ gD (by rw [hDl]; exact fun z => nomatch z)
                have d4 : W4.H Dl = some (.lst ls) := e4.h _ _ (e3.h _ _ d3)
                dsimp only at hw
                cases hr : lcGo (xs.drop (i + 1)) p f with
                | no => rw [hr] at hw; cases hw
                | ex e => rw [hr] at hw; cases hw
                | ok ws' =>
                  rw [hr] at hw
                  cases hw
                  refine ⟨ls, d4, by have := al.1; omega, W4.mt Dl _ gD4, ys ++ [y], ws', ls ++ [u], rfl, (ei.trans (le'.trans (e3.trans e4))).mt gD4 hD, gD4, upd_same, (al_mono al (le'.trans (e3.trans e4)).g).app (Al.one r), by simp; omega, rfl, by rw [ez]; simp⟩
    · rw [if_neg hl]
      trivial
@[irreducible] def R.lcT (xs : List α) (p : α → Bool) (f : α → β) : R (List β) := if xs.length ≤ sizeLine then .ok ((xs.filter p).map f) else .no
theorem lcT_eq (xs : List α) (p : α → Bool) (f : α → β) : R.lc xs (fun x => .ok (p x)) (fun x => .ok (f x)) = R.lcT xs p f := by
  unfold R.lc R.lcT
  rw [lcGo_ok]
theorem r_lcT [Rp β] {wi : TI} {g : TG} {tt : TT} {te : TE} {vs : List Nat} {m : R (List α)} {k : α → Kd} {Ts : α → List Sl} {p : α → Bool} {f : α → β} (hi : IxH c W0 X wi As m k) (hg : TgS c g vs (wipeS As vs) k Ts)
    (ht : ∀ x, Txp c W0 tt (Ts x) (p x)) (he : ∀ x, Exp c W0 te (Ts x) (kFr c.K (f x))) : Exr c W0 X (tLc wi g tt te vs) As (m.bind fun xs => R.lcT xs p f) fun ys => kNw c.K ys := by
  have h := r_lcG hi hg (fun x => txr_p (ht x)) (fun x => exr_p (k := fun y => kFr c.K y) (he x))
  rw [show (fun xs => R.lc xs (fun x => R.ok (p x)) fun x => R.ok (f x)) = fun xs => R.lcT xs p f from funext fun xs => lcT_eq xs p f] at h
  exact h
/-! ### defs -/
def noOw : List Sl → Prop
  | [] => True
  | .un :: r => noOw r
  | @Sl.fr _ _ _ :: r => noOw r
  | @Sl.ow _ _ _ _ :: _ => False
theorem noOw_get {K : Frag} {o : Option V} {W : Wd} {f f' : List Addr} {A : Sl} : ∀ {As : List Sl} {i : Nat}, noOw As → As[i]? = some A → Hd K A o W f → Hd K A o W f' := by
  intro As
  induction As with
  | nil => intro i _ h; simp at h
  | cons B r ih =>
    intro i n h hd
    cases B with
    | un =>
      cases i with
      | zero => cases h; trivial
      | succ i => exact ih (i := i) n h hd
    | fr x =>
      cases i with
      | zero => cases h; exact hd
      | succ i => exact ih (i := i) n h hd
    | ow pin x => exact False.elim n
theorem noOw_uns : ∀ n, noOw (List.replicate n .un) := by
  intro n
  induction n with
  | zero => exact True.intro
  | succ n ih => exact ih
class Args (τ : Type) where
  reps : Frag → τ → List V → Hp → Prop
  mono : ∀ {K : Frag} {x : τ} {vs : List V} {G H : Hp}, Inc G H → reps K x vs G → reps K x vs H
  sl : τ → List Sl
  num : Nat
  len : ∀ {K : Frag} {x : τ} {vs : List V} {G : Hp}, reps K x vs G → vs.length = num
  no : ∀ (x : τ) (r : List Sl), noOw r → noOw (sl x ++ r)
  at_ : ∀ {K : Frag} {W0 W : Wd} {x : τ} {vs : List V} {rest : List Sl} {σ : St}, reps K x vs W.G → At K W0 rest σ W → At K W0 (sl x ++ rest) (vs.map some ++ σ) W
instance : Args Unit := ⟨fun _ _ vs _ => vs = [], fun _ h => h, fun _ => [], 0, fun h => by rw [h]; rfl, fun _ _ h => h, fun h a => by rw [h]; exact a⟩
theorem At.cons {K : Frag} {W0 W : Wd} {A : Sl} {o : Option V} {σ : St} (h : At K W0 As σ W) (hA : Hd K A o W []) : At K W0 (A :: As) (o :: σ) W := by
  obtain ⟨l, le, F, h1, h2, h3⟩ := h
  refine ⟨by simp [l], le, fun j => match j with | 0 => [] | j + 1 => F j, fun j B p a b => ?_, fun j k a n ha hb => ?_, fun j a ha => ?_⟩
  · cases j with
    | zero => cases a; cases b; exact hA
    | succ j => exact h1 j B p a b
  · cases j with
    | zero => cases ha
    | succ j =>
      cases k with
      | zero => cases hb
      | succ k => exact h2 j k a (fun q => n (congrArg _ q)) ha hb
  · cases j with
    | zero => cases ha
    | succ j => exact h3 j a ha
instance [Rp α] [Args τ] : Args (α × τ) where
  reps K x vs G := ∃ v r, vs = v :: r ∧ Rp.rep K x.1 v G ∧ Args.reps K x.2 r G
  mono s := fun ⟨v, r, e, a, b⟩ => ⟨v, r, e, Rp.mono s a, Args.mono s b⟩
  sl x := .fr x.1 :: Args.sl x.2
  num := Args.num τ + 1
  len := fun ⟨v, r, e, a, b⟩ => by rw [e, List.length_cons, Args.len b]
  no x r h := Args.no x.2 r h
  at_ := fun ⟨v, r, e, a, b⟩ h => by
    subst e
    exact (Args.at_ b h).cons ⟨v, rfl, a⟩
/-- the promise of a def: it hands back, or raises, what the mirror says -/
def spF (c : Cn) [Args τ] (f : τ → R ρ) (kr : ρ → Kd) : Sp := fun vs H Q E => ∃ (W : Wd) (x : τ), W.H = H ∧ Args.reps c.K x vs W.G ∧ match f x with
  | .ok r => ∀ v W', Le W W' → (kr r).p W v W' → Q v W'.H
  | .ex e => ∀ cls d W', Le W W' → ExAt c.M e cls d W' → E cls d W'.H
  | .no => False
theorem spF_len [Args τ] {f : τ → R ρ} {kr : ρ → Kd} (vs : List V) (H : Hp) (Q : VK) (E : XK) (h : spF c f kr vs H Q E) : vs.length = Args.num τ := by
  obtain ⟨W, x, _, r, _⟩ := h
  exact Args.len r
def uns (n : Nat) : List Sl := List.replicate n .un
theorem at_uns {K : Frag} {W : Wd} : ∀ n, At K W (uns n) (List.replicate n none) W
  | 0 => ⟨rfl, Le.refl _, fun _ => [], fun i A o a => by simp [uns] at a, fun i j a _ h => (List.not_mem_nil h).elim, fun i a h => (List.not_mem_nil h).elim⟩
  | n + 1 => (at_uns n).cons (A := .un) (o := none) trivial
theorem wk_uns : ∀ {As : List Sl} {n : Nat}, As.length = n → Wk As (uns n)
  | [], _, h => by subst h; exact Wk.nil
  | A :: As, _, h => by subst h; exact Wk.drop (wk_uns rfl)
/-- a def's ground at its start -/
def bd0 (W : Wd) : Bd := ⟨W, W, W, Le.refl _, Le.refl _⟩
abbrev x0 (E : XK) : WX := fun cls d _ H => E cls d H
/-- a body whose ways all return keeps the promise -/
theorem fn_run [Args τ] {f : τ → R ρ} {m : τ → Out Unit Unit ρ} {kr : ρ → Kd} {N : List Str} {n : Nat} {t : TS} {vs : List V} {H : Hp} {Q : VK} {E : XK} {Bs : Unit → List Sl} (h : spF c f kr vs H Q E) (hN : N.length = Args.num τ + n) (hm : ∀ x, f x = (m x).run)
    (hd : ∀ (W : Wd) x, Den c (x0 E) kr (uns N.length) (fun _ : Unit => []) (bd0 W) t (Args.sl x ++ uns n) (m x) Bs) : t { nx := fun _ H' => Q .non H', rt := Q } (start N vs) H := by
  obtain ⟨W, x, eh, r, k⟩ := h
  subst eh
  have hl := Args.len r
  have a0 : At c.K W (Args.sl x ++ uns n) (start N vs) W := by
    unfold L2.start
    rw [hl, hN, Nat.add_sub_cancel_left]
    exact Args.at_ r (at_uns n)
  refine hd W x _ _ W a0 ?_
  rw [hm x] at k
  revert k
  generalize m x = o
  intro k
  cases o with
  | nx s => exact k.elim
  | rt r => exact fun v W' l p => k v W' l p
  | bk j => exact k.elim
  | ct j => exact k.elim
  | ex e => exact k.elim
  | no => exact k.elim
/-- arguments of a def, all frozen -/
def kAs (K : Frag) [Args τ] (x : τ) : KdA := ⟨fun _ vs W => Args.reps K x vs W.G, fun h e => Args.mono e.g h, fun _ h => h⟩
theorem aa_nil : Axp c W0 tNil As (kAs c.K ()) := fun σ W a W1 e Q q => q [] W1 (Le.refl _) rfl
theorem aa_cons [Rp α] [Args τ] {te : TE} {ta : TA} {x : α} {y : τ} (h : Exp c W0 te As (kFr c.K x)) (hr : Axp c W0 ta As (kAs c.K y)) : Axp c W0 (tCons te ta) As (kAs c.K (x, y)) := fun σ W a W1 e Q q =>
  h σ W a W1 e _ fun v W2 e2 p => hr σ W a W2 (e.trans e2) _ fun vs W3 e3 ps => q _ W3 (e2.trans e3) ⟨v, vs, rfl, Rp.mono e3.g p, ps⟩
theorem aar_nil : Axr c W0 X tNil As (.ok ()) (fun x => kAs c.K x) := axr_p (k := fun x => kAs c.K x) aa_nil
theorem aar_cons [Rp α] [Args τ] {te : TE} {ta : TA} {m : R α} {n : R τ} (h : Exr c W0 X te As m fun x => kFr c.K x) (hr : Axr c W0 X ta As n fun x => kAs c.K x) :
    Axr c W0 X (tCons te ta) As (m.bind fun x => n.bind fun y => .ok (x, y)) (fun z => kAs c.K z) := fun σ W a => by
  have h' := h σ W a
  have hr' := hr σ W a
  cases m with
  | no => trivial
  | ex e => exact fun W1 e1 Q q => h' W1 e1 _ q
  | ok x =>
    cases n with
    | no => trivial
    | ex e => exact fun W1 e1 Q q => h' W1 e1 _ fun v W2 e2 p => hr' W2 (e1.trans e2) _ fun cls d W3 e3 z => q cls d W3 (e2.trans e3) z
    | ok y => exact fun W1 e Q q => h' W1 e _ fun v W2 e2 p => hr' W2 (e.trans e2) _ fun vs W3 e3 ps => q _ W3 (e2.trans e3) ⟨v, vs, rfl, Rp.mono e3.g p, ps⟩
/-- a call of a def -/
theorem r_call [Args τ] {f : τ → R ρ} {kr : ρ → Kd} {ta : TA} {m : R τ} (h : Axr c W0 X ta As m fun x => kAs c.K x) : Exr c W0 X (tCallS (spF c f kr) (WE X) ta) As (m.bind f) kr := fun σ W a => by
  have h' := h σ W a
  cases m with
  | no => trivial
  | ex e => exact fun W1 e1 Q q => h' W1 e1 _ q
  | ok x =>
    show SatR (f x) _ _
    cases hf : f x with
    | no => trivial
    | ex e => exact fun W1 e1 Q q => h' W1 e1 _ fun vs W2 e2 r => ⟨W2, x, rfl, r, by rw [hf]; exact fun cls d W3 e3 z => q cls d W3 (e2.trans e3) z⟩
    | ok y => exact fun W1 e1 Q q => h' W1 e1 _ fun vs W2 e2 r => ⟨W2, x, rfl, r, by rw [hf]; exact fun v W3 e3 p => q v W3 (e2.trans e3) ((kr y).dn e2 p)⟩
theorem r_call1 [Args τ] {f : τ → R ρ} {kr : ρ → Kd} {ta : TA} {x : τ} (h : Axp c W0 ta As (kAs c.K x)) {m : R ρ} (hk : f x = m) : Exr c W0 X (tCallS (spF c f kr) (WE X) ta) As m kr := hk ▸ r_call (m := .ok x) h
end
end Fw

namespace Fw
open PySem L2
section
variable {c : Cn} {W0 : Wd} {X : WX} {As Bs : List Sl} {α β γ δ τ ρ : Type} {K : Frag}
/-! ### ints -/
theorem o_int (g : Int → Int → Int) : Op2 (rI0 fun i j => .int (g i j)) (fun x : Int => kFr K x) (fun x : Int => kFr K x) (fun x y => .ok (g x y)) (fun z : Int => kFr K z) := fun x y W0 W v w hv hw Q q => ⟨x, y, hv, hw, q _ W (Le.refl _) rfl⟩
theorem o_cmp (g : Int → Int → Bool) : Op2 (rI0 fun i j => .bl (g i j)) (fun x : Int => kFr K x) (fun x : Int => kFr K x) (fun x y => .ok (g x y)) (fun z : Bool => kFr K z) := fun x y W0 W v w hv hw Q q => ⟨x, y, hv, hw, q _ W (Le.refl _) rfl⟩
def R.cI (C : Int → Int → Prop) [DecidableRel C] (g : Int → Int → Int) (x y : Int) : R Int := if C x y then .ok (g x y) else .no
theorem o_chk {C : Int → Int → Prop} [DecidableRel C] (g : Int → Int → Int) : Op2 (rI C fun i j => .int (g i j)) (fun x : Int => kFr K x) (fun x : Int => kFr K x) (R.cI C g) (fun z : Int => kFr K z) := fun x y => by
  unfold R.cI
  split
  · rename_i z e
    by_cases h : C x y
    · rw [if_pos h] at e
      cases e
      exact fun W0 W v w hv hw Q q => ⟨x, y, hv, hw, h, q _ W (Le.refl _) rfl⟩
    · rw [if_neg h] at e; cases e
  · rename_i e z
    split at z <;> cases z
  · trivial
@[irreducible] def R.mod (x y : Int) : R Int := if 0 < y then .ok (x % y) else .no
@[irreducible] def R.fdiv (x y : Int) : R Int := if 0 < y ∧ y < 1073741824 then .ok (x / y) else .no
@[irreducible] def R.mul (x y : Int) : R Int := if (-(2 ^ 64) < x ∧ x < 2 ^ 64) ∨ (-(2 ^ 64) < y ∧ y < 2 ^ 64) then .ok (x * y) else .no
@[irreducible] def R.shl (x y : Int) : R Int := if 0 ≤ y ∧ y ≤ 1000000 ∧ x.natAbs < 2 ^ 64 then .ok (x * 2 ^ y.toNat) else .no
@[irreducible] def R.shr (x y : Int) : R Int := if 0 ≤ y then .ok (x / 2 ^ y.toNat) else .no
theorem o_of {C : Int → Int → Prop} [DecidableRel C] {g : Int → Int → Int} {f : Int → Int → R Int} (h : ∀ x y, f x y = if C x y then .ok (g x y) else .no) : Op2 (rI C fun i j => .int (g i j)) (fun x : Int => kFr K x) (fun x : Int => kFr K x) f (fun z : Int => kFr K z) := by
  have e : f = R.cI C g := funext fun x => funext fun y => h x y
  rw [e]
  exact o_chk g
instance : DecidableRel CDiv := fun i j => inferInstanceAs (Decidable (_ ∧ _))
instance : DecidableRel CPow := fun i j => inferInstanceAs (Decidable (_ ∧ _ ∧ _))
instance : DecidableRel CMul := fun i j => inferInstanceAs (Decidable (_ ∨ _))
theorem o_mod : Op2 (rI (fun _ j => 0 < j) fun i j => .int (i % j)) (fun x : Int => kFr K x) (fun x : Int => kFr K x) R.mod (fun z : Int => kFr K z) := o_of fun x y => by unfold R.mod; rfl
theorem o_fdiv : Op2 (rI CDiv fun i j => .int (i / j)) (fun x : Int => kFr K x) (fun x : Int => kFr K x) R.fdiv (fun z : Int => kFr K z) := o_of fun x y => by unfold R.fdiv; rfl
theorem o_mul : Op2 (rI CMul fun i j => .int (i * j)) (fun x : Int => kFr K x) (fun x : Int => kFr K x) R.mul (fun z : Int => kFr K z) := o_of fun x y => by unfold R.mul; rfl
theorem o_shl : Op2 (rI CPow fun i j => .int (i * 2 ^ j.toNat)) (fun x : Int => kFr K x) (fun x : Int => kFr K x) R.shl (fun z : Int => kFr K z) := o_of fun x y => by unfold R.shl; rfl
theorem o_shr : Op2 (rI (fun _ j => 0 ≤ j) fun i j => .int (i / 2 ^ j.toNat)) (fun x : Int => kFr K x) (fun x : Int => kFr K x) R.shr (fun z : Int => kFr K z) := o_of fun x y => by unfold R.shr; rfl
/-- the right one, or the left one, is written: nothing is left to be asked -/
theorem e_cr {C : Int → Int → Prop} {g : Int → Int → Int} {ta tb : TE} {x y : Int} (h : ∀ x, C x y) (ha : Exp c W0 ta As (kFr c.K x)) (hb : Exp c W0 tb As (kFr c.K y)) {k : Kd} (hk : kFr c.K (g x y) = k) : Exp c W0 (tOp (rI C fun i j => .int (g i j)) ta tb) As k := hk ▸ fun σ W a W1 e Q q =>
  ha σ W a W1 e _ fun v W2 e2 p => hb σ W a W2 (e.trans e2) _ fun w W3 e3 p3 => ⟨x, y, p, p3, h x, q _ W3 (e2.trans e3) rfl⟩
theorem r_cr {C : Int → Int → Prop} {g : Int → Int → Int} {ta tb : TE} {m : R Int} {y : Int} (h : ∀ x, C x y) (ha : Exr c W0 X ta As m fun x => kFr c.K x) (hb : Exp c W0 tb As (kFr c.K y)) : Exr c W0 X (tOp (rI C fun i j => .int (g i j)) ta tb) As (m.bind fun x => .ok (g x y)) fun z => kFr c.K z := fun σ W a => by
  have ha' := ha σ W a
  cases m with
  | no => trivial
  | ex e => exact fun W1 e1 Q q => ha' W1 e1 _ q
  | ok x => exact fun W1 e Q q => ha' W1 e _ fun v W2 e2 p => hb σ W a W2 (e.trans e2) _ fun w W3 e3 p3 => ⟨x, y, p, p3, h x, q _ W3 (e2.trans e3) rfl⟩
theorem o_neg : Op1 (rU fun i => .int (-i)) (fun x : Int => kFr K x) (fun x => .ok (-x)) (fun z : Int => kFr K z) := fun x W0 W v hv Q q => ⟨x, hv, q _ W (Le.refl _) rfl⟩
/-! ### == of things without a heap -/
class Eqs (α : Type) [Rp α] where
  v : α → V
  rv : ∀ {K : Frag} {x : α} {u : V} {G : Hp}, Rp.rep K x u G → u = v x
  inj : ∀ {x y : α}, v x = v y → x = y
  sc : ∀ x y : α, scal (v x) (v y) = true
instance : Eqs Int := ⟨.int, fun h => h, fun h => by cases h; rfl, fun _ _ => rfl⟩
instance : Eqs Bool := ⟨.bl, fun h => h, fun h => by cases h; rfl, fun _ _ => rfl⟩
instance : Eqs Str := ⟨.str, fun h => h.1, fun h => by cases h; rfl, fun _ _ => rfl⟩
theorem eqs_dec [Rp α] [DecidableEq α] [Eqs α] (x y : α) : decide (Eqs.v x = Eqs.v y) = decide (x = y) := by
  by_cases h : x = y
  · subst h; simp
  · rw [decide_eq_false h, decide_eq_false (fun q => h (Eqs.inj q))]
theorem o_eq [Rp α] [DecidableEq α] [Eqs α] : Op2 rEq (fun x : α => kFr K x) (fun x : α => kFr K x) (fun x y => .ok (decide (x = y))) (fun z : Bool => kFr K z) := fun x y W0 W v w hv hw Q q => by
  have h1 : v = Eqs.v x := Eqs.rv hv
  have h2 : w = Eqs.v y := Eqs.rv hw
  subst h1 h2
  exact ⟨Eqs.sc x y, q _ W (Le.refl _) (by rw [eqs_dec]; rfl)⟩
theorem o_ne [Rp α] [DecidableEq α] [Eqs α] : Op2 rNe (fun x : α => kFr K x) (fun x : α => kFr K x) (fun x y => .ok (!decide (x = y))) (fun z : Bool => kFr K z) := fun x y W0 W v w hv hw Q q => by
  have h1 : v = Eqs.v x := Eqs.rv hv
  have h2 : w = Eqs.v y := Eqs.rv hw
  subst h1 h2
  exact ⟨Eqs.sc x y, q _ W (Le.refl _) (by rw [eqs_dec]; rfl)⟩
/-- is None, is not None -/
theorem o_isN [Rp α] : Op2 (fun x y H Q => y = .non ∧ Q (.bl (decide (x = .non))) H) (fun x : Option α => kFr K x) (fun x : Unit => kFr K x) (fun x _ => .ok x.isNone) (fun z : Bool => kFr K z) := fun x y W0 W v w hv hw Q q => ⟨hw, q _ W (Le.refl _) (by
  cases x with
  | none => have : v = .non := hv; subst this; rfl
  | some y => have h := hv.1; show V.bl (decide (v = .non)) = .bl false; rw [decide_eq_false h])⟩
theorem o_notN [Rp α] : Op2 (fun x y H Q => y = .non ∧ Q (.bl (!decide (x = .non))) H) (fun x : Option α => kFr K x) (fun x : Unit => kFr K x) (fun x _ => .ok x.isSome) (fun z : Bool => kFr K z) := fun x y W0 W v w hv hw Q q => ⟨hw, q _ W (Le.refl _) (by
  cases x with
  | none => have : v = .non := hv; subst this; rfl
  | some y => have h := hv.1; show V.bl (!decide (v = .non)) = .bl true; rw [decide_eq_false h]; rfl)⟩
/-! ### the places of lists, tuples, texts -/
theorem ixN_at {xs : List α} {i : Int} : atI xs i = (ixN xs.length i).bind fun j => xs[j]? := rfl
theorem al_at [Rp α] {G : Hp} {xs : List α} {vs : List V} {i : Int} {x : α} (h : Al (fun x v => Rp.rep K x v G) xs vs) (hx : atI xs i = some x) : ∃ v, atI vs i = some v ∧ Rp.rep K x v G := by
  rw [ixN_at] at hx
  cases q : ixN xs.length i with
  | none => rw [q] at hx; cases hx
  | some j =>
    rw [q] at hx
    obtain ⟨v, hv, r⟩ := h.get hx
    exact ⟨v, by rw [ixN_at, ← h.1, q]; exact hv, r⟩
@[irreducible] def R.ix (xs : List α) (i : Int) : R α := .opt (atI xs i)
theorem opt_ok {o : Option α} {x : α} (h : R.opt o = .ok x) : o = some x := by
  cases o with
  | none => cases h
  | some y => cases h; rfl
theorem opt_ex {o : Option α} {e : Exc} (h : R.opt o = .ex e) : False := by
  cases o with
  | none => cases h
  | some y => cases h
theorem o_ixL [Rp α] : Op2 (rIxL K) (fun xs : List α => kSh K xs) (fun i : Int => kFr K i) R.ix (fun x : α => kFr K x) := fun xs i => by
  unfold R.ix
  split
  · rename_i z e
    intro W0 W v w ⟨p, vs, ev, hs, al, l⟩ hw Q q
    obtain ⟨u, hu, r⟩ := al_at al (opt_ok e)
    exact ⟨p, vs, i, u, ev, hw, hs, hu, q u W (Le.refl _) r⟩
  · rename_i e h; exact opt_ex h
  · trivial
section
variable [Rp α] [Rp β] [Rp γ] [Rp δ]
end
/-! ### built-ins of one, two arguments -/
def rLen (K : Frag) : List V → Hp → VK → Prop := fun xs H Q => ∃ p ys, xs = [.ref p] ∧ (SqL K H p ys ∨ SqT K H p ys) ∧ Q (.int ys.length) H
theorem o_lenL [Rp α] : OpA (rLen K) (fun z : List α × Unit => aCons (kSh K z.1) aNil) (fun z => .ok (z.1.length : Int)) (fun n : Int => kFr K n) := fun z W0 W vs ⟨v, r, e, ⟨p, ls, ev, hs, al, l⟩, en⟩ Q q => by
  subst e en ev
  exact ⟨p, ls, rfl, .inl hs, q _ W (Le.refl _) (by rw [← al.1]; rfl)⟩
theorem o_max : OpA (fun xs H Q => ∃ i j, xs = [.int i, .int j] ∧ Q (.int (if j > i then j else i)) H) (fun z : Int × Int × Unit => aCons (kFr K z.1) (aCons (kFr K z.2.1) aNil)) (fun z => .ok (if z.2.1 > z.1 then z.2.1 else z.1)) (fun n : Int => kFr K n) := fun z W0 W vs ⟨v, r, e, ev, w, r2, e2, ew, en⟩ Q q => by
  have ev' : v = .int z.1 := ev
  have ew' : w = .int z.2.1 := ew
  subst e e2 en ev' ew'
  exact ⟨_, _, rfl, q _ W (Le.refl _) rfl⟩
theorem o_min : OpA (fun xs H Q => ∃ i j, xs = [.int i, .int j] ∧ Q (.int (if j < i then j else i)) H) (fun z : Int × Int × Unit => aCons (kFr K z.1) (aCons (kFr K z.2.1) aNil)) (fun z => .ok (if z.2.1 < z.1 then z.2.1 else z.1)) (fun n : Int => kFr K n) := fun z W0 W vs ⟨v, r, e, ev, w, r2, e2, ew, en⟩ Q q => by
  have ev' : v = .int z.1 := ev
  have ew' : w = .int z.2.1 := ew
  subst e e2 en ev' ew'
  exact ⟨_, _, rfl, q _ W (Le.refl _) rfl⟩
/-- list(xs) -/
theorem o_list [Rp α] : OpA (fun xs H Q => ∃ p ys, xs = [.ref p] ∧ (SqL K H p ys ∨ SqT K H p ys) ∧ ∀ l, H l = none → Q (.ref l) (upd H l (.lst ys))) (fun z : List α × Unit => aCons (kSh K z.1) aNil) (fun z => .ok z.1) (fun n : List α => kNw K n) :=
  fun z W0 W vs ⟨v, r, e, ⟨p, ls, ev, hs, al, l⟩, en⟩ Q q => by
  subst e en ev
  exact ⟨p, ls, rfl, .inl hs, fun b hb => q _ (W.no b _ hb) (Le.no hb) ⟨[b], ⟨b, ls, rfl, rfl, W.sub.nope hb, upd_same, al, l⟩, fun a ha => by rw [List.mem_singleton.mp ha]; exact hb⟩⟩
/-! ### slices -/
def sl (xs : List α) (lo hi : Option Int) : List α := (xs.drop (HT.sIx xs.length 0 lo)).take (HT.sIx xs.length xs.length hi - HT.sIx xs.length 0 lo)
def Opo (c : Cn) (W0 : Wd) (X : WX) (to : TO) (As : List Sl) (m : R (Option Int)) : Prop := ∀ σ W, At c.K W0 As σ W → SatR m (fun o => ∀ W1, Le W W1 → ∀ Q : Option Int → Hp → Prop, (∀ W2, Le W1 W2 → Q o W2.H) → to σ W1.H Q)
  (fun e => ∀ W1, Le W W1 → ∀ Q, (∀ cls d W2, Le W1 W2 → ExAt c.M e cls d W2 → X cls d σ W2.H) → to σ W1.H Q)
theorem po_none' : Opo c W0 X tNoPart As (.ok none) := fun σ W a W1 e Q q => q W1 (Le.refl _)
theorem po_some' {te : TE} {m : R Int} (h : Exr c W0 X te As m fun x => kFr c.K x) : Opo c W0 X (tPart te) As (m.bind fun x => .ok (some x)) := fun σ W a => by
  have h' := h σ W a
  cases m with
  | no => trivial
  | ex e => exact fun W1 e1 Q q => h' W1 e1 _ q
  | ok x => exact fun W1 e1 Q q => h' W1 e1 _ fun v W2 e2 p => ⟨x, p, q W2 e2⟩
/-! ### texts -/
end
end Fw

namespace Fw
open PySem L2
section
variable {c : Cn} {W0 : Wd} {X : WX} {As Bs : List Sl} {α β γ δ τ ρ : Type} {K : Frag}
/-! ### texts made of texts -/
@[irreducible] def R.join (s : Str) (xs : List Str) : R Str := if (xs.map (·.length)).sum + xs.length * s.length ≤ 16777216 then .ok (Txt.join s xs) else .no
/-! ### isinstance of what is known -/
class Pt (α : Type) [Rp α] where
  ty : String
  is : ∀ {K : Frag} {x : α} {v : V} {G : Hp}, Rp.rep K x v G → TyX K G v (.type ty)
instance : Pt Int := ⟨"int", fun h => by cases h; exact .base (.int _)⟩
instance : Pt Bool := ⟨"bool", fun h => by cases h; exact .base (.bl _)⟩
instance : Pt Str := ⟨"str", fun h => by cases h.1; exact .base (.str _)⟩
instance : Pt Unit := ⟨"NoneType", fun h => by cases h; exact .base .non⟩
instance [Rp α] : Pt (List α) := ⟨"list", fun ⟨p, vs, e, h, _⟩ => by subst e; exact .base (.lst h)⟩
theorem sqt_ty {G : Hp} {p : Addr} {vs : List V} (h : SqT K G p vs) : TyX K G (.ref p) (.type "tuple") := by
  rcases h with (h | ⟨o, h⟩) | ⟨o, its, n, l, e, _⟩
  · exact .base (.tup h)
  · exact .fTuple h
  · exact .kTuple l e
instance [Rp α] [Rp β] : Pt (α × β) := ⟨"tuple", fun ⟨p, a, b, e, h, _⟩ => by subst e; exact sqt_ty h⟩
instance [Rp α] : Pt (Tup α) := ⟨"tuple", fun ⟨p, vs, e, h, _⟩ => by subst e; exact sqt_ty h⟩
instance [Rp α] [Rp β] [Rp γ] : Pt (T3 α β γ) := ⟨"tuple", fun ⟨p, a, b, d, e, h, _⟩ => by subst e; exact sqt_ty h⟩
instance [Rp α] [Rp β] [Rp γ] [Rp δ] : Pt (T4 α β γ δ) := ⟨"tuple", fun ⟨p, a, b, d, f, e, h, _⟩ => by subst e; exact sqt_ty h⟩
/-! ### defs that change one thing handed in -/
structure LeX (W : Wd) (fp : List Addr) (W' : Wd) : Prop where
  g : Inc W.G W'.G
  o : ∀ a, a ∉ fp → W.G a = none → W.H a ≠ none → W'.G a = none
  h : ∀ a, a ∉ fp → W.H a ≠ none → W'.H a = W.H a
/-- the ground without what is handed in to be changed -/
def Wd.wo (W : Wd) (fp : List Addr) (h : ∀ a ∈ fp, W.G a = none) : Wd := ⟨W.G, fun a => if a ∈ fp then none else W.H a, fun a o e => by
  by_cases q : a ∈ fp
  · rw [h a q] at e; cases e
  · dsimp only; rw [if_neg q]; exact W.sub a o e, fun a u h i => by
  have h' : (if a ∈ fp then none else W.H a) = some u := h
  by_cases q : a ∈ fp
  · rw [if_pos q] at h'; cases h'
  · rw [if_neg q] at h'; exact W.im a u h' i⟩
theorem wo_ni {W : Wd} {fp : List Addr} {h : ∀ a ∈ fp, W.G a = none} {a : Addr} (n : a ∉ fp) : (W.wo fp h).H a = W.H a := if_neg n
theorem wo_in {W : Wd} {fp : List Addr} {h : ∀ a ∈ fp, W.G a = none} {a : Addr} (n : a ∈ fp) : (W.wo fp h).H a = none := if_pos n
theorem Le.wo {W : Wd} {fp : List Addr} {h : ∀ a ∈ fp, W.G a = none} : Le (W.wo fp h) W := ⟨Inc.refl _, fun a o e => by
  by_cases q : a ∈ fp
  · rw [wo_in q] at e; cases e
  · rw [wo_ni q] at e; exact e, fun a g _ => g⟩
theorem LeX.of {W W' : Wd} {fp : List Addr} {h : ∀ a ∈ fp, W.G a = none} (e : Le (W.wo fp h) W') : LeX W fp W' := ⟨e.g, fun a q g m => e.o a g (by rw [wo_ni q]; exact m), fun a q m => by
  cases z : W.H a with
  | none => exact absurd z m
  | some o => exact e.h a o (by rw [wo_ni q]; exact z)⟩
/-- the kinds of results that do not ask how the ground was -/
def Plain (kr : ρ → Kd) : Prop := ∀ r (A B : Wd) v W, (kr r).p A v W → (kr r).p B v W
theorem plain_fr [Rp ρ] : Plain (fun x : ρ => kFr K x) := fun r A B v W h => h
theorem At.consO {K : Frag} {W0 W : Wd} {σ : St} [Ob α] {y : α} {v : V} {fp : List Addr} (h : At K W0 As σ W) (no : noOw As) (o : Ob.own K y v fp W) (n : ∀ a ∈ fp, W0.H a = none) : At K W0 (.ow (some v) y :: As) (some v :: σ) W := by
  obtain ⟨l, le, F, h1, h2, h3⟩ := h
  refine ⟨by simp [l], le, fun j => match j with | 0 => fp | j + 1 => [], fun j B p a b => ?_, fun j k a n ha hb => ?_, fun j a ha => ?_⟩
  · cases j with
    | zero => cases a; cases b; exact ⟨v, rfl, o, fun u e => Option.some.inj e⟩
    | succ j => exact noOw_get no a (h1 j B p a b)
  · cases j with
    | zero => cases k with
      | zero => exact n rfl
      | succ k => cases hb
    | succ j => cases ha
  · cases j with
    | zero => exact ⟨(Ob.foot o a ha).1, (Ob.foot o a ha).2, n a ha⟩
    | succ j => cases ha
def ioR (o : Out Empty Unit (ρ × α)) : R (ρ × α) := match o with
  | .rt r => .ok r
  | _ => .no
section
variable {τ' : Type} [Args τ] [Ob α] [Args τ'] {N : List Str} {n : Nat} {t : TS} {vs : List V} {H : Hp} {Q : VK} {E : XK}
end
theorem e_cc {C : Int → Int → Prop} {g : Int → Int → Int} {ta tb : TE} {x y : Int} (h : C x y) (ha : Exp c W0 ta As (kFr c.K x)) (hb : Exp c W0 tb As (kFr c.K y)) {k : Kd} (hk : kFr c.K (g x y) = k) : Exp c W0 (tOp (rI C fun i j => .int (g i j)) ta tb) As k := hk ▸ fun σ W a W1 e Q q =>
  ha σ W a W1 e _ fun v W2 e2 p => hb σ W a W2 (e.trans e2) _ fun w W3 e3 p3 => ⟨x, y, p, p3, h, q _ W3 (e2.trans e3) rfl⟩
end
end Fw

namespace Fw
open PySem L2
section
variable {c : Cn} {W0 : Wd} {X : WX} {As Bs : List Sl} {α β γ δ τ ρ : Type} {K : Frag}
/-- [x] * n -/
@[irreducible] def R.rep (xs : List α) (n : Int) : R (List α) := if n < 2 ^ 63 ∧ -(2 ^ 63) ≤ n ∧ xs.length * n.toNat ≤ sizeLine then .ok (List.replicate n.toNat xs).flatten else .no
theorem al_rep {P : α → V → Prop} {xs : List α} {vs : List V} (h : Al P xs vs) : ∀ n, Al P (List.replicate n xs).flatten (List.replicate n vs).flatten
  | 0 => Al.nil
  | n + 1 => by
    rw [List.replicate_succ, List.replicate_succ, List.flatten_cons, List.flatten_cons]
    exact h.app (al_rep h n)
theorem len_rep (xs : List α) (n : Nat) : (List.replicate n xs).flatten.length = xs.length * n := by
  simp [List.length_flatten, Nat.mul_comm]
theorem o_rep [Rp α] : Op2 rRep (fun xs : List α => kLs K xs) (fun i : Int => kFr K i) R.rep (fun x : List α => kNw K x) := fun xs n => by
  unfold R.rep
  split
  · rename_i z e
    by_cases h : n < 2 ^ 63 ∧ -(2 ^ 63) ≤ n ∧ xs.length * n.toNat ≤ sizeLine
    · rw [if_pos h] at e
      cases e
      intro W0 W v w ⟨p, vs, ev, hp, al, l⟩ hw Q q
      have hl : (List.replicate n.toNat xs).flatten.length ≤ sizeLine := by rw [len_rep]; exact h.2.2
      exact ⟨p, n, vs, ev, hw, hp, h.2.1, h.1, al.1 ▸ h.2.2, fun b hb => q _ (W.no b _ hb) (Le.no hb) ⟨[b], ⟨b, _, rfl, rfl, W.sub.nope hb, upd_same, al_rep al _, hl⟩, fun a ha => by rw [List.mem_singleton.mp ha]; exact hb⟩⟩
    · rw [if_neg h] at e; cases e
  · rename_i e h
    split at h <;> cases h
  · trivial
/-! ### == at any depth -/
class Pd (α : Type) [Rp α] where
  pd : α → PyData
  dp : ∀ {K : Frag} {x : α} {v : V} {G : Hp}, Rp.rep K x v G → Dp K G v (pd x)
  n : Nat
  dep : ∀ {K : Frag} {x : α} {v : V} {G : Hp}, Rp.rep K x v G → (pd x).depth ≤ n
  lay : ∀ {K : Frag} {x : α} {v : V} {G : Hp}, Rp.rep K x v G → (pd x).canLay0 = true
  eq : ∀ x y : α, PyData.eqv (pd x) (pd y) = true ↔ x = y
instance : Pd Int := ⟨.int, fun h => by cases h; exact .int _, 0, fun _ => by simp [PyData.depth], fun _ => by simp [PyData.canLay0], fun x y => by simp [PyData.eqv]⟩
instance : Pd Bool := ⟨.bool, fun h => by cases h; exact .bl _, 0, fun _ => by simp [PyData.depth], fun _ => by simp [PyData.canLay0], fun x y => by simp [PyData.eqv]⟩
instance : Pd Str := ⟨.str, fun h => by cases h.1; exact .str _, 0, fun _ => by simp [PyData.depth], fun h => by
  show PyData.canLay0 (.str _) = true
  unfold PyData.canLay0
  exact h.2.2, fun x y => by simp [PyData.eqv]⟩
instance : Pd Unit := ⟨fun _ => .none, fun h => by cases h; exact .non, 0, fun _ => by simp [PyData.depth], fun _ => by simp [PyData.canLay0], fun x y => by simp [PyData.eqv]⟩
section
variable [Rp α] [Pd α] [Rp β] [Pd β] [Rp γ] [Pd γ] [Rp δ] [Pd δ]
theorem dpAll {G : Hp} : ∀ {xs : List α} {vs : List V}, Al (fun x v => Rp.rep K x v G) xs vs → DpAll K G vs (xs.map Pd.pd)
  | [], [], _ => .nil
  | [], v :: vs, h => by have := h.1; simp at this
  | x :: xs, [], h => by have := h.1; simp at this
  | x :: xs, v :: vs, h => .cons (Pd.dp (h.2 0 x v rfl rfl)) (dpAll ⟨by have := h.1; simpa using this, fun i y w a b => h.2 (i + 1) y w a b⟩)
theorem depAll {G : Hp} : ∀ {xs : List α} {vs : List V}, Al (fun x v => Rp.rep K x v G) xs vs → PyData.depthAll (xs.map Pd.pd) ≤ Pd.n α
  | [], [], _ => by simp [PyData.depthAll]
  | [], v :: vs, h => by have := h.1; simp at this
  | x :: xs, [], h => by have := h.1; simp at this
  | x :: xs, v :: vs, h => by
    have h1 := Pd.dep (h.2 0 x v rfl rfl)
    have h2 := depAll (xs := xs) (vs := vs) ⟨by have := h.1; simpa using this, fun i y w a b => h.2 (i + 1) y w a b⟩
    simp only [List.map_cons, PyData.depthAll]
    omega
theorem layAll {G : Hp} : ∀ {xs : List α} {vs : List V}, Al (fun x v => Rp.rep K x v G) xs vs → PyData.canLayAll0 (xs.map Pd.pd) = true
  | [], [], _ => by simp [PyData.canLayAll0]
  | [], v :: vs, h => by have := h.1; simp at this
  | x :: xs, [], h => by have := h.1; simp at this
  | x :: xs, v :: vs, h => by
    have h1 := Pd.lay (h.2 0 x v rfl rfl)
    have h2 := layAll (xs := xs) (vs := vs) ⟨by have := h.1; simpa using this, fun i y w a b => h.2 (i + 1) y w a b⟩
    simp only [List.map_cons, PyData.canLayAll0, h1, h2, Bool.and_self]
theorem eqAll : ∀ xs ys : List α, PyData.eqvAll (xs.map Pd.pd) (ys.map Pd.pd) = true ↔ xs = ys
  | [], [] => by simp [PyData.eqvAll]
  | [], y :: ys => by simp [PyData.eqvAll]
  | x :: xs, [] => by simp [PyData.eqvAll]
  | x :: xs, y :: ys => by simp only [List.map_cons, PyData.eqvAll, Bool.and_eq_true, Pd.eq, eqAll xs ys, List.cons.injEq]
instance : Pd (List α) := ⟨fun xs => .list (xs.map Pd.pd), fun ⟨p, vs, e, h, al, l⟩ => by subst e; exact .lst (.inl (.inl h)) (dpAll al), Pd.n α + 1, fun ⟨p, vs, e, h, al, l⟩ => by
  simp only [PyData.depth]; have := depAll al; omega, fun ⟨p, vs, e, h, al, l⟩ => by simp only [PyData.canLay0]; exact layAll al, fun x y => by simp only [PyData.eqv]; exact eqAll x y⟩
instance : Pd (Tup α) := ⟨fun xs => .tuple (xs.l.map Pd.pd), fun ⟨p, vs, e, h, al, l⟩ => by subst e; exact .tup h (dpAll al), Pd.n α + 1, fun ⟨p, vs, e, h, al, l⟩ => by
  simp only [PyData.depth]; have := depAll al; omega, fun ⟨p, vs, e, h, al, l⟩ => by simp only [PyData.canLay0]; exact layAll al, fun x y => by
  simp only [PyData.eqv]; rw [eqAll]; cases x; cases y; simp⟩
instance : Pd (α × β) := ⟨fun x => .tuple [Pd.pd x.1, Pd.pd x.2], fun ⟨p, a, b, e, h, r1, r2⟩ => by subst e; exact .tup h (.cons (Pd.dp r1) (.cons (Pd.dp r2) .nil)), max (Pd.n α) (Pd.n β) + 1, fun ⟨p, a, b, e, h, r1, r2⟩ => by
  simp only [PyData.depth, PyData.depthAll]; have := Pd.dep r1; have := Pd.dep r2; omega, fun ⟨p, a, b, e, h, r1, r2⟩ => by simp only [PyData.canLay0, PyData.canLayAll0, Pd.lay r1, Pd.lay r2, Bool.and_self], fun x y => by
  simp only [PyData.eqv, PyData.eqvAll, Bool.and_eq_true, Pd.eq, and_true]; cases x; cases y; simp⟩
instance : Pd (T3 α β γ) := ⟨fun x => .tuple [Pd.pd x.a, Pd.pd x.b, Pd.pd x.c], fun ⟨p, a, b, d, e, h, r1, r2, r3⟩ => by subst e; exact .tup h (.cons (Pd.dp r1) (.cons (Pd.dp r2) (.cons (Pd.dp r3) .nil))), max (Pd.n α) (max (Pd.n β) (Pd.n γ)) + 1, fun ⟨p, a, b, d, e, h, r1, r2, r3⟩ => by
  simp only [PyData.depth, PyData.depthAll]; have := Pd.dep r1; have := Pd.dep r2; have := Pd.dep r3; omega, fun ⟨p, a, b, d, e, h, r1, r2, r3⟩ => by simp only [PyData.canLay0, PyData.canLayAll0, Pd.lay r1, Pd.lay r2, Pd.lay r3, Bool.and_self], fun x y => by
  simp only [PyData.eqv, PyData.eqvAll, Bool.and_eq_true, Pd.eq, and_true]; cases x; cases y; simp⟩
instance : Pd (T4 α β γ δ) := ⟨fun x => .tuple [Pd.pd x.a, Pd.pd x.b, Pd.pd x.c, Pd.pd x.d], fun ⟨p, a, b, d, f, e, h, r1, r2, r3, r4⟩ => by subst e; exact .tup h (.cons (Pd.dp r1) (.cons (Pd.dp r2) (.cons (Pd.dp r3) (.cons (Pd.dp r4) .nil)))), max (Pd.n α) (max (Pd.n β) (max (Pd.n γ) (Pd.n δ))) + 1, fun ⟨p, a, b, d, f, e, h, r1, r2, r3, r4⟩ => by
  simp only [PyData.depth, PyData.depthAll]; have := Pd.dep r1; have := Pd.dep r2; have := Pd.dep r3; have := Pd.dep r4; omega, fun ⟨p, a, b, d, f, e, h, r1, r2, r3, r4⟩ => by simp only [PyData.canLay0, PyData.canLayAll0, Pd.lay r1, Pd.lay r2, Pd.lay r3, Pd.lay r4, Bool.and_self], fun x y => by
  simp only [PyData.eqv, PyData.eqvAll, Bool.and_eq_true, Pd.eq, and_true]; cases x; cases y; simp⟩
end
mutual
theorem dp_mono {G H : Hp} (s : Inc G H) : ∀ {v : V} {d : PyData}, Dp K G v d → Dp K H v d
  | _, _, .non => .non
  | _, _, .bl b => .bl b
  | _, _, .int i => .int i
  | _, _, .str x => .str x
  | _, _, .lst h a => .lst (s.sql h) (dpAll_mono s a)
  | _, _, .tup h a => .tup (s.sqt h) (dpAll_mono s a)
theorem dpAll_mono {G H : Hp} (s : Inc G H) : ∀ {vs : List V} {ds : List PyData}, DpAll K G vs ds → DpAll K H vs ds
  | _, _, .nil => .nil
  | _, _, .cons h t => .cons (dp_mono s h) (dpAll_mono s t)
end
theorem shaped_of [Rp α] [Pd α] {x : α} {v : V} {G : Hp} (h : Rp.rep K x v G) (hn : Pd.n α ≤ 64) : SeqAt.shaped (Pd.pd x) = true := by
  unfold SeqAt.shaped
  rw [Bool.and_eq_true]
  exact ⟨Pd.lay h, decide_eq_true (Nat.le_trans (Pd.dep h) hn)⟩
theorem pd_dec [Rp α] [DecidableEq α] [Pd α] (x y : α) : PyData.eqv (Pd.pd x) (Pd.pd y) = decide (x = y) := by
  by_cases h : x = y
  · rw [decide_eq_true h]; exact (Pd.eq x y).mpr h
  · rw [decide_eq_false h]
    cases e : PyData.eqv (Pd.pd x) (Pd.pd y) with
    | false => rfl
    | true => exact absurd ((Pd.eq x y).mp e) h
end
theorem hu64 {A : Around} {k : Nat} (hr : Room k A) : A.units + 64 < cLine := by have := hr.un; omega
theorem cx_never {P : Program} {w : World} {outer : List Env} {H : Hp} {s : Shared} {e : Value} {s' : Shared} (h : L2.CX P w outer H s (fun _ _ _ => False) e s') : False := by
  obtain ⟨_, _, _, _, _, _, _, _, _, _, _, _, z⟩ := h
  exact z
end Fw

namespace Fw
open PySem L2
/-! ### xs[a:b:c], c written, above 0 -/
section
open PySem.Spec PyProof.Rows
variable {X : Cx}
def pickL {α : Type} (xs : List α) (lo hi : Option Int) (c : Int) : List α := (sliceRange (sliceBounds lo hi (some c) xs.length).1 (sliceBounds lo hi (some c) xs.length).2.1 (sliceBounds lo hi (some c) xs.length).2.2).filterMap (xs[·]?)
theorem vals_pick {xs : List V} {us : List Value} (r : Vals xs us) : ∀ is : List Nat, Vals (is.filterMap (xs[·]?)) (is.filterMap (us[·]?))
  | [] => .nil
  | i :: is => by
    rw [List.filterMap_cons, List.filterMap_cons]
    cases e : xs[i]? with
    | none => rw [r.none_of e]; exact vals_pick r is
    | some x =>
      obtain ⟨u, hu, ru⟩ := r.get e
      rw [hu]
      exact .cons ru (vals_pick r is)
end
section
variable {c : Cn} {W0 : Wd} {X : WX} {As Bs : List Sl} {α β γ δ τ ρ : Type} {K : Frag}
theorem al_pick {P : α → V → Prop} {xs : List α} {vs : List V} (h : Al P xs vs) : ∀ is : List Nat, Al P (is.filterMap (xs[·]?)) (is.filterMap (vs[·]?))
  | [] => Al.nil
  | i :: is => by
    rw [List.filterMap_cons, List.filterMap_cons]
    cases e : xs[i]? with
    | none =>
      have : vs[i]? = none := List.getElem?_eq_none_iff.mpr (h.1 ▸ List.getElem?_eq_none_iff.mp e)
      rw [this]; exact al_pick h is
    | some x =>
      obtain ⟨v, hv, r⟩ := h.get e
      rw [hv]
      exact (al_pick h is).cons r
@[irreducible] def R.pick (xs : List α) (lo hi : Option Int) (c : Int) : R (List α) := if (pickL xs lo hi c).length ≤ sizeLine then .ok (pickL xs lo hi c) else .no
/-! ### all looked at as frozen, and back again -/
def Wd.bk (W W3 : Wd) (e : Le (.all W.H) W3) : Wd := ⟨fun a => match W.H a with
  | some _ => W.G a
  | none => W3.G a, W3.H, fun a o h => by
    dsimp only at h
    cases q : W.H a with
    | none => rw [q] at h; exact W3.sub a o h
    | some u => rw [q] at h; exact e.h a o (W.sub a o h), fun a u h i => by
    show (match W.H a with | some _ => W.G a | none => W3.G a) = some u
    cases q : W.H a with
    | none => exact W3.im a u h i
    | some o =>
      have h1 : W3.H a = some o := e.h a o q
      rw [h] at h1
      cases h1
      exact W.im a _ q i⟩
theorem bk_old {W W3 : Wd} {e : Le (.all W.H) W3} {a : Addr} {o : HO} (h : W.H a = some o) : (W.bk W3 e).G a = W.G a := by
  show (match W.H a with | some _ => W.G a | none => W3.G a) = W.G a
  rw [h]
theorem bk_le {W W3 : Wd} {e : Le (.all W.H) W3} : Le W (W.bk W3 e) := ⟨fun a o h => by rw [bk_old (W.sub a o h)]; exact h, e.h, fun a g n => by
  cases h : W.H a with
  | none => exact absurd h n
  | some u => rw [bk_old h]; exact g⟩
/-- what can't change is kept from the one to the other -/
def Tk (G G' : Hp) : Prop := ∀ p u, imm u = true → G p = some u → G' p = some u
theorem bk_tk {W W3 : Wd} {e : Le (.all W.H) W3} : Tk W3.G (W.bk W3 e).G := fun p u i h => (W.bk W3 e).im p u (W3.sub p u h) i
/-! ### borrowed -/
def kBw (K : Frag) [Rp α] (x : α) : Kd := ⟨fun _ v W => Rp.rep K x v W.H, fun h e => Rp.mono e.h h, fun _ h => h⟩
theorem fr_bw [Rp α] {x : α} {v : V} {A W : Wd} (h : (kFr K x).p A v W) : (kBw K x).p A v W := Rp.mono W.sub h
theorem own_bw [Fz α] {x : α} {v : V} {f : List Addr} {A W : Wd} (h : Ob.own K x v f W) : (kBw K x).p A v W := by
  have r : Rp.rep K x v (W.fz f).G := Fz.fz h
  exact Rp.mono (W.fz f).sub r
theorem nw_bw [Fz α] {x : α} {v : V} {A W : Wd} (h : (kNw K x).p A v W) : (kBw K x).p A v W := by
  obtain ⟨f, o, _⟩ := h
  exact own_bw (A := A) o
theorem e_varB [Fz α] {x : α} {pin : Option V} (i : Nat) (h : As[i]? = some (.ow pin x) := by rfl) : Exp c W0 (tVar i) As (kBw c.K x) := fun σ W a W1 e Q q => by
  obtain ⟨v, f, hv, r, _⟩ := a.varO h
  exact ⟨v, hv, q v W1 (Le.refl _) (own_bw (A := W1) (own_up r e))⟩
theorem e_bw [Rp α] {te : TE} {x : α} (h : Exp c W0 te As (kFr c.K x)) : Exp c W0 te As (kBw c.K x) := exp_w h fun _ _ _ => fr_bw
theorem e_bwN [Fz α] {te : TE} {x : α} (h : Exp c W0 te As (kNw c.K x)) : Exp c W0 te As (kBw c.K x) := exp_w h fun _ _ _ => nw_bw
theorem r_bwN [Fz α] {te : TE} {m : R α} (h : Exr c W0 X te As m fun x => kNw c.K x) : Exr c W0 X te As m fun x => kBw c.K x := exr_w h fun _ _ _ _ => nw_bw
/-! ### ==, in, isinstance of what is only read -/
theorem o_eqB [Rp α] [DecidableEq α] [Pd α] (hn : Pd.n α ≤ 64 := by decide) : Op2 (rEqD K) (fun x : α => kBw K x) (fun x : α => kBw K x) (fun x y => .ok (decide (x = y))) (fun z : Bool => kFr K z) := fun x y W0 W v w hv hw Q q =>
  ⟨Pd.pd x, Pd.pd y, Pd.dp hv, Pd.dp hw, shaped_of hv hn, shaped_of hw hn, q _ W (Le.refl _) (by rw [pd_dec]; rfl)⟩
theorem o_neB [Rp α] [DecidableEq α] [Pd α] (hn : Pd.n α ≤ 64 := by decide) : Op2 (rNeD K) (fun x : α => kBw K x) (fun x : α => kBw K x) (fun x y => .ok (!decide (x = y))) (fun z : Bool => kFr K z) := fun x y W0 W v w hv hw Q q =>
  ⟨Pd.pd x, Pd.pd y, Pd.dp hv, Pd.dp hw, shaped_of hv hn, shaped_of hw hn, q _ W (Le.refl _) (by rw [pd_dec]; rfl)⟩
/-! ### xs + ys -/
/-! ### one of two -/
instance [Rp α] [Rp β] : Rp (α ⊕ β) := ⟨fun K x v G => match x with
  | .inl a => Rp.rep K a v G
  | .inr b => Rp.rep K b v G, fun {K x v G H} s h => by
    cases x with
    | inl a => exact Rp.mono (α := α) s h
    | inr b => exact Rp.mono (α := β) s h⟩
class Apart (α β : Type) [Rp α] [Rp β] [Pd α] [Pd β] where
  l : ∀ (a : α) (b : β), PyData.eqv (Pd.pd a) (Pd.pd b) = false
  r : ∀ (a : α) (b : β), PyData.eqv (Pd.pd b) (Pd.pd a) = false
instance [Rp α] [Pd α] : Apart Str (Tup α) := ⟨fun _ _ => by simp [Pd.pd, PyData.eqv], fun _ _ => by simp [Pd.pd, PyData.eqv]⟩
instance [Rp α] [Pd α] [Rp β] [Pd β] [Rp γ] [Pd γ] [Rp δ] [Pd δ] : Apart Int (T4 α β γ δ) := ⟨fun _ _ => by simp [Pd.pd, PyData.eqv], fun _ _ => by simp [Pd.pd, PyData.eqv]⟩
instance [Rp α] [Rp β] [Pd α] [Pd β] [Apart α β] : Pd (α ⊕ β) where
  pd x := match x with
    | .inl a => Pd.pd a
    | .inr b => Pd.pd b
  dp := fun {K x v G} h => by
    cases x with
    | inl a => exact Pd.dp (α := α) h
    | inr b => exact Pd.dp (α := β) h
  n := max (Pd.n α) (Pd.n β)
  dep := fun {K x v G} h => by
    cases x with
    | inl a => have := Pd.dep (α := α) h; dsimp only; omega
    | inr b => have := Pd.dep (α := β) h; dsimp only; omega
  lay := fun {K x v G} h => by
    cases x with
    | inl a => exact Pd.lay (α := α) h
    | inr b => exact Pd.lay (α := β) h
  eq x y := by
    cases x with
    | inl a =>
      cases y with
      | inl b => simp [Pd.eq]
      | inr b => simp [Apart.l]
    | inr a =>
      cases y with
      | inl b => simp [Apart.r]
      | inr b => simp [Pd.eq]
/-! ### None or a thing -/
class NN (α : Type) [Rp α] where
  nn : ∀ {K : Frag} {x : α} {v : V} {G : Hp}, Rp.rep K x v G → v ≠ .non
instance : NN Int := ⟨fun h => by cases h; exact fun z => nomatch z⟩
instance : NN Bool := ⟨fun h => by cases h; exact fun z => nomatch z⟩
instance : NN Str := ⟨fun h => by cases h.1; exact fun z => nomatch z⟩
instance [Rp α] : NN (List α) := ⟨fun ⟨p, vs, e, _⟩ => by subst e; exact fun z => nomatch z⟩
instance [Rp α] : NN (Tup α) := ⟨fun ⟨p, vs, e, _⟩ => by subst e; exact fun z => nomatch z⟩
instance [Rp α] [Rp β] : NN (α × β) := ⟨fun ⟨p, a, b, e, _⟩ => by subst e; exact fun z => nomatch z⟩
instance [Rp α] [Rp β] [Rp γ] : NN (T3 α β γ) := ⟨fun ⟨p, a, b, d, e, _⟩ => by subst e; exact fun z => nomatch z⟩
instance [Rp α] [Rp β] [Rp γ] [Rp δ] : NN (T4 α β γ δ) := ⟨fun ⟨p, a, b, d, f, e, _⟩ => by subst e; exact fun z => nomatch z⟩
theorem e_none [Rp α] {te : TE} (h : Exp c W0 te As (kFr c.K ())) : Exp c W0 te As (kFr c.K (none : Option α)) := exp_w h fun _ _ _ p => p
theorem e_some [Rp α] [NN α] {te : TE} {x : α} (h : Exp c W0 te As (kFr c.K x)) : Exp c W0 te As (kFr c.K (some x)) := exp_w h fun _ _ _ p => ⟨NN.nn p, p⟩
theorem r_get [Rp α] {te : TE} {m : R (Option α)} (h : Exr c W0 X te As m fun x => kFr c.K x) : Exr c W0 X te As (m.bind R.opt) fun x => kFr c.K x := fun σ W a => by
  have h' := h σ W a
  cases m with
  | ok x =>
    cases x with
    | none => trivial
    | some y => exact fun W1 e1 Q q => h' W1 e1 Q fun v W2 e2 p => q v W2 e2 p.2
  | ex e => exact h'
  | no => trivial
instance : Eqs (Option Int) := ⟨fun x => match x with | none => .non | some i => .int i, fun {K x u G} h => by
  cases x with
  | none => exact h
  | some i => exact h.2, fun {x y} h => by
  cases x <;> cases y <;> cases h <;> rfl, fun x y => by cases x <;> cases y <;> rfl⟩
end
end Fw

namespace Fw
open PySem L2
section
open PySem.Spec PyProof.Rows
variable {X : Cx}
/-! ### a slice whose step is worked out -/
def tSl3v (K : Frag) (te : TE) (tl th ts : TO) : TE := fun σ H Q => te σ H fun x H1 => tl σ H1 fun l H2 => th σ H2 fun u H3 => ts σ H3 fun o H4 => ∃ c, o = some c ∧ c ≠ 0 ∧ ∃ a xs, x = .ref a ∧ SqL K H4 a xs ∧ ∀ p, H4 p = none → Q (.ref p) (upd H4 p (.lst (pickL xs l u c)))
theorem pe_slice3v {e es : Expr} {te : TE} {lo hi : Option Expr} {tl th ts : TO} {p2 pos : Pos} (he : PE X e te) (hl : PO X lo tl) (hu : PO X hi th) (hst : PO X (some es) ts) :
    PE X (.Subscript e (.Slice lo hi (some es) p2) pos) (tSl3v X.K te tl th ts) := by
  refine ⟨fun pins s σ H Q I h => ?_⟩
  refine Subscript_ (thn (he.run pins s σ H _ I h) fun v s1 ⟨x, H1, I1, r1, q1⟩ => ?_)
  refine wpAny_Slice (thn (hl.run pins s1 σ H1 _ I1 q1) fun vl s2 ⟨l, H2, I2, pl, q2⟩ => ?_)
  refine thn (hu.run pins s2 σ H2 _ I2 q2) fun vu s3 ⟨u, H3, I3, pu, q3⟩ => ?_
  refine thn (hst.run pins s3 σ H3 _ I3 q3) fun vs s4 ⟨o, H4, I4, ps, q4⟩ => ?_
  obtain ⟨c, eo, hc0, a, xs, ex, hx, q⟩ := q4
  have hc : some c ≠ some (0 : Int) := fun h => hc0 (Option.some.inj h)
  subst eo
  subst ex
  cases r1
  have I5 : Inv X pins σ H4 { s4 with heap := s4.heap.push { cls := .type "slice", data := .fields #[vl, vu, vs] } } := I4.kept (t' := s4.toks) fun b ob q => Heap.get?_push_of_some _ q
  obtain ⟨its, r, ht, hz⟩ := I5.list hx
  have hlen := r.length
  show wpAny (model X.prog X.w) X.A (subscriptTail e (.Slice lo hi (some es) p2) (.ref a) (.ref s4.heap.objs.size)) (EP X pins σ Q) X.xe { s4 with heap := s4.heap.push { cls := .type "slice", data := .fields #[vl, vu, vs] } }
  refine tail_any (ops := [.ref a, .ref s4.heap.objs.size]) ht.isList.typeIs (PySem.slot_list_getitem.lookup) ?_ (by with_unfolding_all rfl)
  refine wpAny_getItem_list_slice ht.isList (Heap.IsSliceOf.new _ vl vu vs) pl pu ps hc ?_ (by rw [List.size_toArray]; omega)
  have e5 : slicePick its.toArray l u (some c) = ((sliceRange (sliceBounds l u (some c) xs.length).1 (sliceBounds l u (some c) xs.length).2.1 (sliceBounds l u (some c) xs.length).2.2).filterMap (its[·]?)).toArray := by
    unfold slicePick
    rw [List.size_toArray, ← hlen]
    simp only [List.getElem?_toArray]
  rw [e5]
  have v5 := vals_pick r (sliceRange (sliceBounds l u (some c) xs.length).1 (sliceBounds l u (some c) xs.length).2.1 (sliceBounds l u (some c) xs.length).2.2)
  refine ⟨.ref _, _, I5.laid (t' := s4.toks) (o := .lst (pickL xs l u c)) (fun b ob q => Heap.get?_push_of_some _ q) (Nat.le_refl _) ?_, rfl, q _ (I5.hok.fresh (Nat.le_refl _))⟩
  refine ⟨?_, _, 0, v5, Heap.get?_push_size _ rfl⟩
  have z := slicePick_size_le its.toArray l u (some c)
  rw [e5, List.size_toArray, List.size_toArray, ← v5.length] at z
  exact Nat.le_trans z (by rw [← hlen]; exact hz)
end
section
variable {c : Cn} {W0 : Wd} {X : WX} {As Bs : List Sl} {α β γ δ τ ρ : Type} {K : Frag}
@[irreducible] def R.pickv (xs : List α) (lo hi st : Option Int) : R (List α) := match st with
  | some c => if c ≠ 0 then R.pick xs lo hi c else .no
  | none => .no
theorem r_sl3v [Rp α] {te : TE} {tl th ts : TO} {m : R (List α)} {a b d : R (Option Int)} (h : Exr c W0 X te As m fun x => kSh c.K x) (ha : Opo c W0 X tl As a) (hb : Opo c W0 X th As b) (hd : Opo c W0 X ts As d) :
    Exr c W0 X (tSl3v c.K te tl th ts) As (m.bind fun xs => a.bind fun lo => b.bind fun hi => d.bind fun st => R.pickv xs lo hi st) fun ys => kNw c.K ys := fun σ W at_ => by
  have h' := h σ W at_
  have ha' := ha σ W at_
  have hb' := hb σ W at_
  have hd' := hd σ W at_
  cases m with
  | no => trivial
  | ex e => exact fun W1 e1 Q q => h' W1 e1 _ q
  | ok xs =>
    cases a with
    | no => trivial
    | ex e => exact fun W1 e1 Q q => h' W1 e1 _ fun v W2 e2 p => ha' W2 (e1.trans e2) _ fun cls d W3 e3 z => q cls d W3 (e2.trans e3) z
    | ok lo =>
      cases b with
      | no => trivial
      | ex e => exact fun W1 e1 Q q => h' W1 e1 _ fun v W2 e2 p => ha' W2 (e1.trans e2) _ fun W3 e3 => hb' W3 (e1.trans (e2.trans e3)) _ fun cls d W4 e4 z => q cls d W4 (e2.trans (e3.trans e4)) z
      | ok hi =>
        cases d with
        | no => trivial
        | ex e => exact fun W1 e1 Q q => h' W1 e1 _ fun v W2 e2 p => ha' W2 (e1.trans e2) _ fun W3 e3 => hb' W3 (e1.trans (e2.trans e3)) _ fun W4 e4 => hd' W4 (e1.trans (e2.trans (e3.trans e4))) _ fun cls d W5 e5 z => q cls d W5 (e2.trans (e3.trans (e4.trans e5))) z
        | ok st =>
          show SatR (R.pickv xs lo hi st) _ _
          unfold R.pickv
          cases st with
          | none => trivial
          | some st =>
            dsimp only
            split
            · rename_i hne
              unfold R.pick
              split
              · rename_i hz
                refine fun W1 e1 Q q => h' W1 e1 _ fun v W2 e2 ⟨p, vs, ev, hs, al, l⟩ => ha' W2 (e1.trans e2) _ fun W3 e3 => hb' W3 (e1.trans (e2.trans e3)) _ fun W4 e4 => hd' W4 (e1.trans (e2.trans (e3.trans e4))) _ fun W5 e5 => ⟨st, rfl, hne, p, vs, ev, (e3.trans (e4.trans e5)).h.sql hs, fun b hb => ?_⟩
                refine q _ (W5.no b _ hb) ((e2.trans (e3.trans (e4.trans e5))).trans (Le.no hb)) ⟨[b], ⟨b, _, rfl, rfl, W5.sub.nope hb, upd_same, ?_, hz⟩, fun a ha => by rw [List.mem_singleton.mp ha]; exact (e2.trans (e3.trans (e4.trans e5))).fr hb⟩
                unfold pickL
                rw [← al.1]
                exact al_pick (al_mono al (e3.trans (e4.trans e5)).g) _
              · trivial
            · trivial
end
end Fw

namespace Fw
open PySem L2
section
variable {c : Cn} {W0 : Wd} {X : WX} {As : List Sl} {α β γ δ τ ρ S J : Type} {Bs : S → List Sl} {K : Frag}
variable {kr : ρ → Kd} {Ls : List Sl} {Js : J → List Sl} {B : Bd}
/-! ### built-ins over lists of ints, texts of ints -/
theorem al_ints {G : Hp} : ∀ {xs : List Int} {vs : List V}, Al (fun (x : Int) v => Rp.rep K x v G) xs vs → vs = xs.map V.int
  | [], [], _ => rfl
  | [], _ :: _, h => nomatch h.1
  | _ :: _, [], h => nomatch h.1
  | x :: xs, v :: vs, h => by
    obtain ⟨u, hu, r⟩ := h.get (i := 0) (x := x) rfl
    cases hu
    have r' : v = .int x := r
    have := al_ints (xs := xs) (vs := vs) ⟨by simpa using h.1, fun i y w hy hw => h.2 (i + 1) y w (by simpa using hy) (by simpa using hw)⟩
    rw [this, r']
    rfl
def maxI : List Int → Int
  | [] => 0
  | [x] => x
  | x :: y :: r => if maxI (y :: r) ≤ x then x else maxI (y :: r)
theorem maxI_eq : ∀ (xs : List Int) (m : Int), m ∈ xs → (∀ y, y ∈ xs → y ≤ m) → m = maxI xs
  | [x], m, h, _ => List.mem_singleton.mp h
  | x :: y :: r, m, h, hm => by
    show m = if maxI (y :: r) ≤ x then x else maxI (y :: r)
    have ex : ∃ k, k ∈ (y :: r) ∧ ∀ z, z ∈ (y :: r) → z ≤ k := by
      clear hm h
      induction r generalizing y with
      | nil => exact ⟨y, by simp, fun z hz => by rw [List.mem_singleton.mp hz]; exact Int.le_refl _⟩
      | cons w r ih =>
        obtain ⟨k, hk, hz⟩ := ih w
        by_cases q : k ≤ y
        · exact ⟨y, by simp, fun z hz' => by
            rcases List.mem_cons.mp hz' with h | h
            · rw [h]; exact Int.le_refl _
            · exact Int.le_trans (hz z h) q⟩
        · exact ⟨k, List.mem_cons_of_mem _ hk, fun z hz' => by
            rcases List.mem_cons.mp hz' with h | h
            · rw [h]; omega
            · exact hz z h⟩
    obtain ⟨k, hk, hz⟩ := ex
    have e := maxI_eq (y :: r) k hk hz
    rw [← e]
    have h1 := hm x (by simp)
    have h2 := hm k (List.mem_cons_of_mem _ hk)
    rcases List.mem_cons.mp h with h | h
    · rw [if_pos (by omega)]; exact h
    · have := hz m h
      split <;> omega
@[irreducible] def R.maxL (xs : List Int) : R Int := if 0 < xs.length then .ok (maxI xs) else .no
theorem o_maxL : OpA (rMax K) (fun z : List Int × Unit => aCons (kSh K z.1) aNil) (fun z => R.maxL z.1) (fun n : Int => kFr K n) := fun z => by
  unfold R.maxL
  dsimp only
  by_cases h : 0 < z.1.length
  · rw [if_pos h]
    intro W0 W vs ⟨v, r, e, ⟨p, ls, ev, hs, al, l⟩, en⟩ Q q
    subst e en ev
    exact ⟨p, z.1, rfl, by rw [← al_ints al]; exact hs, h, fun m hm hy => q _ W (Le.refl _) (by rw [maxI_eq z.1 m hm hy]; rfl)⟩
  · rw [if_neg h]
    trivial
instance (x : Str) : Decidable (SOk x) := inferInstanceAs (Decidable (_ ∧ _))
/-! ### four at once -/
end
end Fw

namespace Fw
open PySem L2
section
variable {X : Cx} {K : Frag}
/-! ### text * int -/
/-! ### methods of a text with one argument -/
end
end Fw

namespace Fw
open PySem L2
/-! ### dict(t), t a tuple of pairs -/
section
open PySem.Spec PyProof.Rows
variable {prog : Program} {w : World} {A : Around} {E : Value → Shared → Prop}
end
end Fw

namespace Fw
open PySem L2
/-! ### what is never come to -/
section
variable {J S ρ : Type} {c : Cn} {X : WX} {kr : ρ → Kd} {Ls : List Sl} {Js : J → List Sl} {B : Bd} {As : List Sl} {Bs : S → List Sl} {Y : Cx} {K : Frag}
def tNo : TS := fun _ _ _ => False
theorem pss_no (l : List Stmt) : PSs Y l tNo := ⟨fun _ _ _ _ _ _ h => False.elim h⟩
/-! ### text.index, text.split -/
def soks (l : List Str) : Bool := l.all fun s => decide (s.length ≤ sizeLine) && s.cps.all (· < 0x110000)
@[irreducible] def R.split (a b : Str) : R (List Str) := if (b.length == 0) = false ∧ a.length + 2 ≤ sizeLine ∧ (Txt.split a b).length ≤ sizeLine ∧ soks (Txt.split a b) = true then .ok (Txt.split a b) else .no
end
end Fw

namespace Fw
open PySem L2
/-! ### dicts -/
section
variable {κ κ' α : Type} [DecidableEq κ] [DecidableEq κ']
theorem valV_inj {f : κ → κ'} (hf : ∀ a b, f a = f b → a = b) (k : κ) : ∀ kvs : List (κ × V), valV (kvs.map fun p => (f p.1, p.2)) (f k) = valV kvs k
  | [] => rfl
  | p :: r => by
    rw [List.map_cons]
    by_cases e : p.1 = k
    · rw [valV_pos e, valV_pos (congrArg f e)]
    · rw [valV_neg e, valV_neg (fun z => e (hf _ _ z)), valV_inj hf k r]
theorem putK_inj {f : κ → κ'} (hf : ∀ a b, f a = f b → a = b) (k : κ) (v : V) (kvs : List (κ × V)) : putK (kvs.map fun p => (f p.1, p.2)) (f k) v = (putK kvs k v).map fun p => (f p.1, p.2) := by
  unfold putK
  rw [valV_any, valV_any, valV_inj hf]
  split
  · rw [List.map_map, List.map_map]
    refine List.map_congr_left fun p _ => ?_
    show (if f p.1 = f k then (f p.1, v) else (f p.1, p.2)) = _
    by_cases e : p.1 = k
    · rw [if_pos (congrArg f e)]
      show _ = (fun p : κ × V => (f p.1, p.2)) (if p.1 = k then (p.1, v) else p)
      rw [if_pos e]
    · rw [if_neg (fun z => e (hf _ _ z))]
      show _ = (fun p : κ × V => (f p.1, p.2)) (if p.1 = k then (p.1, v) else p)
      rw [if_neg e]
  · rw [List.map_append]
    rfl
/-- kinds of keys -/
class DKy (κ : Type) [DecidableEq κ] [Rp κ] where
  ho : List (κ × V) → HO
  get : ∀ {K : Frag} {G H : Hp} {k : κ} {y : V} {p : Addr} {kvs : List (κ × V)}, Rp.rep K k y G → Inc G H → Rd H p (ho kvs) → DGet H p y (valV kvs k)
  put : ∀ {K : Frag} {G H : Hp} {k : κ} {y v : V} {p : Addr} {kvs : List (κ × V)}, Rp.rep K k y G → Inc G H → H p = some (ho kvs) → kvs.length < sizeLine → DPut H p y v (upd H p (ho (putK kvs k v)))
  isD : ∀ {H : Hp} {p : Addr} {kvs : List (κ × V)}, Rd H p (ho kvs) → IsD H p
  mu : ∀ kvs : List (κ × V), Mut (some (ho kvs))
theorem ho_mut {κ : Type} [DecidableEq κ] [Rp κ] [DKy κ] (kvs : List (κ × V)) : imm (DKy.ho kvs) = false := by
  have h := DKy.mu kvs
  cases e : DKy.ho kvs with
  | tup x => rw [e] at h; exact h.elim
  | frz o u => rw [e] at h; exact h.elim
  | xd x => rw [e] at h; exact h.elim
  | own x => rw [e] at h; exact h.elim
  | _ => rfl
def kI (i : Int) : Key := .inl i
def kS (s : Str) : Key := .inr s
theorem kI_inj : ∀ a b, kI a = kI b → a = b := fun a b h => by cases h; rfl
theorem kS_inj : ∀ a b, kS a = kS b → a = b := fun a b h => by cases h; rfl
instance : DKy Int where
  ho kvs := .dK (kvs.map fun p => (kI p.1, p.2))
  get := fun {K G H k y p kvs} r _ e => by
    have r' : y = .int k := r
    subst r'
    rw [← valV_inj kI_inj k kvs]
    exact .inl ⟨_, kI k, e, rfl, rfl⟩
  put := fun {K G H k y v p kvs} r _ e l => by
    have r' : y = .int k := r
    subst r'
    rw [← putK_inj kI_inj k v kvs]
    exact DPut.k (k := kI k) e (by rw [List.length_map]; exact l)
  isD := fun e => .inl ⟨_, e⟩
  mu := fun _ => trivial
instance : DKy Str where
  ho kvs := .dK (kvs.map fun p => (kS p.1, p.2))
  get := fun {K G H k y p kvs} r _ e => by
    have r' : y = .str k := r.1
    subst r'
    rw [← valV_inj kS_inj k kvs]
    exact .inl ⟨_, kS k, e, rfl, rfl⟩
  put := fun {K G H k y v p kvs} r _ e l => by
    have r' : y = .str k := r.1
    subst r'
    rw [← putK_inj kS_inj k v kvs]
    exact DPut.k (k := kS k) e (by rw [List.length_map]; exact l)
  isD := fun e => .inl ⟨_, e⟩
  mu := fun _ => trivial
/-- a tuple of ints that is known to be just that -/
structure TK where
  l : List Int
deriving DecidableEq
def kT (x : TK) : List Key := x.l.map kI
theorem mapkI_inj : ∀ a b : List Int, a.map kI = b.map kI → a = b
  | [], [], _ => rfl
  | [], _ :: _, h => by simp at h
  | _ :: _, [], h => by simp at h
  | x :: a, y :: b, h => by
    rw [List.map_cons, List.map_cons] at h
    injection h with h1 h2
    rw [kI_inj _ _ h1, mapkI_inj a b h2]
theorem kT_inj : ∀ a b, kT a = kT b → a = b := fun a b h => by
  obtain ⟨a⟩ := a
  obtain ⟨b⟩ := b
  exact congrArg TK.mk (mapkI_inj a b h)
instance : Rp TK := ⟨fun K x v G => ∃ p, v = .ref p ∧ G p = some (.tup (x.l.map V.int)) ∧ x.l.length ≤ sizeLine, fun s ⟨p, e, h, l⟩ => ⟨p, e, s _ _ h, l⟩⟩
theorem kT_v (x : TK) : (kT x).map L2.kV = x.l.map V.int := by
  unfold kT
  rw [List.map_map]
  rfl
instance : DKy TK where
  ho kvs := .dT (kvs.map fun p => (kT p.1, p.2))
  get := fun {K G H k y p kvs} ⟨b, r, hb, _⟩ s e => by
    subst r
    rw [← valV_inj kT_inj k kvs]
    exact .inr ⟨_, kT k, b, e, rfl, by rw [kT_v]; exact s _ _ hb, rfl⟩
  put := fun {K G H k y v p kvs} ⟨b, r, hb, _⟩ s e l => by
    subst r
    rw [← putK_inj kT_inj k v kvs]
    exact DPut.t (k := kT k) e (by rw [kT_v]; exact s _ _ hb) (by rw [List.length_map]; exact l)
  isD := fun e => .inr ⟨_, e⟩
  mu := fun _ => trivial
/-- such a tuple is a tuple -/
theorem tk_tup {K : Frag} {x : TK} {v : V} {G : Hp} (h : Rp.rep K x v G) : Rp.rep K (Tup.mk x.l) v G := by
  obtain ⟨p, e, hp, l⟩ := h
  refine ⟨p, _, e, .inl (.inl hp), ⟨by simp, fun i y w h1 h2 => ?_⟩, l⟩
  rw [List.getElem?_map, h1] at h2
  cases h2
  rfl
end
section
variable {κ α : Type} [DecidableEq κ]
def dval (x : List (κ × α)) (k : κ) : Option α := match x with
  | [] => none
  | p :: ps => if p.1 = k then some p.2 else dval ps k
def dput (x : List (κ × α)) (k : κ) (a : α) : List (κ × α) := if (dval x k).isSome = true then x.map (fun p => if p.1 = k then (p.1, a) else p) else x ++ [(k, a)]
theorem dput_len (x : List (κ × α)) (k : κ) (y : α) : (dput x k y).length ≤ x.length + 1 := by
  unfold dput
  split
  · rw [List.length_map]; omega
  · simp
def DR (K : Frag) [Rp α] : List (κ × α) → List (κ × V) → Hp → Prop
  | [], [], _ => True
  | p :: ps, q :: qs, G => p.1 = q.1 ∧ Rp.rep K p.2 q.2 G ∧ DR K ps qs G
  | _, _, _ => False
variable [Rp α] {K : Frag}
theorem DR.mono {G G' : Hp} (s : Inc G G') : ∀ {x : List (κ × α)} {q : List (κ × V)}, DR K x q G → DR K x q G'
  | [], [], h => h
  | _ :: _, _ :: _, h => ⟨h.1, Rp.mono s h.2.1, DR.mono s h.2.2⟩
  | [], _ :: _, h => h.elim
  | _ :: _, [], h => h.elim
theorem DR.len {G : Hp} : ∀ {x : List (κ × α)} {q : List (κ × V)}, DR K x q G → x.length = q.length
  | [], [], h => rfl
  | _ :: _, _ :: _, h => by rw [List.length_cons, List.length_cons, DR.len h.2.2]
  | [], _ :: _, h => h.elim
  | _ :: _, [], h => h.elim
theorem DR.none {G : Hp} {k : κ} : ∀ {x : List (κ × α)} {q : List (κ × V)}, DR K x q G → dval x k = none → valV q k = none
  | [], [], h, _ => rfl
  | a :: x, b :: q, h, e => by
    unfold dval at e
    by_cases c : a.1 = k
    · rw [if_pos c] at e; cases e
    · rw [if_neg c] at e
      rw [valV_neg (h.1 ▸ c)]
      exact DR.none h.2.2 e
  | [], _ :: _, h, _ => h.elim
  | _ :: _, [], h, _ => h.elim
theorem DR.some {G : Hp} {k : κ} {y : α} : ∀ {x : List (κ × α)} {q : List (κ × V)}, DR K x q G → dval x k = some y → ∃ v, valV q k = some v ∧ Rp.rep K y v G
  | [], [], h, e => by cases e
  | a :: x, b :: q, h, e => by
    unfold dval at e
    by_cases c : a.1 = k
    · rw [if_pos c] at e
      cases e
      exact ⟨b.2, valV_pos (h.1 ▸ c), h.2.1⟩
    · rw [if_neg c] at e
      rw [valV_neg (h.1 ▸ c)]
      exact DR.some h.2.2 e
  | [], _ :: _, h, _ => h.elim
  | _ :: _, [], h, _ => h.elim
theorem DR.isSome {G : Hp} {k : κ} {x : List (κ × α)} {q : List (κ × V)} (h : DR K x q G) : (valV q k).isSome = (dval x k).isSome := by
  cases e : dval x k with
  | none => rw [h.none e]; rfl
  | some y => obtain ⟨v, ev, _⟩ := h.some e; rw [ev]; rfl
theorem DR.repl {G : Hp} {k : κ} {y : α} {v : V} (r : Rp.rep K y v G) : ∀ {x : List (κ × α)} {q : List (κ × V)}, DR K x q G → DR K (x.map fun p => if p.1 = k then (p.1, y) else p) (q.map fun p => if p.1 = k then (p.1, v) else p) G
  | [], [], h => h
  | a :: x, b :: q, h => by
    rw [List.map_cons, List.map_cons]
    refine ⟨?_, ?_, DR.repl r h.2.2⟩
    · by_cases c : a.1 = k
      · rw [if_pos c, if_pos (h.1 ▸ c)]; exact h.1
      · rw [if_neg c, if_neg (h.1 ▸ c)]; exact h.1
    · by_cases c : a.1 = k
      · rw [if_pos c, if_pos (h.1 ▸ c)]; exact r
      · rw [if_neg c, if_neg (h.1 ▸ c)]; exact h.2.1
  | [], _ :: _, h => h.elim
  | _ :: _, [], h => h.elim
theorem DR.snoc {G : Hp} {k : κ} {y : α} {v : V} (r : Rp.rep K y v G) : ∀ {x : List (κ × α)} {q : List (κ × V)}, DR K x q G → DR K (x ++ [(k, y)]) (q ++ [(k, v)]) G
  | [], [], h => ⟨rfl, r, trivial⟩
  | a :: x, b :: q, h => ⟨h.1, h.2.1, DR.snoc r h.2.2⟩
  | [], _ :: _, h => h.elim
  | _ :: _, [], h => h.elim
theorem DR.put {G : Hp} {k : κ} {y : α} {v : V} {x : List (κ × α)} {q : List (κ × V)} (h : DR K x q G) (r : Rp.rep K y v G) : DR K (dput x k y) (putK q k v) G := by
  unfold dput putK
  rw [valV_any, h.isSome]
  split
  · exact h.repl r
  · exact h.snoc r
end
/-- a dict: its keys and values, in order -/
structure Dk (κ α : Type) where
  l : List (κ × α)
deriving DecidableEq
section
variable {κ α : Type} [DecidableEq κ] [Rp κ] [DKy κ] [Rp α]
/-- frozen: locked for good -/
def repD (K : Frag) (x : Dk κ α) (v : V) (G : Hp) : Prop := ∃ p q o, v = .ref p ∧ G p = some (.frz o (DKy.ho q)) ∧ DR K x.l q G ∧ x.l.length ≤ sizeLine
instance : Rp (Dk κ α) := ⟨repD, fun s ⟨p, q, o, e, h, a, l⟩ => ⟨p, q, o, e, s _ _ h, a.mono s, l⟩⟩
def ownD (K : Frag) (x : Dk κ α) (v : V) (f : List Addr) (W : Wd) : Prop := ∃ p q, v = .ref p ∧ f = [p] ∧ W.G p = none ∧ W.H p = some (DKy.ho q) ∧ DR K x.l q W.G ∧ x.l.length ≤ sizeLine
instance : Ob (Dk κ α) where
  own := ownD
  keep := fun {K x v f W W'} ⟨p, q, e, ef, g, h, a, l⟩ s n k => by
    subst ef
    exact ⟨p, q, e, rfl, n p (List.mem_singleton.mpr rfl), (k p (List.mem_singleton.mpr rfl)).trans h, a.mono s, l⟩
  foot := fun {K x v f W} ⟨p, q, e, ef, g, h, a, l⟩ b hb => by
    subst ef
    obtain rfl := List.mem_singleton.mp hb
    exact ⟨g, by rw [h]; exact fun z => nomatch z⟩
theorem rd_inc {H H' : Hp} {a : Addr} {u : HO} (s : Inc H H') (h : Rd H a u) : Rd H' a u := h.imp (fun h => s _ _ h) fun ⟨o, h⟩ => ⟨o, s _ _ h⟩
/-- a dict that may be read -/
def kDs (K : Frag) (x : Dk κ α) : Kd := ⟨fun _ v W => ∃ p q, v = .ref p ∧ Rd W.H p (DKy.ho q) ∧ DR K x.l q W.G ∧ x.l.length ≤ sizeLine,
  fun ⟨p, q, e, h, a, l⟩ z => ⟨p, q, e, rd_inc z.h h, a.mono z.g, l⟩, fun _ h => h⟩
variable {c : Cn} {W0 : Wd} {X : WX} {As : List Sl}
theorem fr_ds {K : Frag} {x : Dk κ α} {v : V} {W A : Wd} (h : (kFr K x).p A v W) : (kDs K x).p A v W := by
  obtain ⟨p, q, o, e, h, a, l⟩ := h
  exact ⟨p, q, e, .inr ⟨o, W.sub _ _ h⟩, a, l⟩
theorem own_ds {K : Frag} {x : Dk κ α} {v : V} {f : List Addr} {W A : Wd} (h : Ob.own K x v f W) : (kDs K x).p A v W := by
  obtain ⟨p, q, e, ef, g, h, a, l⟩ := h
  exact ⟨p, q, e, .inl h, a, l⟩
theorem e_varD {x : Dk κ α} {pin : Option V} (i : Nat) (h : As[i]? = some (.ow pin x) := by rfl) : Exp c W0 (tVar i) As (kDs c.K x) := fun σ W a W1 e Q q => by
  obtain ⟨v, f, ev, o, _⟩ := (a.mono e).varO h
  exact ⟨v, ev, q v W1 (Le.refl _) (own_ds o)⟩
theorem e_dsF {te : TE} {x : Dk κ α} (h : Exp c W0 te As (kFr c.K x)) : Exp c W0 te As (kDs c.K x) := exp_w h fun _ _ _ => fr_ds
/-! {} -/
theorem e_dnew {te : TE} (ht : te = fun _ H Q => ∀ p, H p = none → Q (.ref p) (upd H p (DKy.ho ([] : List (κ × V))))) : Exp c W0 te As (kNw c.K (Dk.mk ([] : List (κ × α)))) := fun σ W a W1 e Q q => by
  subst ht
  exact fun p hp => q _ (W1.no p _ hp (ho_mut _)) (Le.no hp) ⟨[p], ⟨p, [], rfl, rfl, W1.sub.nope hp, upd_same, trivial, Nat.zero_le _⟩, fun a ha => by rw [List.mem_singleton.mp ha]; exact hp⟩
/-! d[k], k in d -/
def rDGet : R2 := fun x y H Q => ∃ a v, x = .ref a ∧ DGet H a y (some v) ∧ Q v H
def rDIn : R2 := fun y x H Q => ∃ a o, x = .ref a ∧ DGet H a y o ∧ Q (.bl o.isSome) H
def rDNi : R2 := fun y x H Q => ∃ a o, x = .ref a ∧ DGet H a y o ∧ Q (.bl (!o.isSome)) H
@[irreducible] def R.dget (x : Dk κ α) (k : κ) : R α := match dval x.l k with
  | some a => .ok a
  | none => .no
theorem o_dget : Op2 rDGet (fun x : Dk κ α => kDs K x) (fun k : κ => kFr K k) R.dget (fun a : α => kFr K a) := fun x k => by
  unfold R.dget
  cases h : dval x.l k with
  | none => trivial
  | some a =>
    intro W0 W v w ⟨p, q, ev, hp, d, l⟩ hw Q qq
    obtain ⟨u, eu, ru⟩ := d.some h
    refine ⟨p, u, ev, ?_, qq u W (Le.refl _) ru⟩
    have := DKy.get hw W.sub hp
    rw [eu] at this
    exact this
theorem o_din : Op2 rDIn (fun k : κ => kFr K k) (fun x : Dk κ α => kDs K x) (fun k x => .ok (dval x.l k).isSome) (fun b : Bool => kFr K b) := fun k x W0 W w v hw ⟨p, q, ev, hp, d, l⟩ Q qq =>
  ⟨p, _, ev, DKy.get hw W.sub hp, qq _ W (Le.refl _) (show V.bl _ = V.bl _ by rw [d.isSome])⟩
theorem o_dni : Op2 rDNi (fun k : κ => kFr K k) (fun x : Dk κ α => kDs K x) (fun k x => .ok (!(dval x.l k).isSome)) (fun b : Bool => kFr K b) := fun k x W0 W w v hw ⟨p, q, ev, hp, d, l⟩ Q qq =>
  ⟨p, _, ev, DKy.get hw W.sub hp, qq _ W (Le.refl _) (show V.bl _ = V.bl _ by rw [d.isSome])⟩
/-! d.get(k, x), d.get(k) -/
/-! d[k] = v -/
@[irreducible] def R.dput (x : Dk κ α) (k : κ) (a : α) : R (Dk κ α) := if x.l.length < sizeLine then .ok ⟨Fw.dput x.l k a⟩ else .no
variable {J S ρ : Type} {kr : ρ → Kd} {Ls : List Sl} {Js : J → List Sl} {B : Bd} {Bs : S → List Sl}
theorem d_dput {pin : Option V} {te ti : TE} {u : TS} {xs : Dk κ α} {m : R α} {n : R κ} {k : Dk κ α → Out S J ρ} (i : Nat) (hi : As[i]? = some (.ow pin xs)) (lx : Lx Ls As) (h : Exr c B.W0 X te As m fun x => kFr c.K x) (hn : Exr c B.W0 X ti As n fun x => kFr c.K x)
    (hk : ∀ ys : Dk κ α, Den c X kr Ls Js B u (As.set i (.ow pin ys)) (k ys) Bs) :
    Den c X kr Ls Js B (tSeq (sDPut (tVar i) ti te) u) As (m.to fun y => n.to fun j => (R.dput xs j y).to k) Bs := fun D σ W a f => by
  have h' := h σ W a
  have hn' := hn σ W a
  cases m with
  | no => exact False.elim f
  | ex e => exact h' W (Le.refl _) _ fun cls d W2 e2 z => f cls d σ W2 (lx_at lx (a.mono e2)) z
  | ok y =>
    refine h' W (Le.refl _) _ fun v W1 e1 r => ?_
    obtain ⟨w, fp, hw, rw_, _⟩ := (a.mono e1).chg (β := Dk κ α) (y := xs) hi
    refine ⟨w, hw, ?_⟩
    cases n with
    | no => exact False.elim f
    | ex e => exact hn' W1 e1 _ fun cls d W2 e2 z => f cls d σ W2 (lx_at lx (a.mono (e1.trans e2))) z
    | ok j =>
      refine hn' W1 e1 _ fun jv W2 e2 rj => ?_
      obtain ⟨w', fp', hw', rw', n0', chg'⟩ := (a.mono (e1.trans e2)).chg (β := Dk κ α) (y := ⟨Fw.dput xs.l j y⟩) hi
      rw [hw] at hw'
      cases hw'
      obtain ⟨p, q, ep, ef, g, hh, d, l⟩ := rw'
      subst ep ef
      have f' : Fin c X kr Ls Js B Bs D (R.to (if xs.l.length < sizeLine then R.ok ⟨Fw.dput xs.l j y⟩ else .no) k) := by
        have f2 : Fin c X kr Ls Js B Bs D ((R.dput xs j y).to k) := f
        unfold R.dput at f2
        exact f2
      by_cases cz : xs.l.length < sizeLine
      · rw [if_pos cz] at f'
        refine ⟨p, _, rfl, DKy.put (v := v) rj W2.sub hh (by rw [← d.len]; exact cz), ?_⟩
        have a3 := chg' (W2.mt p (DKy.ho (putK q j v)) g (ho_mut _)) [p] (Inc.refl _) (fun b _ hb _ => hb) (fun b hb n => mut_keep g b hb n) ⟨p, _, rfl, rfl, g, upd_same, d.put (Rp.mono e2.g r), Nat.le_trans (dput_len _ _ _) cz⟩ (fun b hb => .inl hb)
        exact hk _ D _ _ a3 f'
      · rw [if_neg cz] at f'
        exact False.elim f'
end
/-! ### tuples of ints for keys -/
section
variable {c : Cn} {W0 : Wd} {X : WX} {As : List Sl} {K : Frag}
end
end Fw

namespace Fw
open PySem L2
section
open PySem.Spec PyProof.Rows
variable {prog : Program} {w : World} {A : Around} {E : Value → Shared → Prop}
end
section
open PySem.Spec PyProof.Rows
variable {X : Cx}
end
/-! ### a tuple known to have no dict of its own -/
structure TZ (α : Type) where
  l : List α
deriving DecidableEq
section
variable {α : Type} [Rp α] {c : Cn} {W0 : Wd} {X : WX} {As : List Sl} {K : Frag}
instance : Rp (TZ α) := ⟨fun K x v G => ∃ p o vs, v = .ref p ∧ G p = some (.frz o (.tup vs)) ∧ o.cls = .type "tuple" ∧ o.dict = none ∧ Al (fun x v => Rp.rep K x v G) x.l vs ∧ x.l.length ≤ sizeLine, fun s ⟨p, o, vs, e, h, h1, h2, a, l⟩ => ⟨p, o, vs, e, s _ _ h, h1, h2, a.imp fun _ _ r => Rp.mono s r, l⟩⟩
theorem tz_tup {x : TZ α} {v : V} {G : Hp} (h : Rp.rep K x v G) : Rp.rep K (Tup.mk x.l) v G := by
  obtain ⟨p, o, vs, e, h, h1, h2, a, l⟩ := h
  exact ⟨p, vs, e, .inl (.inr ⟨o, h⟩), a, l⟩
end
end Fw

namespace Fw
open PySem L2
section
variable {α : Type} [Rp α]
instance : Pt (TZ α) := ⟨"tuple", fun h => Pt.is (tz_tup h)⟩
instance [Pd α] : Pd (TZ α) := ⟨fun x => Pd.pd (Tup.mk x.l), fun h => Pd.dp (tz_tup h), Pd.n (Tup α), fun h => Pd.dep (tz_tup h), fun h => Pd.lay (tz_tup h), fun x y => by
  rw [Pd.eq]; cases x; cases y; simp⟩
instance : NN (TZ α) := ⟨fun h => NN.nn (tz_tup h)⟩
instance [Pd α] : Apart Str (TZ α) := ⟨fun _ _ => by simp [Pd.pd, PyData.eqv], fun _ _ => by simp [Pd.pd, PyData.eqv]⟩
instance : Pt TK := ⟨"tuple", fun h => Pt.is (tk_tup h)⟩
instance : Pd TK := ⟨fun x => Pd.pd (Tup.mk x.l), fun h => Pd.dp (tk_tup h), Pd.n (Tup Int), fun h => Pd.dep (tk_tup h), fun h => Pd.lay (tk_tup h), fun x y => by
  rw [Pd.eq]; cases x; cases y; simp⟩
instance : NN TK := ⟨fun h => NN.nn (tk_tup h)⟩
end
section
variable {X : Cx} {o i e f : Expr} {pos apos cpos : Pos} {td ty tx : TE}
theorem hu1 {A : Around} {k : Nat} (hr : Room k A) : A.units + 1 < cLine := by have := hr.un; omega
theorem pe_dgetO (hu : X.A.units + 1 < cLine) (ho : PE X o td) (hi : PE X i ty) (hs : NoSl i := by exact fun _ _ => rfl) : PE X (.Subscript o i pos) (tOp rDGet td ty) := pe_dget hu ho hi hs
theorem pc_dinO (hu : X.A.units + 1 < cLine) (hi : PE X i ty) (ho : PE X o td) : PC X .In i o (tOp rDIn ty td) := pc_din hu hi ho
theorem pc_dniO (hu : X.A.units + 1 < cLine) (hi : PE X i ty) (ho : PE X o td) : PC X .NotIn i o (tOp rDNi ty td) := pc_dnotin hu hi ho
end
end Fw

namespace Fw
open PySem L2
section
variable {α : Type} [Rp α] {c : Cn} {W0 : Wd} {X : WX} {As : List Sl} {K : Frag}
/-! ### a list none of whose items is None -/
/-! ### == of None or a thing -/
class AN (α : Type) [Rp α] [Pd α] where
  l : ∀ a : α, PyData.eqv .none (Pd.pd a) = false
  r : ∀ a : α, PyData.eqv (Pd.pd a) .none = false
instance : AN Int := ⟨fun _ => by simp [Pd.pd, PyData.eqv], fun _ => by simp [Pd.pd, PyData.eqv]⟩
instance : AN Str := ⟨fun _ => by simp [Pd.pd, PyData.eqv], fun _ => by simp [Pd.pd, PyData.eqv]⟩
instance : AN Bool := ⟨fun _ => by simp [Pd.pd, PyData.eqv], fun _ => by simp [Pd.pd, PyData.eqv]⟩
instance [Pd α] : AN (List α) := ⟨fun _ => by simp [Pd.pd, PyData.eqv], fun _ => by simp [Pd.pd, PyData.eqv]⟩
instance {β : Type} [Rp β] [Pd α] [Pd β] : AN (α × β) := ⟨fun _ => by simp [Pd.pd, PyData.eqv], fun _ => by simp [Pd.pd, PyData.eqv]⟩
instance {β γ : Type} [Rp β] [Rp γ] [Pd α] [Pd β] [Pd γ] : AN (T3 α β γ) := ⟨fun _ => by simp [Pd.pd, PyData.eqv], fun _ => by simp [Pd.pd, PyData.eqv]⟩
instance {β γ δ : Type} [Rp β] [Rp γ] [Rp δ] [Pd α] [Pd β] [Pd γ] [Pd δ] : AN (T4 α β γ δ) := ⟨fun _ => by simp [Pd.pd, PyData.eqv], fun _ => by simp [Pd.pd, PyData.eqv]⟩
instance [Pd α] [AN α] : Pd (Option α) where
  pd x := match x with
    | none => .none
    | some a => Pd.pd a
  dp := fun {K x v G} h => by
    cases x with
    | none => have h' : v = .non := h; subst h'; exact .non
    | some a => exact Pd.dp (α := α) h.2
  n := Pd.n α
  dep := fun {K x v G} h => by
    cases x with
    | none => simp [PyData.depth]
    | some a => exact Pd.dep (α := α) h.2
  lay := fun {K x v G} h => by
    cases x with
    | none => simp [PyData.canLay0]
    | some a => exact Pd.lay (α := α) h.2
  eq x y := by
    cases x with
    | none =>
      cases y with
      | none => simp [PyData.eqv]
      | some b => simp [AN.l]
    | some a =>
      cases y with
      | none => simp [AN.r]
      | some b => simp [Pd.eq]
/-! ### x in a tuple of flat things -/
class Fl (α : Type) [Rp α] extends Eqs α where
  fl : ∀ x : α, flatV (Eqs.v x) = true
  dec : [DecidableEq α] → ∀ x y : α, eqV (Eqs.v y) (Eqs.v x) = decide (x = y)
instance : Fl Str := ⟨fun _ => rfl, fun x y => by
  simp only [Eqs.v, eqV]
  rw [Bool.eq_iff_iff]
  exact ⟨fun h => decide_eq_true (eq_of_beq h).symm, fun h => by have e := of_decide_eq_true h; subst e; simp⟩⟩
instance : Fl Int := ⟨fun _ => rfl, fun x y => by
  simp only [Eqs.v, eqV]
  rw [Bool.eq_iff_iff]
  exact ⟨fun h => decide_eq_true (eq_of_beq h).symm, fun h => by have e := of_decide_eq_true h; subst e; simp⟩⟩
variable [DecidableEq α] [Fl α]
end
end Fw

namespace Fw
open PySem L2
/-! ### what is owned, looked at as frozen, where only a scalar comes out -/
inductive FzW : List Sl → List Sl → Prop
  | nil : FzW [] []
  | un {As Bs : List Sl} : FzW As Bs → FzW (.un :: As) (.un :: Bs)
  | fr {α : Type} [Rp α] {x : α} {As Bs : List Sl} : FzW As Bs → FzW (.fr x :: As) (.fr x :: Bs)
  | ow {α : Type} [Fz α] {pin : Option V} {x : α} {As Bs : List Sl} : FzW As Bs → FzW (.ow pin x :: As) (.fr x :: Bs)
theorem FzW.len {As Bs : List Sl} (h : FzW As Bs) : As.length = Bs.length := by
  induction h with
  | nil => rfl
  | un _ ih => exact congrArg (· + 1) ih
  | fr _ ih => exact congrArg (· + 1) ih
  | ow _ ih => exact congrArg (· + 1) ih
theorem FzW.at {K : Frag} {W : Wd} {As Bs : List Sl} (h : FzW As Bs) : ∀ {σ : St}, (∀ (i : Nat) A o, As[i]? = some A → σ[i]? = some o → ∃ f, Hd K A o W f) → ∀ (i : Nat) B o, Bs[i]? = some B → σ[i]? = some o → Hd K B o (.all W.H) [] := by
  induction h with
  | nil => intro σ _ i B o e; simp at e
  | @un As Bs _ ih =>
    intro σ hh i B o e1 e2
    cases σ with
    | nil => simp at e2
    | cons s σ =>
      cases i with
      | zero => cases e1; trivial
      | succ i => exact ih (σ := σ) (fun j A o a b => hh (j + 1) A o a b) i B o e1 e2
  | @fr α _ x As Bs _ ih =>
    intro σ hh i B o e1 e2
    cases σ with
    | nil => simp at e2
    | cons s σ =>
      cases i with
      | zero =>
        cases e1
        obtain ⟨f, v, e, r⟩ := hh 0 _ o rfl e2
        exact ⟨v, e, Rp.mono W.sub r⟩
      | succ i => exact ih (σ := σ) (fun j A o a b => hh (j + 1) A o a b) i B o e1 e2
  | @ow α _ pin x As Bs _ ih =>
    intro σ hh i B o e1 e2
    cases σ with
    | nil => simp at e2
    | cons s σ =>
      cases i with
      | zero =>
        cases e1
        obtain ⟨f, v, e, r, _⟩ := hh 0 _ o rfl e2
        exact ⟨v, e, own_bw (A := W) r⟩
      | succ i => exact ih (σ := σ) (fun j A o a b => hh (j + 1) A o a b) i B o e1 e2
section
variable {c : Cn} {W0 : Wd} {X : WX} {As Bs : List Sl} {ρ : Type}
end
/-! ### a list of lists, all its own -/
structure DL (α : Type) where
  l : List (List α)
deriving DecidableEq
section
variable {α : Type} [Rp α] {K : Frag}
def DRow (K : Frag) (xs : List α) (q : Addr) (W : Wd) : Prop := W.G q = none ∧ ∃ vs, W.H q = some (.lst vs) ∧ Al (fun x v => Rp.rep K x v W.G) xs vs ∧ xs.length ≤ sizeLine
def DRows (K : Frag) : List (List α) → List Addr → Wd → Prop
  | [], [], _ => True
  | xs :: r, q :: qs, W => DRow K xs q W ∧ DRows K r qs W
  | _, _, _ => False
theorem DRow.keep {W W' : Wd} {xs : List α} {q : Addr} (h : DRow K xs q W) (s : Inc W.G W'.G) (n : W'.G q = none) (k : W'.H q = W.H q) : DRow K xs q W' := by
  obtain ⟨g, vs, hh, al, l⟩ := h
  exact ⟨n, vs, k.trans hh, al.imp fun _ _ r => Rp.mono s r, l⟩
theorem DRows.keep {W W' : Wd} : ∀ {xs : List (List α)} {qs : List Addr}, DRows K xs qs W → Inc W.G W'.G → (∀ q ∈ qs, W'.G q = none) → (∀ q ∈ qs, W'.H q = W.H q) → DRows K xs qs W'
  | [], [], _, _, _, _ => trivial
  | x :: xs, q :: qs, h, s, n, k => ⟨h.1.keep s (n q (by simp)) (k q (by simp)), DRows.keep h.2 s (fun b hb => n b (List.mem_cons_of_mem _ hb)) fun b hb => k b (List.mem_cons_of_mem _ hb)⟩
  | [], _ :: _, h, _, _, _ => h.elim
  | _ :: _, [], h, _, _, _ => h.elim
theorem DRows.len {W : Wd} : ∀ {xs : List (List α)} {qs : List Addr}, DRows K xs qs W → xs.length = qs.length
  | [], [], _ => rfl
  | x :: xs, q :: qs, h => by rw [List.length_cons, List.length_cons, h.2.len]
  | [], _ :: _, h => h.elim
  | _ :: _, [], h => h.elim
theorem DRows.foot {W : Wd} : ∀ {xs : List (List α)} {qs : List Addr}, DRows K xs qs W → ∀ q ∈ qs, W.G q = none ∧ W.H q ≠ none
  | [], [], _, q, hq => by cases hq
  | x :: xs, b :: qs, h, q, hq => by
    rcases List.mem_cons.mp hq with e | hq
    · subst e
      obtain ⟨g, vs, hh, _⟩ := h.1
      exact ⟨g, by rw [hh]; exact fun z => nomatch z⟩
    · exact h.2.foot q hq
  | [], _ :: _, h, _, _ => h.elim
  | _ :: _, [], h, _, _ => h.elim
theorem DRows.snoc {W : Wd} {y : List α} {b : Addr} (r : DRow K y b W) : ∀ {xs : List (List α)} {qs : List Addr}, DRows K xs qs W → DRows K (xs ++ [y]) (qs ++ [b]) W
  | [], [], _ => ⟨r, trivial⟩
  | x :: xs, q :: qs, h => ⟨h.1, DRows.snoc r h.2⟩
  | [], _ :: _, h => h.elim
  | _ :: _, [], h => h.elim
theorem DRows.get {W : Wd} : ∀ {xs : List (List α)} {qs : List Addr} {i : Nat} {x : List α}, DRows K xs qs W → xs[i]? = some x → ∃ q, qs[i]? = some q ∧ DRow K x q W
  | x :: xs, q :: qs, 0, y, h, e => by cases e; exact ⟨q, rfl, h.1⟩
  | x :: xs, q :: qs, i + 1, y, h, e => DRows.get (i := i) h.2 e
  | [], [], i, y, h, e => by simp at e
  | [], _ :: _, _, _, h, _ => h.elim
  | _ :: _, [], _, _, h, _ => h.elim
/-- one row is another one now, the others as they were -/
theorem DRows.put {W W' : Wd} {y : List α} {b : Addr} (r : DRow K y b W') (s : Inc W.G W'.G) (hk : ∀ q, q ≠ b → W.G q = none → W.H q ≠ none → W'.G q = none ∧ W'.H q = W.H q) : ∀ {xs : List (List α)} {qs : List Addr} {i : Nat}, DRows K xs qs W → qs[i]? = some b → qs.Nodup → DRows K (xs.set i y) qs W'
  | x :: xs, q :: qs, 0, h, e, nd => by
    cases e
    refine ⟨r, h.2.keep s (fun c hc => ?_) fun c hc => ?_⟩
    · exact (hk c (fun z => by rw [z] at hc; exact (List.nodup_cons.mp nd).1 hc) (h.2.foot c hc).1 (h.2.foot c hc).2).1
    · exact (hk c (fun z => by rw [z] at hc; exact (List.nodup_cons.mp nd).1 hc) (h.2.foot c hc).1 (h.2.foot c hc).2).2
  | x :: xs, q :: qs, i + 1, h, e, nd => by
    have hq : q ≠ b := fun z => by
      subst z
      exact (List.nodup_cons.mp nd).1 (List.mem_of_getElem? (i := i) e)
    have f : W.G q = none ∧ W.H q ≠ none := (show DRows K (x :: xs) (q :: qs) W from h).foot q (by simp)
    exact ⟨h.1.keep s (hk q hq f.1 f.2).1 (hk q hq f.1 f.2).2, DRows.put (i := i) r s hk h.2 e (List.nodup_cons.mp nd).2⟩
  | [], [], _, _, e, _ => by simp at e
  | [], _ :: _, _, h, _, _ => h.elim
  | _ :: _, [], _, h, _, _ => h.elim
theorem DRows.rep {W : Wd} {G : Hp} (s : Inc W.G G) : ∀ {xs : List (List α)} {qs : List Addr}, DRows K xs qs W → (∀ q ∈ qs, G q = W.H q) → Al (fun x v => Rp.rep K x v G) xs (qs.map V.ref)
  | [], [], _, _ => Al.nil
  | x :: xs, q :: qs, h, k => by
    obtain ⟨g, vs, hh, al, l⟩ := h.1
    exact (DRows.rep s h.2 fun b hb => k b (List.mem_cons_of_mem _ hb)).cons ⟨q, vs, rfl, (k q (by simp)).trans hh, al.imp fun _ _ r => Rp.mono s r, l⟩
  | [], _ :: _, h, _ => h.elim
  | _ :: _, [], h, _ => h.elim
instance : Rp (DL α) := ⟨fun K x v G => Rp.rep K x.l v G, fun s h => Rp.mono s h⟩
def ownDL (K : Frag) (x : DL α) (v : V) (f : List Addr) (W : Wd) : Prop := ∃ p qs, v = .ref p ∧ f = p :: qs ∧ (p :: qs).Nodup ∧ W.G p = none ∧ W.H p = some (.lst (qs.map V.ref)) ∧ DRows K x.l qs W ∧ x.l.length ≤ sizeLine
instance : Fz (DL α) where
  own := ownDL
  keep := fun {K x v f W W'} ⟨p, qs, e, ef, nd, g, h, r, l⟩ s n k => by
    subst ef
    exact ⟨p, qs, e, rfl, nd, n p (by simp), (k p (by simp)).trans h, r.keep s (fun q hq => n q (List.mem_cons_of_mem _ hq)) fun q hq => k q (List.mem_cons_of_mem _ hq), l⟩
  foot := fun {K x v f W} ⟨p, qs, e, ef, nd, g, h, r, l⟩ b hb => by
    subst ef
    rcases List.mem_cons.mp hb with z | hb
    · subst z
      exact ⟨g, by rw [h]; exact fun z => nomatch z⟩
    · exact r.foot b hb
  fz := fun {K x v f W} ⟨p, qs, e, ef, nd, g, h, r, l⟩ => by
    subst ef
    exact ⟨p, _, e, (Wd.fz_in (by simp)).trans h, r.rep Wd.fz_sub fun q hq => Wd.fz_in (List.mem_cons_of_mem _ hq), l⟩
variable {c : Cn} {W0 : Wd} {X : WX} {As : List Sl}
variable {J S ρ : Type} {kr : ρ → Kd} {Ls : List Sl} {Js : J → List Sl} {B : Bd} {Bs : S → List Sl}
end
/-! ### an owned thing goes into another one -/
section
variable {K : Frag} {W0 W W' : Wd} {As : List Sl} {σ : St} {i j : Nat}
end
section
variable {α : Type} [Rp α] {c : Cn} {W0 : Wd} {X : WX} {As : List Sl}
variable {J S ρ : Type} {kr : ρ → Kd} {Ls : List Sl} {Js : J → List Sl} {B : Bd} {Bs : S → List Sl}
@[irreducible] def R.has (x : DL α) (n : Nat) : R Unit := if n < x.l.length then .ok () else .no
end
end Fw

namespace Fw
open PySem L2
section
variable {K : Frag} {W0 W : Wd} {As : List Sl} {σ : St} {i : Nat}
end
section
variable {J S T ρ α : Type} {c : Cn} {X : WX} {kr : ρ → Kd} {Ls : List Sl} {Js : J → List Sl} {B : Bd} {As : List Sl} {Cs : T → List Sl} {Bs' : S → List Sl}
end
end Fw

namespace Fw
open PySem L2
section
variable {X : Cx} {o e : Expr} {to te : TE}
end
end Fw

namespace Fw
open PySem L2
section
variable {α : Type} [Rp α] {c : Cn} {W0 : Wd} {X : WX} {As : List Sl} {K : Frag}
/-! ### t[a:b] of a tuple -/
/-! ### t + u -/
/-! ### tuple(range(n)) -/
theorem al_rg (n : Int) : Al (fun (x : Int) v => Rp.rep K x v (fun _ => none)) (rng 0 n) (rgV 0 n) := ⟨by rw [rng_len, rgV_length], fun i x v h1 h2 => by
  obtain ⟨h3, h4⟩ := rng_get h1
  unfold rgV at h2
  rw [List.getElem?_map, List.getElem?_range h3] at h2
  cases h2
  rw [h4]
  rfl⟩
/-! ### reversed(range(n)) -/
end
section
variable {c : Cn} {W0 : Wd} {X : WX} {As : List Sl} {K : Frag}
/-! ### range(a, b, d), d written, above 0 -/
end
end Fw

namespace Fw
open PySem L2
section
variable {K : Frag}
/-! ### great ints -/
instance : DecidableRel CDivW := fun i j => inferInstanceAs (Decidable (_ ∧ _))
instance : DecidableRel CMulW := fun i j => inferInstanceAs (Decidable (_ < _))
@[irreducible] def R.mulW (x y : Int) : R Int := if x.natAbs.log2 + y.natAbs.log2 < 1000000 then .ok (x * y) else .no
theorem o_mulW : Op2 (rI CMulW fun i j => .int (i * j)) (fun x : Int => kFr K x) (fun x : Int => kFr K x) R.mulW (fun z : Int => kFr K z) := o_of fun x y => by unfold R.mulW; rfl
end
end Fw

namespace Fw
open PySem L2
section
variable {c : Cn} {W0 : Wd} {X : WX} {As : List Sl} {K : Frag}
/-! ### range(a, b, d) -/
/-! ### {k: v, ..}, the keys ints -/
end
/-! ### lengths of tuples of three and four -/
section
variable {K : Frag} {α β γ δ : Type} [Rp α] [Rp β] [Rp γ] [Rp δ]
end
end Fw

namespace Fw
open PySem L2 PySem.Spec
open PyProof.Rows hiding St
/-! ### a caught exception that is kept -/
def exN (a C : Addr) (d : Option Addr) : HO := .ext fun h => ∃ (oe : Obj) (vs : Array Value), h.get? a = some oe ∧ oe.cls = .ref C ∧ oe.dict = d ∧ oe.data = .fields vs
section
variable {X : Cx} {pins : List (Addr × Obj)} {σ : St} {H : Hp} {sI s s' : Shared} {B : Heap} {W : WX} {E : XK}
end
section
variable {X : Cx} {x n : Str} {c : Value} {i : Nat} {body suite : List Stmt} {b₀ : Stmt} {np pos pos' : Pos} {tb : WX → TS} {ts : TS}
end
/-! ### isinstance of a kept exception, its fields -/
section
variable {prog : Program} {w : World} {A : Around} {E : Value → Shared → Prop} {s : Shared} {K : Frag} {x D : Addr} {ox : Obj} {od : Option Obj}
open PySem.W PySem.Calls
end
/-! ### __init__ of an own class: B.__init__(self, ..), self.f = x -/
end Fw

namespace Fw
open PySem L2
/-! ### exceptions of own classes -/
/-- the value of a name at the top -/
def mK (K : Frag) : Str → Value := fun n => match PySem.W.nsIn K mainGlobals n with
  | some (some v) => v
  | _ => .none
theorem ExD.mono {fs : List (Str × V)} {d : Option Addr} {G H : Hp} (s : Inc G H) (h : ExD fs d G) : ExD fs d H := by
  cases fs with
  | nil => exact h
  | cons p r =>
    obtain ⟨a, e, g⟩ := h
    exact ⟨a, e, s _ _ g⟩
instance : Rp Exc := ⟨fun K e v G => ∃ a C d, v = .ref a ∧ PySem.W.nsIn K mainGlobals e.cls = some (some (.ref C)) ∧ G a = some (exN a C d) ∧ ExD e.fs d G ∧ ∀ p ∈ e.fs, VOk p.2,
  fun s ⟨a, C, d, h1, h2, h3, h4, h5⟩ => ⟨a, C, d, h1, h2, s _ _ h3, h4.mono s, h5⟩⟩
/-- what may be a field -/
class Sv (α : Type) [Rp α] where
  toV : α → V
  ofV : V → R α
  rep : ∀ {K : Frag} {x : α} {v : V} {G : Hp}, Rp.rep K x v G → v = toV x ∧ VOk v
  back : ∀ {K : Frag} {x : α} {v : V} {G : Hp}, ofV v = .ok x → VOk v → Rp.rep K x v G
  nex : ∀ {v : V} {e : Exc}, ofV v ≠ .ex e
instance : Sv Int := ⟨fun x => .int x, fun v => match v with | .int x => .ok x | _ => .no, fun h => ⟨h, by rw [show _ = V.int _ from h]; trivial⟩, fun {K x v G} h _ => by
  cases v <;> first | (cases h; done) | (injection h with h; subst h; rfl), fun {v e} h => by cases v <;> cases h⟩
instance : Sv Str := ⟨fun x => .str x, fun v => match v with | .str x => .ok x | _ => .no, fun h => ⟨h.1, by rw [h.1]; exact h.2⟩, fun {K x v G} h o => by
  cases v <;> first | (cases h; done) | (injection h with h; subst h; exact ⟨rfl, o⟩), fun {v e} h => by cases v <;> cases h⟩
class Fv (τ : Type) [Args τ] where
  vs : τ → List V
  rep : ∀ {K : Frag} {x : τ} {ws : List V} {G : Hp}, Args.reps K x ws G → ws = vs x ∧ ∀ v ∈ ws, VOk v
instance : Fv Unit := ⟨fun _ => [], fun {K x ws G} h => by
  have h' : ws = [] := h
  subst h'
  exact ⟨rfl, fun v hv => absurd hv (by simp)⟩⟩
instance {α τ : Type} [Rp α] [Sv α] [Args τ] [Fv τ] : Fv (α × τ) := ⟨fun x => Sv.toV x.1 :: Fv.vs x.2, fun {K x ws G} ⟨v, r, e, h1, h2⟩ => by
  subst e
  obtain ⟨a, b⟩ := Fv.rep h2
  obtain ⟨c, d⟩ := Sv.rep h1
  exact ⟨by rw [a, c], fun u hu => by
    rcases List.mem_cons.mp hu with z | z
    · rw [z]; exact d
    · exact b u z⟩⟩
/-- .. as it is found through its class -/
structure Ini (P : Program) (w : World) (K : Frag) (mg : Str → Option Value) (base : Heap) (C : Addr) (k : Nat) (ps : List Str) (sp : Sp) : Prop where
  ex : ∃ (f : Addr) (fd : FuncData), PySem.W.findIn K (.ref C) "__init__" = some (some (.ref f)) ∧ PySem.W.typeIn K (.ref f) = some (.type "function") ∧ Binds K fd ps [] ∧ FnOk P w K mg base (L2.CX P w) k f fd ps sp
section
variable {J S T U ρ α β γ τ : Type} {c : Cn} {X : WX} {kr : ρ → Kd} {Ls : List Sl} {Js : J → List Sl} {B : Bd} {As : List Sl} {Bs : S → List Sl} {K : Frag} {W0 : Wd}
/-- try -/
def Out.npx (m : Out S J ρ) : Out S J ρ := match m with
  | .ex _ => .no
  | o => o
@[simp] theorem Out.npx_nx (s : S) : (Out.nx s : Out S J ρ).npx = .nx s := rfl
@[simp] theorem Out.npx_rt (r : ρ) : (Out.rt r : Out S J ρ).npx = .rt r := rfl
def Bd.tr (B : Bd) : Bd := ⟨B.W0, B.Wo, B.W0, B.le, Le.refl _⟩
end
/-! ### __init__: B.__init__(self, 'text'); self.f = x -/
section
variable {K : Frag} {C : Addr} {N : List Str} {vs : List V} {H : Hp} {Q : VK} {E : XK} {s : Str}
end
/-! ### the end of a law, with the classes -/
/-! ### classes -/
structure ExK (K : Frag) (n : Str) (C : Addr) : Prop where
  ns : PySem.W.nsIn K mainGlobals n = some (some (.ref C))
  o : OexC K C
  e : ExcC K C
  x : XfC K C
theorem ExK.only {K : Frag} {n : Str} {C D : Addr} (h : ExK K n C) (e : PySem.W.nsIn K mainGlobals n = some (some (.ref D))) : D = C := by
  rw [h.ns] at e
  cases e
  rfl
/-! ### tables of the classes that are raised -/
end Fw

namespace Fw
open PySem L2 PySem.Spec
open PyProof.Rows hiding St
/-! ### isinstance(e, (C, D, ..)) -/
section
variable {c : Cn} {W0 : Wd} {X : WX} {As : List Sl} {K : Frag}
end
section
variable {K : Frag}
end
instance : NN Exc := ⟨fun ⟨_, _, _, e, _⟩ => by rw [e]; exact fun z => nomatch z⟩
end Fw

namespace Fw
open PySem L2
section
variable {J S T U ρ α β γ δ : Type} {c : Cn} {X : WX} {kr : ρ → Kd} {Ls : List Sl} {Js : J → List Sl} {B : Bd} {As : List Sl} {Bs : S → List Sl} {K : Frag}
/-! ### a, b, c = e -/
def R.to3 (m : R (T3 α β γ)) (k : α → β → γ → Out S J ρ) : Out S J ρ := m.to fun x => k x.a x.b x.c
@[simp] theorem R.to3_ok (x : T3 α β γ) (k : α → β → γ → Out S J ρ) : R.to3 (R.ok x) k = k x.a x.b x.c := rfl
/-! ### partition -/
end
instance {α : Type} [Rp α] : NN (DL α) := ⟨fun {K x v G} h => by
  obtain ⟨p, vs, e, _⟩ := (show Rp.rep K x.l v G from h)
  rw [e]
  exact fun z => nomatch z⟩
end Fw

namespace Fw
open PySem L2
/-! ### sorted -/
/-- two lists in order of the same things are one -/
theorem sorted_uniq {α : Type} {le : α → α → Prop} (anti : ∀ a b, le a b → le b a → a = b) : ∀ {l m : List α}, l.Perm m → l.Pairwise le → m.Pairwise le → l = m
  | [], m, p, _, _ => (List.nil_perm.mp p).symm
  | a :: l, [], p, _, _ => absurd p.length_eq (by simp)
  | a :: l, b :: m, p, h, k => by
    obtain ⟨h1, h2⟩ := List.pairwise_cons.mp h
    obtain ⟨k1, k2⟩ := List.pairwise_cons.mp k
    have e : a = b := by
      have ma : a ∈ b :: m := p.mem_iff.mp List.mem_cons_self
      have mb : b ∈ a :: l := p.mem_iff.mpr List.mem_cons_self
      rcases List.mem_cons.mp ma with e | ma
      · exact e
      · rcases List.mem_cons.mp mb with e | mb
        · exact e.symm
        · exact anti _ _ (h1 _ mb) (k1 _ ma)
    subst e
    exact congrArg (a :: ·) (sorted_uniq anti (List.Perm.cons_inv p) h2 k2)
section
variable {K : Frag}
end
section
variable {K : Frag} {α : Type} [Rp α]
end
end Fw

namespace Fw
open PySem L2 PyProof.Rows PySem.Calls
/-! ### sorted(xs, key=f) -/
/-- the datum d is read of v, wherever what is tracked stands -/
def RdD (K : Frag) (d : PyData) (v : V) (H : Hp) : Prop := ∀ (P : Program) (w : World) (h : Heap) (u : Value), K.In h → HOk P w H h → RelV v u → Reads h u d []
theorem each_of {α β : Type} {R : α → β → Prop} : ∀ {as : List α} {bs : List β}, as.length = bs.length → (∀ (i : Nat) a b, as[i]? = some a → bs[i]? = some b → R a b) → PySem.W.EachIs R as bs
  | [], [], _, _ => .nil
  | a :: as, b :: bs, l, h => .cons (h 0 a b rfl rfl) (each_of (by simpa using l) fun i x y e1 e2 => h (i + 1) x y (by simpa using e1) (by simpa using e2))
  | [], _ :: _, l, _ => by simp at l
  | _ :: _, [], l, _ => by simp at l
section
variable {X : Cx} {k : Nat} {f : Addr} {fd : FuncData} {ps : List Str} {sp : Sp} {A : Around} {pins : List (Addr × Obj)} {σ : L2.St} {H : Hp} {s : Shared} {a kS : Addr} {e1 : Nat} {xs : List V} {vs : List Value} {kz : List PyData} {E : Value → Shared → Prop} {R : PySem.Fin → Shared → Prop} {P : Nat → List V → Hp → Prop}
end

/-! the keys: a whole number and a tuple of such -/
abbrev KeyT := Int × Tup Int
theorem rd_int {K : Frag} {H : Hp} (i : Int) : RdD K (.int i) (.int i) H := fun P w h u _ _ ⟨t, e⟩ => by
  rw [e]; exact .int i t
theorem reads_all {K : Frag} {H : Hp} {P : Program} {w : World} {h : Heap} (hk : K.In h) (ok : HOk P w H h) : ∀ {ds : List PyData} {vs : List V} {us : List Value}, Al (fun d v => RdD K d v H) ds vs → Vals vs us → ReadsAll h us ds []
  | [], [], _, _, .nil => .nil
  | d :: ds, v :: vs, _, a, .cons (b := u) r t => by
    have h1 := a.2 0 d v rfl rfl _ _ _ u hk ok r
    have h2 := reads_all hk ok (ds := ds) (vs := vs) ⟨by have := a.1; simpa using this, fun i x y e1 e2 => a.2 (i + 1) x y (by simpa using e1) (by simpa using e2)⟩ t
    exact ReadsAll.cons h1 h2
  | [], _ :: _, _, a, _ => absurd a.1 (by simp)
  | _ :: _, [], _, a, _ => absurd a.1 (by simp)
theorem rd_tup {K : Frag} {H : Hp} {p : Addr} {vs : List V} {ds : List PyData} (hp : SqT K H p vs) (al : Al (fun d v => RdD K d v H) ds vs) : RdD K (.tuple ds) (.ref p) H := fun P w h u hk ok e => by
  obtain rfl : u = .ref p := e
  rcases hp with r | ⟨o, its, n, hl, hc, hd, hz, rv⟩
  · obtain ⟨z, its, rv, o, ho, hc, n, hd⟩ := r.ok ok
    exact Reads.tuple ho hc hd (by simpa using reads_all hk ok al rv)
  · exact Reads.tuple (hk p o hl) hc hd (reads_all hk ok al rv)
def keyOf (g : Tup Int → R KeyT) (x : Tup Int) : KeyT := match g x with
  | .ok k => k
  | _ => (0, ⟨[]⟩)
section
variable {c : Cn} {W0 : Wd} {X : WX} {As : List Sl} {f : Addr}
end
end Fw

namespace Fw
open PySem L2
/-! ### a dict is locked for good where it is frozen -/
def tLkS (t : TS) : TS := fun D σ H => ∃ d u, H d = some u ∧ Mut (some u) ∧ ∀ od, t D σ (upd H d (.frz od u))
section
variable {X : Cx}
theorem pss_lk {b : List Stmt} {t : TS} (h : PSs X b t) : PSs X b (tLkS t) := by
  refine ⟨fun pins s σ H D I ⟨d, u, hd, mu, hw⟩ => ?_⟩
  obtain ⟨od, I1⟩ := I.lock hd mu
  exact h.run pins s σ _ D I1 (hw od)
end
theorem Le.lk {A W : Wd} {p : Addr} {o : HO} (e : Le A W) (hg : W.G p = none) (hn : A.H p = none) : Le A (W.nf p o) :=
  ⟨e.g.trans (Inc.new hg), fun b u q => by
    show upd W.H p o b = _
    rw [upd_ne (ne_of_none q hn)]; exact e.h b u q, fun a g n => by
    show upd W.G p o a = none
    rw [upd_ne (fun q => n (by rw [q]; exact hn))]; exact e.o a g n⟩
section
variable {K : Frag} {W0 W : Wd} {As : List Sl} {σ : St} {i : Nat}
theorem At.lk {α : Type} [Rp α] [Ob α] {x : α} {pin : Option V} (h : At K W0 As σ W) (hi : As[i]? = some (.ow pin x)) : ∃ v f, σ[i]? = some (some v) ∧ Ob.own K x v f W ∧
    ∀ p o, f = [p] → Rp.rep K x v (W.nf p o).G → At K W0 (As.set i (.fr x)) σ (W.nf p o) := by
  obtain ⟨l, le, F, h1, h2, h3⟩ := h
  have hl : i < σ.length := l ▸ (List.getElem?_eq_some_iff.mp hi).1
  obtain ⟨v, e, r, _⟩ := h1 i _ _ hi (List.getElem?_eq_getElem hl)
  refine ⟨v, F i, by rw [List.getElem?_eq_getElem hl, e], r, fun p o hf rr => ?_⟩
  have hp : p ∈ F i := by rw [hf]; exact List.mem_singleton.mpr rfl
  have gp := (h3 i p hp).1
  have sb : Inc W.G (W.nf p o).G := Inc.new gp
  refine ⟨by simp [l], le.lk gp (h3 i p hp).2.2, fun j => if j = i then [] else F j, fun j B pp a b => ?_, fun j k a n ha hb => ?_, fun j a ha => ?_⟩
  · by_cases q : i = j
    · subst q
      rw [get_set_eq a]
      rw [List.getElem?_eq_getElem hl, e] at b
      cases b
      exact ⟨v, rfl, rr⟩
    · rw [get_set_ne q] at a
      dsimp only
      rw [if_neg (Ne.symm q)]
      have hd := h1 j B pp a b
      cases B with
      | un => trivial
      | fr x => obtain ⟨v, e1, r⟩ := hd; exact ⟨v, e1, Rp.mono sb r⟩
      | ow x =>
        obtain ⟨v, e1, r, pn⟩ := hd
        have ne : ∀ a ∈ F j, a ≠ p := fun a ha z => h2 j i a (Ne.symm q) ha (by rw [z]; exact hp)
        refine ⟨v, e1, Ob.keep r sb (fun a ha => ?_) (fun a ha => ?_), pn⟩
        · show upd W.G p o a = none
          rw [upd_ne (ne a ha)]
          exact (h3 j a ha).1
        · show upd W.H p o a = W.H a
          exact upd_ne (ne a ha)
  · dsimp only at ha hb
    split at ha
    · cases ha
    · split at hb
      · cases hb
      · exact h2 j k a n ha hb
  · dsimp only at ha
    split at ha
    · cases ha
    · rename_i c
      obtain ⟨g, n, z⟩ := h3 j a ha
      have ne : a ≠ p := fun z => h2 j i a c ha (by rw [z]; exact hp)
      refine ⟨?_, ?_, z⟩
      · show upd W.G p o a = none
        rw [upd_ne ne]; exact g
      · show upd W.H p o a ≠ none
        rw [upd_ne ne]; exact n
end
section
variable {κ α : Type} [DecidableEq κ] [Rp κ] [DKy κ] [Rp α] {c : Cn} {W0 : Wd} {X : WX} {As : List Sl}
variable {J S ρ : Type} {kr : ρ → Kd} {Ls : List Sl} {Js : J → List Sl} {B : Bd} {Bs : S → List Sl}
theorem d_lkD {pin : Option V} {t : TS} {m : Out S J ρ} {x : Dk κ α} (i : Nat) (hi : As[i]? = some (.ow pin x)) (h : Den c X kr Ls Js B t (As.set i (.fr x)) m Bs) : Den c X kr Ls Js B (tLkS t) As m Bs := fun D σ W a f => by
  obtain ⟨v, fp, hv, ⟨p, q, ev, ef, g, hh, d, l⟩, k⟩ := a.lk hi
  exact ⟨p, _, hh, DKy.mu q, fun od => h D σ (W.nf p (.frz od (DKy.ho q))) (k p _ ef ⟨p, q, od, ev, upd_same, d.mono (Inc.new g), l⟩) f⟩
end
/-! ### the keys of a dict, walked -/
section
variable {c : Cn} {W0 : Wd} {X : WX} {As : List Sl} {α : Type} [Rp α]
end
end Fw

namespace Fw
open PySem PySem.Spec PyProof.Rows L2
/-! ### sets of texts: what they are, how they grow -/
def keyT (e : Int × Value) : Str := match e.2 with | .str k _ => k | _ => Str.empty
def GoodT (w : World) (e : Int × Value) : Prop := ∃ k tk, e.2 = Value.str k tk ∧ e.1 = hashStr w k
def SetT (w : World) (h : Heap) (a : Addr) (S : Str → Bool) (n : Nat) : Prop :=
  ∃ o es ep t, h.get? a = some o ∧ o.ExactSet ∧ o.data = .set es ep t ∧ (∀ e ∈ es.toList, GoodT w e) ∧ (es.toList.map keyT).Nodup ∧ (∀ k, S k = true ↔ k ∈ es.toList.map keyT) ∧
    es.size < scanBound ∧ t.fits es.size = true ∧ es.size = n ∧ Ris t.place.toList ∧ (w.params.followText "set-order" = true ∨ t.led = true)
section
variable {P : Program} {w : World} {h h' : Heap} {a : Addr} {S : Str → Bool} {n : Nat}
theorem SetT.at (R : SetT w h a S n) (k : ∀ o, h.get? a = some o → h'.get? a = some o) : SetT w h' a S n := by
  obtain ⟨o, es, ep, t, ho, r⟩ := R
  exact ⟨o, es, ep, t, k o ho, r⟩
theorem SetT.congr {S' : Str → Bool} (R : SetT w h a S n) (e : ∀ k, S' k = S k) : SetT w h a S' n := by
  have q : S' = S := funext e
  rw [q]; exact R
end
section
variable {P : Program} {w : World} {A : Around} {E : Value → Shared → Prop} {s : Shared} {a : Addr} {S : Str → Bool} {n : Nat}
end
section
variable {P : Program} {w : World} {A : Around} {E : Value → Shared → Prop} {s : Shared}
end
end Fw

namespace Fw
open PySem PySem.Spec PyProof.Rows L2
/-! ### sorted(set(xs)), len(set(xs)), xs texts -/
section
variable {α : Type} [DecidableEq α]
/-- each once -/
def uniq : List α → List α
  | [] => []
  | a :: l => if a ∈ l then uniq l else a :: uniq l
theorem uniq_mem (x : α) : ∀ l : List α, x ∈ uniq l ↔ x ∈ l
  | [] => Iff.rfl
  | a :: l => by
    unfold uniq
    split
    · rename_i h
      rw [uniq_mem x l, List.mem_cons]
      exact ⟨.inr, fun z => z.elim (fun e => e ▸ h) id⟩
    · rw [List.mem_cons, List.mem_cons, uniq_mem x l]
theorem uniq_nodup : ∀ l : List α, (uniq l).Nodup
  | [] => List.nodup_nil
  | a :: l => by
    unfold uniq
    split
    · exact uniq_nodup l
    · rename_i h
      exact List.nodup_cons.mpr ⟨fun z => h ((uniq_mem a l).mp z), uniq_nodup l⟩
theorem nodup_perm : ∀ {l m : List α}, l.Nodup → m.Nodup → (∀ x, x ∈ l ↔ x ∈ m) → l.Perm m
  | [], m, _, _, h => by
    cases m with
    | nil => exact List.Perm.refl _
    | cons b m => exact absurd ((h b).mpr List.mem_cons_self) (by simp)
  | a :: l, m, hl, hm, h => by
    obtain ⟨h1, h2⟩ := List.nodup_cons.mp hl
    have ma : a ∈ m := (h a).mp List.mem_cons_self
    have p := List.perm_cons_erase ma
    refine (List.Perm.cons a (nodup_perm h2 (hm.erase a) fun x => ?_)).trans p.symm
    rw [hm.mem_erase_iff]
    constructor
    · intro hx
      exact ⟨fun e => h1 (e ▸ hx), (h x).mp (List.mem_cons_of_mem _ hx)⟩
    · rintro ⟨n, hx⟩
      exact (List.mem_cons.mp ((h x).mpr hx)).resolve_left n
end
section
variable {P : Program} {w : World} {A : Around} {E : Value → Shared → Prop} {s : Shared} {a : Addr}
end
section
variable {X : Cx} {a : Expr} {ta : TE} {p p2 q pos : Pos}
end
section
variable {K : Frag}
end
end Fw

namespace Fw
open PySem PySem.Spec PyProof.Rows L2
/-! ### len of a dict -/
section
variable {K : Frag} {α : Type} [Rp α]
end
end Fw

namespace Fw
open PySem L2
/-! ### defs that change two things handed in, the last two arguments -/
/-- things that stand at one place -/
class ObP (α : Type) extends Ob α where
  one : ∀ {K : Frag} {x : α} {v : V} {f : List Addr} {W : Wd}, own K x v f W → ∃ p, v = .ref p ∧ f = [p]
instance {α : Type} [Rp α] : ObP (List α) where
  one := fun {K x v f W} ⟨p, vs, e, ef, _⟩ => ⟨p, e, ef⟩
instance {κ α : Type} [DecidableEq κ] [Rp κ] [DKy κ] [Rp α] : ObP (Dk κ α) where
  one := fun {K x v f W} ⟨p, q, e, ef, _⟩ => ⟨p, e, ef⟩
section
variable {c : Cn} {W0 : Wd} {X : WX} {As Bs : List Sl} {α β γ τ ρ : Type} [ObP α] [ObP β]
def spIO2 (c : Cn) [Args τ] (f : τ → α → β → R (ρ × (α × β))) (kr : ρ → Kd) : Sp := fun vs H Q E => ∃ (W : Wd) (x : τ) (y : α) (z : β) (vs1 : List V) (p q : Addr),
  W.H = H ∧ vs = vs1 ++ [.ref p, .ref q] ∧ Args.reps c.K x vs1 W.G ∧ Ob.own c.K y (.ref p) [p] W ∧ Ob.own c.K z (.ref q) [q] W ∧ p ≠ q ∧ match f x y z with
    | .ok r => ∀ u (W' : Wd), LeX W [p, q] W' → (kr r.1).p W u W' → Ob.own c.K r.2.1 (.ref p) [p] W' → Ob.own c.K r.2.2 (.ref q) [q] W' → Q u W'.H
    | _ => False
theorem spIO2_len [Args τ] {f : τ → α → β → R (ρ × (α × β))} {kr : ρ → Kd} (vs : List V) (H : Hp) (Q : VK) (E : XK) (h : spIO2 c f kr vs H Q E) : vs.length = Args.num τ + 2 := by
  obtain ⟨W, x, y, z, vs1, p, q, e, ev, r1, _⟩ := h
  rw [ev, List.length_append, Args.len r1]
  rfl
/-- two own things of two slots, both changed -/
theorem At.chg2 {K : Frag} {W : Wd} {σ : St} {y y' : α} {z z' : β} {pi pj : Option V} {i j : Nat} (h : At K W0 As σ W) (ij : i ≠ j) (hi : As[i]? = some (.ow pi y)) (hj : As[j]? = some (.ow pj z)) :
    ∃ p q, σ[i]? = some (some (.ref p)) ∧ σ[j]? = some (some (.ref q)) ∧ Ob.own K y (.ref p) [p] W ∧ Ob.own K z (.ref q) [q] W ∧ p ≠ q ∧ W0.H p = none ∧ W0.H q = none ∧
      ∀ W', LeX W [p, q] W' → Ob.own K y' (.ref p) [p] W' → Ob.own K z' (.ref q) [q] W' → At K W0 ((As.set i (.ow pi y')).set j (.ow pj z')) σ W' := by
  have h0 := h
  obtain ⟨l, le, F, h1, h2, h3⟩ := h
  have li : i < σ.length := l ▸ (List.getElem?_eq_some_iff.mp hi).1
  have lj : j < σ.length := l ▸ (List.getElem?_eq_some_iff.mp hj).1
  obtain ⟨v, ev, rv, pnv⟩ := h1 i _ _ hi (List.getElem?_eq_getElem li)
  obtain ⟨w, ew, rw_, pnw⟩ := h1 j _ _ hj (List.getElem?_eq_getElem lj)
  obtain ⟨p, e1, f1⟩ := ObP.one rv
  obtain ⟨q, e2, f2⟩ := ObP.one rw_
  subst e1 e2
  have np : p ≠ q := fun e => h2 i j p ij (by rw [f1]; exact List.mem_singleton.mpr rfl) (by rw [f2, e]; exact List.mem_singleton.mpr rfl)
  have zp := (h3 i p (by rw [f1]; exact List.mem_singleton.mpr rfl)).2.2
  have zq := (h3 j q (by rw [f2]; exact List.mem_singleton.mpr rfl)).2.2
  have gq := (h3 j q (by rw [f2]; exact List.mem_singleton.mpr rfl))
  rw [f1] at rv
  rw [f2] at rw_
  have si : σ[i]? = some (some (.ref p)) := by rw [List.getElem?_eq_getElem li, ev]
  have sj : σ[j]? = some (some (.ref q)) := by rw [List.getElem?_eq_getElem lj, ew]
  refine ⟨p, q, si, sj, rv, rw_, np, zp, zq, fun W' lx oy oz => ?_⟩
  have g'q := (Ob.foot oz q (List.mem_singleton.mpr rfl)).1
  -- the ground where only the first one is changed
  let W1 : Wd := ⟨W'.G, fun a => if a = q then W.H q else W'.H a, fun a o e => by
    by_cases c : a = q
    · subst c; rw [g'q] at e; cases e
    · dsimp only; rw [if_neg c]; exact W'.sub a o e, fun a u h i => by
    have h' : (if a = q then W.H q else W'.H a) = some u := h
    by_cases c : a = q
    · rw [if_pos c] at h'
      have z := W.im q u h' i
      rw [gq.1] at z; cases z
    · rw [if_neg c] at h'
      exact W'.im a u h' i⟩
  have h1q : W1.H q = W.H q := if_pos rfl
  have h1n : ∀ a, a ≠ q → W1.H a = W'.H a := fun a n => if_neg n
  obtain ⟨v', f', sv', ov', nz, chg⟩ := h0.chg (β := α) (y := y') hi
  rw [si] at sv'
  cases sv'
  obtain ⟨p', e3, e4⟩ := ObP.one ov'
  cases e3
  subst e4
  have a1 : At K W0 (As.set i (.ow pi y')) σ W1 := by
    refine chg W1 [p] lx.g (fun a ha g n => ?_) (fun a ha n => ?_) ?_ (fun a ha => .inl ha)
    · by_cases c : a = q
      · subst c; exact g'q
      · exact lx.o a (by simp only [List.mem_cons, List.not_mem_nil, or_false, not_or]; exact ⟨fun z => ha (List.mem_singleton.mpr z), c⟩) g n
    · by_cases c : a = q
      · subst c; exact h1q
      · rw [h1n a c]
        exact lx.h a (by simp only [List.mem_cons, List.not_mem_nil, or_false, not_or]; exact ⟨fun z => ha (List.mem_singleton.mpr z), c⟩) n
    · exact Ob.keep oy (Inc.refl _) (fun a ha => (Ob.foot oy a ha).1) fun a ha => by
        rw [List.mem_singleton.mp ha]
        exact h1n p np
  have hj' : (As.set i (.ow pi y'))[j]? = some (.ow pj z) := by rw [get_set_ne ij]; exact hj
  obtain ⟨w', g', sw', ow', nw', chg2⟩ := a1.chg (β := β) (y := z') hj'
  rw [sj] at sw'
  cases sw'
  obtain ⟨q', e5, e6⟩ := ObP.one ow'
  cases e5
  subst e6
  refine chg2 W' [q] (Inc.refl _) (fun a ha g n => g) (fun a ha n => ?_) oz (fun a ha => .inl ha)
  exact (h1n a fun z => ha (List.mem_singleton.mpr z)).symm
/-- arguments, the last two one's own things -/
def kIO2 (K : Frag) [Args τ] (a : τ) (w1 w2 : V) : KdA := ⟨fun _ vs W => ∃ vs1, vs = vs1 ++ [w1, w2] ∧ Args.reps K a vs1 W.G, fun ⟨v1, e, r1⟩ q => ⟨v1, e, Args.mono q.g r1⟩, fun _ h => h⟩
def Ax2 (c : Cn) (W0 : Wd) (X : WX) [Args τ] (ta : TA) (As : List Sl) (i j : Nat) (m : R τ) : Prop := ∀ σ W w1 w2, At c.K W0 As σ W → σ[i]? = some (some w1) → σ[j]? = some (some w2) → SatR m (fun z => EvA ta σ W (kIO2 c.K z w1 w2)) (RzA c X ta σ W)
theorem ax2_here {i j : Nat} : Ax2 (τ := Unit) c W0 X (tCons (tVar i) (tCons (tVar j) tNil)) As i j (.ok ()) := fun σ W w1 w2 a h1 h2 => fun W1 e1 Q q => ⟨w1, h1, w2, h2, q _ W1 (Le.refl _) ⟨[], rfl, rfl⟩⟩
theorem ax2_cons [Rp γ] [Args τ] {te : TE} {ta : TA} {i j : Nat} {m : R γ} {n : R τ} (h : Exr c W0 X te As m fun x => kFr c.K x) (hr : Ax2 c W0 X ta As i j n) : Ax2 (τ := γ × τ) c W0 X (tCons te ta) As i j (m.bind fun x => n.bind fun z => .ok (x, z)) := fun σ W w1 w2 a s1 s2 => by
  have h' := h σ W a
  have hr' := hr σ W w1 w2 a s1 s2
  cases m with
  | no => trivial
  | ex e => exact fun W1 e1 Q q => h' W1 e1 _ q
  | ok x =>
    cases n with
    | no => trivial
    | ex e => exact fun W1 e1 Q q => h' W1 e1 _ fun v W2 e2 p => hr' W2 (e1.trans e2) _ fun cls d W3 e3 z => q cls d W3 (e2.trans e3) z
    | ok z => exact fun W1 e1 Q q => h' W1 e1 _ fun v W2 e2 p => hr' W2 (e1.trans e2) _ fun vs W3 e3 ⟨v1, ev, r1⟩ => q _ W3 (e2.trans e3) ⟨v :: v1, by rw [ev]; rfl, ⟨v, v1, rfl, Rp.mono e3.g p, r1⟩⟩
/-- .. the last one made here -/
def kIO2t (K : Frag) [Args τ] (a : τ) (w : V) (b : β) : KdA := ⟨fun A vs W => ∃ vs1 q, vs = vs1 ++ [w, .ref q] ∧ Args.reps K a vs1 W.G ∧ Ob.own K b (.ref q) [q] W ∧ A.H q = none,
  fun ⟨v1, q, e, r1, o, n⟩ z => ⟨v1, q, e, Args.mono z.g r1, own_up o z, n⟩, fun e ⟨v1, q, e1, r1, o, n⟩ => ⟨v1, q, e1, r1, o, e.h.nope n⟩⟩
def Ax2t (c : Cn) (W0 : Wd) (X : WX) [Args τ] (ta : TA) (As : List Sl) (i : Nat) (m : R τ) (b : β) : Prop := ∀ σ W w, At c.K W0 As σ W → σ[i]? = some (some w) → SatR m (fun z => EvA ta σ W (kIO2t c.K z w b)) (RzA c X ta σ W)
theorem ax2t_here {i : Nat} {te : TE} {b : β} (h : Exp c W0 te As (kNw c.K b)) : Ax2t (τ := Unit) c W0 X (tCons (tVar i) (tCons te tNil)) As i (.ok ()) b := fun σ W w a h1 => fun W1 e1 Q q => ⟨w, h1, h σ W a W1 e1 _ fun v W2 e2 ⟨f, o, n⟩ => by
  obtain ⟨p, e3, e4⟩ := ObP.one o
  subst e3 e4
  exact q _ W2 e2 ⟨[], p, rfl, rfl, o, n p (List.mem_singleton.mpr rfl)⟩⟩
theorem ax2t_cons [Rp γ] [Args τ] {te : TE} {ta : TA} {i : Nat} {m : R γ} {n : R τ} {b : β} (h : Exr c W0 X te As m fun x => kFr c.K x) (hr : Ax2t c W0 X ta As i n b) : Ax2t (τ := γ × τ) c W0 X (tCons te ta) As i (m.bind fun x => n.bind fun z => .ok (x, z)) b := fun σ W w a s1 => by
  have h' := h σ W a
  have hr' := hr σ W w a s1
  cases m with
  | no => trivial
  | ex e => exact fun W1 e1 Q q => h' W1 e1 _ q
  | ok x =>
    cases n with
    | no => trivial
    | ex e => exact fun W1 e1 Q q => h' W1 e1 _ fun v W2 e2 p => hr' W2 (e1.trans e2) _ fun cls d W3 e3 z => q cls d W3 (e2.trans e3) z
    | ok z => exact fun W1 e1 Q q => h' W1 e1 _ fun v W2 e2 p => hr' W2 (e1.trans e2) _ fun vs W3 e3 ⟨v1, y, ev, r1, o, nn⟩ => q _ W3 (e2.trans e3) ⟨v :: v1, y, by rw [ev]; rfl, ⟨v, v1, rfl, Rp.mono e3.g p, r1⟩, o, e2.h.nope nn⟩
variable {J S T ρ' : Type} {kr' : ρ' → Kd} {Ls : List Sl} {Js : J → List Sl} {B : Bd} {Cs : T → List Sl}
/-- f(.., x, {}): the call alone -/
theorem d_call2t [Args τ] {f : τ → α → β → R (ρ × (α × β))} {kr : ρ → Kd} {ta : TA} {m : R τ} {y : α} {b : β} {pin : Option V} {u : TS} {k : α → Out T J ρ'} (i : Nat) (hi : As[i]? = some (.ow pin y)) (lx : Lx Ls As)
    (h : Ax2t c B.W0 X ta As i m b) (hk : ∀ y, Den c X kr' Ls Js B u (As.set i (.ow pin y)) (k y) Cs) :
    Den c X kr' Ls Js B (tSeq (tDrop (tCallS (spIO2 c f kr) (WE X) ta)) u) As (m.to fun z => (f z y b).np.to fun r => k r.2.1) Cs := fun D σ W a fn => by
  obtain ⟨w, fp, hw, ow0, n00, _⟩ := a.chg (β := α) (y := y) hi
  obtain ⟨p, e5, e6⟩ := ObP.one ow0
  subst e5 e6
  have h' := h σ W _ a hw
  cases m with
  | no => exact False.elim fn
  | ex e => exact h' W (Le.refl _) _ fun cls d W2 e2 z => fn cls d σ W2 (lx_at lx (a.mono e2)) z
  | ok z =>
    refine h' W (Le.refl _) _ fun vs W2 e2 ⟨v1, q, ev, r1, ob, nq⟩ => ?_
    have fn' : Fin c X kr' Ls Js B Cs D ((f z y b).np.to fun r => k r.2.1) := fn
    cases hf : f z y b with
    | no => rw [hf] at fn'; exact False.elim fn'
    | ex e => rw [hf] at fn'; exact False.elim fn'
    | ok r =>
      rw [hf] at fn'
      obtain ⟨w', fp', hw', o, n0, chg⟩ := a.chg (β := α) (y := r.2.1) hi
      rw [hw] at hw'
      cases hw'
      obtain ⟨p', e7, e8⟩ := ObP.one o
      cases e7
      subst e8
      have o2 : Ob.own c.K y (.ref p) [p] W2 := own_up o e2
      have np : p ≠ q := fun z => (Ob.foot o p (List.mem_singleton.mpr rfl)).2 (by rw [z]; exact nq)
      refine ⟨W2, z, y, b, v1, p, q, rfl, ev, r1, o2, ob, np, ?_⟩
      rw [hf]
      refine fun u W3 lx3 _ oy oz => hk _ D σ W3 (chg W3 [p] (e2.g.trans lx3.g) (fun a ha g n => ?_) (fun a ha n => ?_) oy fun a ha => .inl ha) fn'
      · have aq : a ≠ q := fun z => n (by rw [z]; exact nq)
        exact lx3.o a (by simp only [List.mem_cons, List.not_mem_nil, or_false, not_or]; exact ⟨fun z => ha (List.mem_singleton.mpr z), aq⟩) (e2.o a g n) (fun z => n (e2.h.nope z))
      · have aq : a ≠ q := fun z => n (by rw [z]; exact nq)
        rw [lx3.h a (by simp only [List.mem_cons, List.not_mem_nil, or_false, not_or]; exact ⟨fun z => ha (List.mem_singleton.mpr z), aq⟩) (fun z => n (e2.h.nope z))]
        cases e9 : W.H a with
        | none => exact absurd e9 n
        | some o => exact e2.h a o e9
/-- if t or f(.., x, y): a block that never goes on -/
theorem d_ifc2 [Args τ] {f : τ → α → β → R (Bool × (α × β))} {tA : TT} {ta : TA} {mA : R Bool} {m : R τ} {y : α} {z : β} {pi pj : Option V} {t v : TS} {a : α → β → Out Empty J ρ'} {k : α → β → Out T J ρ'} (i j : Nat) (ij : i ≠ j) (hi : As[i]? = some (.ow pi y)) (hj : As[j]? = some (.ow pj z)) (lx : Lx Ls As)
    (hA : Txr c B.W0 X tA As mA) (h : Ax2 c B.W0 X ta As i j m) (h1 : ∀ y z, Den c X kr' Ls Js B t ((As.set i (.ow pi y)).set j (.ow pj z)) (a y z) noSl) (hk : ∀ y z, Den c X kr' Ls Js B v ((As.set i (.ow pi y)).set j (.ow pj z)) (k y z) Cs) :
    Den c X kr' Ls Js B (tSeq (tIfS (tOr tA (tB (tCallS (spIO2 c f fun x : Bool => kFr c.K x) (WE X) ta))) t tNext) v) As (mA.to fun b => (if b then R.ok (true, (y, z)) else m.bind fun x => (f x y z).np).to fun r => if r.1 then (a r.2.1 r.2.2).abs else k r.2.1 r.2.2) Cs := fun D σ W at_ fn => by
  have self2 : ∀ {W1 : Wd}, At c.K B.W0 As σ W1 → At c.K B.W0 ((As.set i (.ow pi y)).set j (.ow pj z)) σ W1 := fun {W1} a1 => by
    obtain ⟨p, q, _, _, o1, o2, _, _, _, k2⟩ := a1.chg2 (y' := y) (z' := z) ij hi hj
    exact k2 W1 ⟨Inc.refl _, fun a _ g _ => g, fun a _ _ => rfl⟩ o1 o2
  have hA' := hA σ W at_
  cases mA with
  | no => exact False.elim fn
  | ex e => exact hA' W (Le.refl _) _ fun cls d W2 e2 z => fn cls d σ W2 (lx_at lx (at_.mono e2)) z
  | ok b =>
    refine hA' W (Le.refl _) _ fun W2 e2 => ?_
    have a2 := at_.mono e2
    cases b with
    | true => exact d_abs (v := v) (h1 y z) D σ W2 (self2 a2) fn
    | false =>
      obtain ⟨p, q, sp, sq, o1, o2, np, z1, z2, _⟩ := a2.chg2 (y' := y) (z' := z) ij hi hj
      have h' := h σ W2 _ _ a2 sp sq
      have fn' : Fin c X kr' Ls Js B Cs D ((m.bind fun x => (f x y z).np).to fun r => if r.1 then (a r.2.1 r.2.2).abs else k r.2.1 r.2.2) := fn
      cases m with
      | no => exact False.elim fn'
      | ex e => exact h' W2 (Le.refl _) _ fun cls d W3 e3 z => fn' cls d σ W3 (lx_at lx (a2.mono e3)) z
      | ok x =>
        refine h' W2 (Le.refl _) _ fun vs W3 e3 ⟨v1, ev, r1⟩ => ?_
        have fn2 : Fin c X kr' Ls Js B Cs D ((f x y z).np.to fun r => if r.1 then (a r.2.1 r.2.2).abs else k r.2.1 r.2.2) := fn'
        have a3 := a2.mono e3
        cases hf : f x y z with
        | no => rw [hf] at fn2; exact False.elim fn2
        | ex e => rw [hf] at fn2; exact False.elim fn2
        | ok r =>
          rw [hf] at fn2
          obtain ⟨p', q', sp', sq', o1', o2', np', _, _, k2⟩ := a3.chg2 (y' := r.2.1) (z' := r.2.2) ij hi hj
          rw [sp] at sp'
          cases sp'
          rw [sq] at sq'
          cases sq'
          refine ⟨W3, x, y, z, v1, p, q, rfl, ev, r1, o1', o2', np, ?_⟩
          rw [hf]
          intro u W4 lx4 hu oy oz
          have a4 := k2 W4 lx4 oy oz
          have hu' : u = .bl r.1 := hu
          refine ⟨r.1, hu', ?_⟩
          have fn3 : Fin c X kr' Ls Js B Cs D (if r.1 then (a r.2.1 r.2.2).abs else k r.2.1 r.2.2) := fn2
          cases hb : r.1 with
          | true => rw [hb] at fn3; exact d_abs (v := v) (h1 _ _) D σ W4 a4 fn3
          | false => rw [hb] at fn3; exact hk _ _ D σ W4 a4 fn3
/-! the def itself -/
theorem At.consOO {K : Frag} {W : Wd} {σ : St} {y : α} {z : β} {p q : Addr} (h : At K W0 As σ W) (no : noOw As) (o1 : Ob.own K y (.ref p) [p] W) (o2 : Ob.own K z (.ref q) [q] W) (np : p ≠ q) (n1 : W0.H p = none) (n2 : W0.H q = none) :
    At K W0 (.ow (some (.ref p)) y :: .ow (some (.ref q)) z :: As) (some (.ref p) :: some (.ref q) :: σ) W := by
  obtain ⟨l, le, F, h1, h2, h3⟩ := h
  refine ⟨by simp [l], le, fun j => match j with | 0 => [p] | 1 => [q] | j + 2 => [], fun j B pp a b => ?_, fun j k a n ha hb => ?_, fun j a ha => ?_⟩
  · match j with
    | 0 => cases a; cases b; exact ⟨_, rfl, o1, fun u e => Option.some.inj e⟩
    | 1 => cases a; cases b; exact ⟨_, rfl, o2, fun u e => Option.some.inj e⟩
    | j + 2 => exact noOw_get no a (h1 j B pp a b)
  · match j, k with
    | 0, 0 => exact n rfl
    | 1, 1 => exact n rfl
    | 0, 1 => exact np ((List.mem_singleton.mp ha).symm.trans (List.mem_singleton.mp hb))
    | 1, 0 => exact np ((List.mem_singleton.mp hb).symm.trans (List.mem_singleton.mp ha))
    | 0, k + 2 => cases hb
    | 1, k + 2 => cases hb
    | j + 2, _ => cases ha
  · match j with
    | 0 => rw [List.mem_singleton.mp ha]; exact ⟨(Ob.foot o1 p (List.mem_singleton.mpr rfl)).1, (Ob.foot o1 p (List.mem_singleton.mpr rfl)).2, n1⟩
    | 1 => rw [List.mem_singleton.mp ha]; exact ⟨(Ob.foot o2 q (List.mem_singleton.mpr rfl)).1, (Ob.foot o2 q (List.mem_singleton.mpr rfl)).2, n2⟩
    | j + 2 => cases ha
def krIO2 (K : Frag) (kr : ρ → Kd) (p q : Addr) (z : ρ × (α × β)) : Kd := ⟨fun A u W => (kr z.1).p A u W ∧ Ob.own K z.2.1 (.ref p) [p] W ∧ Ob.own K z.2.2 (.ref q) [q] W, fun ⟨a, o1, o2⟩ e => ⟨(kr z.1).up a e, own_up o1 e, own_up o2 e⟩, fun e ⟨a, o1, o2⟩ => ⟨(kr z.1).dn e a, o1, o2⟩⟩
theorem fn_ioR2 [Args τ] {N : List Str} {n : Nat} {t : TS} {vs : List V} {H : Hp} {Q : VK} {E : XK} {f : τ → α → β → R (ρ × (α × β))} {m : τ → α → β → Out Empty Unit (ρ × (α × β))} {kr : ρ → Kd} (pl : Plain kr) (h : spIO2 c f kr vs H Q E) (hN : N.length = Args.num τ + (2 + n)) (hm : ∀ x y z, f x y z = ioR (m x y z))
    (hd : ∀ (W : Wd) x y z p q, Den c (x0 E) (krIO2 c.K kr p q) (uns N.length) (fun _ : Unit => []) (bd0 W) t (Args.sl x ++ (.ow (some (.ref p)) y :: .ow (some (.ref q)) z :: uns n)) (m x y z) noSl) :
    t { nx := fun _ H' => Q .non H', rt := Q } (L2.start N vs) H := by
  obtain ⟨W, x, y, z, vs1, p, q, eh, ev, r1, o1, o2, np, k⟩ := h
  subst eh ev
  have wf : ∀ a ∈ [p, q], W.G a = none := fun a ha => by
    rcases List.mem_cons.mp ha with e | e
    · rw [e]; exact (Ob.foot o1 p (List.mem_singleton.mpr rfl)).1
    · rw [List.mem_singleton.mp e]; exact (Ob.foot o2 q (List.mem_singleton.mpr rfl)).1
  have e : L2.start N (vs1 ++ [.ref p, .ref q]) = vs1.map some ++ (some (.ref p) :: some (.ref q) :: List.replicate n none) := by
    unfold L2.start
    have h : N.length - (vs1 ++ [V.ref p, V.ref q]).length = n := by
      rw [hN, List.length_append, Args.len r1]
      show _ - (_ + 2) = n
      omega
    rw [h]
    simp
  have st : At c.K (W.wo [p, q] wf) (Args.sl x ++ (.ow (some (.ref p)) y :: .ow (some (.ref q)) z :: uns n)) (L2.start N (vs1 ++ [.ref p, .ref q])) W := by
    rw [e]
    have a0 : At c.K (W.wo [p, q] wf) (uns n) (List.replicate n none) W := (at_uns n).re Le.wo
    exact Args.at_ r1 (a0.consOO (noOw_uns n) o1 o2 np (wo_in (by simp)) (wo_in (by simp)))
  refine hd (W.wo [p, q] wf) x y z p q _ _ W st ?_
  rw [hm] at k
  revert k
  generalize m x y z = r
  intro k
  cases r with
  | nx y' => exact y'.elim
  | rt r => exact fun u W' l ⟨a, oy, oz⟩ => k u W' (LeX.of (h := wf) l) (pl _ _ _ _ _ a) oy oz
  | bk j => exact k.elim
  | ct j => exact k.elim
  | ex e => exact k.elim
  | no => exact k.elim
/-- return e, where two things handed in were changed -/
theorem d_retIO2 {J : Type} {Ls : List Sl} {Js : J → List Sl} {B : Bd} {kr : ρ → Kd} {p q : Addr} {te : TE} {u : TS} {m : R ρ} {y : α} {z : β} {S : Type} {Bs : S → List Sl} (i j : Nat) (ij : i ≠ j) (hi : As[i]? = some (.ow (some (.ref p)) y)) (hj : As[j]? = some (.ow (some (.ref q)) z)) (lx : Lx Ls As) (h : Exr c B.W0 X te As m kr) :
    Den c X (krIO2 c.K kr p q) Ls Js B (tSeq (tRet te) u) As (m.to fun r => .rt (r, (y, z))) Bs := fun D σ W a f => by
  have h' := h σ W a
  cases m with
  | no => exact False.elim f
  | ex e => exact h' W (Le.refl _) _ fun cls d W2 e2 z => f cls d σ W2 (lx_at lx (a.mono e2)) z
  | ok x =>
    refine h' W (Le.refl _) _ fun w W2 e r => f w W2 (a.le.trans e) ?_
    obtain ⟨v1, f1, hv1, o1, pn1, _⟩ := (a.mono e).varO hi
    obtain ⟨v2, f2, hv2, o2, pn2, _⟩ := (a.mono e).varO hj
    have e1 := pn1 _ rfl
    have e2 := pn2 _ rfl
    subst e1 e2
    obtain ⟨_, e3, e4⟩ := ObP.one o1
    cases e3
    subst e4
    obtain ⟨_, e5, e6⟩ := ObP.one o2
    cases e5
    subst e6
    exact ⟨(kr x).dn (B.le.trans a.le) r, o1, o2⟩
end
end Fw

namespace Fw
open PySem L2
/-! ### x = xs.pop() -/
theorem Al.dropLast {α : Type} {P : α → V → Prop} {xs : List α} {vs : List V} (h : Al P xs vs) : Al P xs.dropLast vs.dropLast := ⟨by rw [List.length_dropLast, List.length_dropLast, h.1], fun i x v a b => by
  rw [List.getElem?_dropLast] at a b
  split at a
  · split at b
    · exact h.2 i x v a b
    · cases b
  · cases a⟩
def R.pop {α : Type} (xs : List α) : R (α × List α) := match xs[xs.length - 1]? with
  | some y => .ok (y, xs.dropLast)
  | none => .no
section
variable {J S ρ α : Type} {c : Cn} {X : WX} {kr : ρ → Kd} {Ls : List Sl} {Js : J → List Sl} {B : Bd} {As : List Sl} {Bs : S → List Sl}
theorem d_pop [Rp α] {pin : Option V} {u : TS} {xs : List α} {k : α → List α → Out S J ρ} (i j : Nat) (ij : i ≠ j) (hi : As[i]? = some (.ow pin xs)) (hk : ∀ (y : α) (ys : List α), Den c X kr Ls Js B u ((As.set i (.ow pin ys)).set j (.fr y)) (k y ys) Bs) :
    Den c X kr Ls Js B (tSeq (tAsg (tBM0 c.K "list" rPop (tVar i)) (gName j)) u) As ((R.pop xs).to fun r => k r.1 r.2) Bs := fun D σ W a f => by
  obtain ⟨w, fp, hw, rw_, n0, chg⟩ := a.chg (β := List α) (y := xs.dropLast) hi
  obtain ⟨p, vs, ew, ef, g, hh, al, l⟩ := rw_
  subst ew ef
  refine ⟨_, hw, .inl ⟨rfl, vs, .inl (.inl hh)⟩, ?_⟩
  unfold R.pop at f
  cases e : xs[xs.length - 1]? with
  | none => rw [e] at f; exact False.elim f
  | some y =>
    rw [e] at f
    obtain ⟨v, ev, r⟩ := al.get e
    refine ⟨p, vs, v, rfl, rfl, hh, by rw [← al.1]; exact ev, ?_⟩
    have a3 := chg (W.mt p (.lst vs.dropLast) g) [p] (Inc.refl _) (fun b _ hb _ => hb) (fun b hb n => mut_keep g b hb n) ⟨p, _, rfl, rfl, g, upd_same, al.dropLast, by rw [List.length_dropLast]; omega⟩ (fun b hb => .inl hb)
    exact hk y _ D _ _ (a3.setF r) f
/-- a for's name that may be None elsewhere -/
theorem g_nameS {W0 : Wd} [Rp α] [NN α] (i : Nat) : Tg c W0 (gName i) As (fun x : α => kFr c.K x) (fun x => As.set i (.fr (some x))) := fun x σ W A v a r Q q => q _ (a.setF (show Rp.rep c.K (some x) v W.G from ⟨NN.nn r, r⟩))
end
end Fw

namespace Fw
open PySem PySem.Spec PyProof.Rows L2
/-! ### sets of ints -/
section
variable {P : Program} {w : World} {A : Around} {E : Value → Shared → Prop} {s : Shared}
theorem ints_at' {us : List Value} {xs : List Int} (h : IntsAre us xs) (i : Nat) (v : Value) (e : us[i]? = some v) : ∃ k t, xs[i]? = some k ∧ v = .int k t := by
  induction h generalizing i with
  | nil => simp at e
  | cons n t hr ih =>
    cases i with
    | zero => simp at e; exact ⟨n, t, rfl, e.symm⟩
    | succ i => simp only [List.getElem?_cons_succ] at e ⊢; exact ih i e
/-- set(xs), xs a list of ints -/
theorem call_set_ints {l : Addr} {items : Array Value} (xs : List Int) {Q : Value → Shared → Prop} (hh : A.handled = none) (hl : s.heap.IsList l items) (hit : IntsAre items.toList xs) (hb : xs.length + 1 < scanBound)
    (h : ∀ (h' : Heap) (tk c : Nat), SetR w h' s.heap.objs.size (fun j => decide (j ∈ xs)) c → c ≤ xs.length → (∀ b o, s.heap.get? b = some o → h'.get? b = some o) → Q (.ref s.heap.objs.size) { s with heap := h', toks := tk }) :
    wpAny (model P w) A (call (.type "set") [.ref l]) Q E s := by
  have hisz : items.size = xs.length := by
    have q := hit.length
    rw [Array.length_toList] at q
    exact q
  obtain ⟨c, tl, hmro⟩ := PySem.F.called_set.mro
  have hmade := PySem.F.called_set.made
  have hsub := PySem.F.called_set.sub
  refine wpAny_call (codeAny_of_tree ?_)
  show wpAny _ _ (callAny (.type "set") _) _ _ _
  refine wpAny_pure ⟨Code.quiet_builtin _ (by decide +kernel), codeAny_builtin PySem.F.entry_type_call ?_⟩
  rw [Around.under_plain (weight_type_call_type "set" [.ref l] []) rfl]
  have h1 := PySem.F.called_set.notType
  have h2 := PySem.F.called_set.canCreate
  have hct := PySem.F.typeCall_set_1 (.ref l)
  repeat (any_goals (first | assumption | wp_step))
  refine codeAny_mono (code_set_led1 (.ref l) (E := E) (Q₁ := fun obj s₁ => obj = .ref s.heap.objs.size ∧ s₁ = { s with heap := s.heap.push { cls := .type "set", dict := none, data := .set #[] 0 (.fresh 0 0 (!w.params.followText "set-order")) } }) ⟨rfl, rfl⟩) fun r s₁ hr => ?_
  cases r with
  | error e => exact hr
  | ok fl =>
    cases fl with
    | ret obj =>
      obtain ⟨rfl, rfl⟩ := hr
      have hS : (s.heap.push { cls := .type "set", dict := none, data := .set #[] 0 (.fresh 0 0 (!w.params.followText "set-order")) }).get? s.heap.objs.size = some { cls := .type "set", dict := none, data := .set #[] 0 (.fresh 0 0 (!w.params.followText "set-order")) } := Heap.get?_push_size _ rfl
      have hT : Shared.TypeIs { s with heap := s.heap.push { cls := .type "set", dict := none, data := .set #[] 0 (.fresh 0 0 (!w.params.followText "set-order")) } } (.ref s.heap.objs.size) "set" := ⟨_, hS, rfl⟩
      have hli := PySem.F.called_set.init.lookup
      have hbi := PySem.F.called_set.init.bind (.ref s.heap.objs.size)
      repeat (any_goals (first | assumption | wp_step))
      refine codeAny_mono (codeAny_call_builtin (R := wants (fun r s₂ => r = .none ∧ ∃ h' tk c, s₂ = { s with heap := h', toks := tk } ∧ SetR w h' s.heap.objs.size (fun j => decide (j ∈ xs)) c ∧ c ≤ xs.length ∧
          (∀ b o, s.heap.get? b = some o → h'.get? b = some o)) E) PySem.F.called_set.init.plain PySem.F.entry_set_init (check_set_init_1 hT ?_)) fun r₂ s₂ hr₂ => ?_
      · obtain ⟨ol, hol, hcl, nl, hdl⟩ := hl
        obtain ⟨ocls, odict, odata, oslots⟩ := ol
        simp only at hcl hdl
        subst hcl; subst hdl
        have hol' : (s.heap.push { cls := .type "set", dict := none, data := .set #[] 0 (.fresh 0 0 (!w.params.followText "set-order")) }).get? l = some { cls := .type "list", dict := odict, data := .seq items nl, slots := oslots } := Heap.get?_push_of_some _ hol
        have hsls := PySem.F.sub_list_set
        have hslf := PySem.F.sub_list_frozenset
        have hne : (Value.type "list" == Value.type "dict") = false := by decide
        have hl1 : (s.heap.push { cls := .type "set", dict := none, data := .set #[] 0 (.fresh 0 0 (!w.params.followText "set-order")) }).IsList l items := ⟨_, hol', rfl, nl, rfl⟩
        unfold Builtin.«set.__init__» noKeywords Builtin.Frozenset.updateFrom
        generalize hPI : pyIter = PI
        wp_walk
        subst hPI
        refine wpAny_pyIter_list hl1 ?_
        refine wpAny_bind (wpAny_runValue ?_)
        have hlS : l < s.heap.objs.size := Heap.lt_size hol
        have hh3 : A.in1.in1.in1.handled = none := by simp [hh]
        have hneI : l ≠ (s.heap.push { cls := .type "set", dict := none, data := .set #[] 0 (.fresh 0 0 (!w.params.followText "set-order")) }).objs.size := by
          rw [Heap.size_push]; exact Nat.ne_of_lt (Nat.lt_succ_of_lt hlS)
        have hSf : s.heap.objs.size ∉ [(s.heap.push { cls := .type "set", dict := none, data := .set #[] 0 (.fresh 0 0 (!w.params.followText "set-order")) }).objs.size, l] := by
          rw [Heap.size_push]; simp only [List.mem_cons, List.mem_singleton, List.not_mem_nil, or_false, not_or]
          exact ⟨Nat.ne_of_lt (Nat.lt_succ_self _), Nat.ne_of_gt hlS⟩
        have hval : ∀ (i : Nat) (v : Value), items[i]? = some v → ∃ k t, xs[i]? = some k ∧ v = .int k t := fun i v hv => ints_at' hit i v (by rw [Array.getElem?_toList]; exact hv)
        refine set_update_ints ((Walks.list hh3 _ l hneI items).toS) s.heap.objs.size
          hSf xs hisz hb hval (items.size - 0) 0 _ (by omega) (Nat.zero_le _)
          ⟨⟨_, Heap.get?_push_size _ rfl, rfl, rfl⟩, (hl1.push _)⟩ ?hS0 ?hR
        case hS0 =>
          have hget : ((s.heap.push { cls := .type "set", dict := none, data := .set #[] 0 (.fresh 0 0 (!w.params.followText "set-order")) }).push { cls := .type "list_iterator", data := .fields #[.ref l, .int 0 0] }).get? s.heap.objs.size
              = some { cls := .type "set", dict := none, data := .set #[] 0 (.fresh 0 0 (!w.params.followText "set-order")) } := Heap.get?_push_of_some _ hS
          exact ⟨0, Nat.le_refl 0, setR_new_at hget⟩
        case hR =>
          intro s' c' hm hc' hS'
          obtain ⟨h', g2, d', tk', os'⟩ := s'
          have eg : g2 = s.gens := hm.gens
          have ed : d' = s.drawn := hm.drawn
          have eo : os' = s.os := hm.os
          subst eg; subst ed; subst eo
          show wpAny _ _ _ _ _ _
          refine wpAny_pure ?_
          show wpAny _ _ (ret Value.none) _ _ _
          rw [hisz] at hc'
          refine wpAny_pure ⟨rfl, h', tk', c', rfl, hS', hc', fun b o e => ?_⟩
          have hb0 : b < s.heap.objs.size := Heap.lt_size e
          have hb1 : b ≠ s.heap.objs.size := Nat.ne_of_lt hb0
          have hb2 : b ≠ (s.heap.push { cls := .type "set", dict := none, data := .set #[] 0 (.fresh 0 0 (!w.params.followText "set-order")) }).objs.size := by
            rw [Heap.size_push]; exact Nat.ne_of_lt (Nat.lt_succ_of_lt hb0)
          exact hm.heap b o (by simp only [List.mem_cons, List.mem_singleton, List.not_mem_nil, or_false, not_or]; exact ⟨hb1, hb2⟩) (Heap.get?_push_of_some _ (Heap.get?_push_of_some _ e))
      · cases r₂ with
        | error e => exact hr₂
        | ok fl₂ =>
          cases fl₂ with
          | ret r =>
            obtain ⟨rfl, h', tk, c', rfl, hS', hc', hk'⟩ := hr₂
            repeat (any_goals (first | assumption | wp_step))
            exact h _ _ _ hS' hc' hk'
          | _ => exact hr₂.elim
    | _ => exact hr.elim
end
def rLenSetI (K : Frag) : List V → Hp → VK → Prop := fun vs H Q => ∃ (a : Addr) (xs : List Int), vs = [.ref a] ∧ SqL K H a (xs.map V.int) ∧ xs.length + 1 < scanBound ∧
  ∀ (ks : List Int), ks.Nodup → (∀ k, k ∈ ks ↔ k ∈ xs) → Q (.int ks.length) H
section
variable {X : Cx} {a : Expr} {ta : TE} {p p2 q pos : Pos}
theorem pe_lenSetI (hc : X.calm = true) (hg : Gl X "len") (hm : X.mg "len" = none) (hv : bootBuiltins "len" = some (.builtin "len")) (hg2 : Gl X "set") (hm2 : X.mg "set" = none) (hv2 : bootBuiltins "set" = some (.type "set")) (ha : PE X a ta)
    (na : starEach [a] X.env = (false, eval a X.env) :: starEach [] X.env := by rfl) : PE X (.Call (.Name "len" p) [.Call (.Name "set" p2) [a] [] q] [] pos) (tCB (rLenSetI X.K) (tCons ta tNil)) := by
  refine ⟨fun pins s σ H Q I h => ?_⟩
  refine wpAny_Call_Name_kw (ld_blt I hg hm hv ?_ (by decide) (by decide))
  refine PyProof.Rows.callWith_builtin1 (PyProof.Rows.args_cons ?_ rfl) rfl rfl
  refine wpAny_Call_Name_kw (ld_blt I hg2 hm2 hv2 ?_ (by decide) (by decide))
  refine PyProof.Rows.callWith_type1 (PyProof.Rows.args_cons (thn (ha.run pins s σ H _ I h) fun v s1 ⟨x, H1, I1, r1, q1⟩ => PyProof.Rows.args_nil ?_) na) na rfl
  obtain ⟨l, xs, ex, hq, h1, q1⟩ := q1
  injection ex with ex
  subst ex
  cases r1
  obtain ⟨its, r, pl, hz⟩ := I1.list hq
  refine call_set_ints xs (I1.ok.hd hc) pl.isList (by simpa using r.ints) h1 fun h' tk c hS hcl hk => ?_
  have I2 : Inv X pins σ H1 { s1 with heap := h', toks := tk } := I1.kept fun b o e => hk b o e
  refine PyProof.Rows.args_nil ?_
  obtain ⟨o, es, ep, t, ho, hex, hd, g, nd, hm, hb, hf, hn, hr, hl⟩ := hS
  have e : (es.toList.map L2.keyOf).length = es.size := by rw [List.length_map, Array.length_toList]
  have q2 := q1 _ nd fun k => by rw [← hm k, decide_eq_true_eq]
  rw [e] at q2
  refine call_len_set ho hex hd hf (by unfold scanBound at hb; omega) ⟨.int es.size, H1, I2.tok _, ⟨_, rfl⟩, q2⟩
end
section
variable {K : Frag}
@[irreducible] def R.lenSetI (xs : List Int) : R Int := if xs.length < 4000 then .ok ((uniq xs).length : Nat) else .no
theorem o_lenSetI : OpA (rLenSetI K) (fun z : List Int × Unit => aCons (kSh K z.1) aNil) (fun z => R.lenSetI z.1) (fun x : Int => kFr K x) := fun z => by
  unfold R.lenSetI
  dsimp only
  by_cases h : z.1.length < 4000
  · rw [if_pos h]
    intro W0 W vs ⟨v, r, e, ⟨p, ls, ev, hs, al, l⟩, en⟩ Q q
    subst e en ev
    have e1 := al_ints al
    subst e1
    refine ⟨p, z.1, rfl, hs, by unfold scanBound; omega, fun ks nd mm => ?_⟩
    have pm := nodup_perm nd (uniq_nodup z.1) fun k => (mm k).trans (uniq_mem k z.1).symm
    refine q _ W (Le.refl _) ?_
    show V.int _ = V.int _
    rw [pm.length_eq]
  · rw [if_neg h]; trivial
end
end Fw

namespace Fw
open PySem L2
/-! ### great ints shifted -/
section
variable {K : Frag}
instance : DecidableRel CShl := fun i j => inferInstanceAs (Decidable (_ ∧ _))
end
end Fw

namespace Fw
open PySem L2
/-! ### a pair whose parts are one's own -/
section
variable {α β : Type}
def ownP [Ob α] [Ob β] (K : Frag) (x : α × β) (v : V) (f : List Addr) (W : Wd) : Prop := ∃ p va vb fa fb, v = .ref p ∧ W.G p = some (.tup [va, vb]) ∧ f = fa ++ fb ∧ Ob.own K x.1 va fa W ∧ Ob.own K x.2 vb fb W ∧ ∀ a ∈ fa, a ∉ fb
theorem ownP_keep [Ob α] [Ob β] {K : Frag} {x : α × β} {v : V} {f : List Addr} {W W' : Wd} : ownP K x v f W → Inc W.G W'.G → (∀ a ∈ f, W'.G a = none) → (∀ a ∈ f, W'.H a = W.H a) → ownP K x v f W' := fun ⟨p, va, vb, fa, fb, e, hp, ef, o1, o2, d⟩ s n k => by
  subst ef
  exact ⟨p, va, vb, fa, fb, e, s _ _ hp, rfl, Ob.keep o1 s (fun a ha => n a (List.mem_append.mpr (.inl ha))) (fun a ha => k a (List.mem_append.mpr (.inl ha))), Ob.keep o2 s (fun a ha => n a (List.mem_append.mpr (.inr ha))) (fun a ha => k a (List.mem_append.mpr (.inr ha))), d⟩
theorem ownP_foot [Ob α] [Ob β] {K : Frag} {x : α × β} {v : V} {f : List Addr} {W : Wd} : ownP K x v f W → ∀ a ∈ f, W.G a = none ∧ W.H a ≠ none := fun ⟨p, va, vb, fa, fb, e, hp, ef, o1, o2, d⟩ a ha => by
  subst ef
  rcases List.mem_append.mp ha with z | z
  · exact Ob.foot o1 a z
  · exact Ob.foot o2 a z
theorem fz_more [Rp α] {K : Frag} {x : α} {v : V} {W : Wd} {f g : List Addr} (h : Rp.rep K x v (W.fz f).G) (hs : ∀ a ∈ f, a ∈ g) : Rp.rep K x v (W.fz g).G := Rp.mono (fun a o e => by
  by_cases q : a ∈ f
  · rw [Wd.fz_in q] at e; rw [Wd.fz_in (hs a q)]; exact e
  · rw [Wd.fz_ni q] at e
    by_cases q2 : a ∈ g
    · rw [Wd.fz_in q2]; exact W.sub _ _ e
    · rw [Wd.fz_ni q2]; exact e) h
instance [Fz α] [Fz β] : Fz (α × β) where
  own := ownP
  keep := ownP_keep
  foot := ownP_foot
  fz := fun {K x v f W} ⟨p, va, vb, fa, fb, e, hp, ef, o1, o2, d⟩ => by
    subst ef
    exact ⟨p, va, vb, e, .inl (.inl (Wd.fz_sub _ _ hp)), fz_more (Fz.fz o1) fun a ha => List.mem_append.mpr (.inl ha), fz_more (Fz.fz o2) fun a ha => List.mem_append.mpr (.inr ha)⟩
section
variable {c : Cn} {W0 : Wd} {As : List Sl} {K : Frag}
end
section
variable {J S ρ : Type} {c : Cn} {X : WX} {kr : ρ → Kd} {Ls : List Sl} {Js : J → List Sl} {B : Bd} {As : List Sl} {Bs : S → List Sl} {W0 : Wd}
end
end
end Fw

namespace Fw
open PySem L2
/-! ### xs.insert(i, e) -/
def rIns : V → List V → Hp → VK → Prop := fun x vs H Q => ∃ (l : Addr) (xs : List V) (i : Int) (y : V), x = .ref l ∧ vs = [.int i, y] ∧ H l = some (.lst xs) ∧ xs.length < sizeLine ∧ 0 ≤ i ∧ i < 2 ^ 63 ∧
    Q .non (upd H l (.lst (xs.take i.toNat ++ [y] ++ xs.drop i.toNat)))
@[irreducible] def R.ins {α : Type} (xs : List α) (i : Int) (y : α) : R (List α) := if xs.length < sizeLine ∧ 0 ≤ i ∧ i < 2 ^ 63 then .ok (xs.take i.toNat ++ [y] ++ xs.drop i.toNat) else .no
section
variable {J S ρ α : Type} {c : Cn} {X : WX} {kr : ρ → Kd} {Ls : List Sl} {Js : J → List Sl} {B : Bd} {As : List Sl} {Bs : S → List Sl}
theorem d_ins [Rp α] {pin : Option V} {te ti : TE} {u : TS} {xs : List α} {m : R α} {n : R Int} {k : List α → Out S J ρ} (i : Nat) (hi : As[i]? = some (.ow pin xs)) (lx : Lx Ls As) (hn : Exr c B.W0 X ti As n fun x => kFr c.K x) (h : Exr c B.W0 X te As m fun x => kFr c.K x) (hk : ∀ ys : List α, Den c X kr Ls Js B u (As.set i (.ow pin ys)) (k ys) Bs) :
    Den c X kr Ls Js B (tSeq (tDrop (tBM c.K "list" rIns (tVar i) (tCons ti (tCons te tNil)))) u) As (n.to fun j => m.to fun y => (R.ins xs j y).to k) Bs := fun D σ W a f => by
  have h' := h σ W a
  have hn' := hn σ W a
  obtain ⟨w, fp, hw, rw_, n0, chg⟩ := a.chg (β := List α) (y := xs) hi
  obtain ⟨p, vs, ew, ef, g, hh, al, l⟩ := rw_
  subst ew ef
  refine ⟨_, hw, .inl ⟨rfl, vs, .inl (.inl hh)⟩, ?_⟩
  cases n with
  | no => exact False.elim f
  | ex e => exact hn' W (Le.refl _) _ fun cls d W2 e2 z => f cls d σ W2 (lx_at lx (a.mono e2)) z
  | ok j =>
    refine hn' W (Le.refl _) _ fun jv W1 e1 rj => ?_
    have ej : jv = .int j := rj
    subst ej
    cases m with
    | no => exact False.elim f
    | ex e => exact h' W1 e1 _ fun cls d W2 e2 z => f cls d σ W2 (lx_at lx (a.mono (e1.trans e2))) z
    | ok y =>
      refine h' W1 e1 _ fun v W2 e2 r => ?_
      have e := e1.trans e2
      have f' : Fin c X kr Ls Js B Bs D (R.to (if xs.length < sizeLine ∧ 0 ≤ j ∧ j < 2 ^ 63 then R.ok (xs.take j.toNat ++ [y] ++ xs.drop j.toNat) else R.no) k) := by
        have f2 : Fin c X kr Ls Js B Bs D ((R.ins xs j y).to k) := f
        unfold R.ins at f2
        exact f2
      have g2 : W2.G p = none := e.o p g (by rw [hh]; exact fun z => nomatch z)
      by_cases cz : xs.length < sizeLine ∧ 0 ≤ j ∧ j < 2 ^ 63
      · rw [if_pos cz] at f'
        refine ⟨p, vs, j, v, rfl, rfl, e.h _ _ hh, al.1 ▸ cz.1, cz.2.1, cz.2.2, ?_⟩
        obtain ⟨w', fp', hw', rw', n0', chg'⟩ := (a.mono e).chg (β := List α) (y := xs.take j.toNat ++ [y] ++ xs.drop j.toNat) hi
        rw [hw] at hw'
        cases hw'
        have al2 := al_mono al e.g
        have a3 := chg' (W2.mt p (.lst (vs.take j.toNat ++ [v] ++ vs.drop j.toNat)) g2) [p] (Inc.refl _) (fun b _ hb _ => hb) (fun b hb n => mut_keep g2 b (fun z => hb (by
          obtain ⟨p', vs', ep, ef', _⟩ := rw'
          cases ep
          rw [ef']; exact z)) n) ⟨p, _, rfl, rfl, g2, upd_same, ((al2.take j.toNat).app (Al.one r)).app (al2.drop j.toNat), by
            simp only [List.length_append, List.length_take, List.length_drop, List.length_singleton]
            omega⟩ (fun b hb => .inl (by
          obtain ⟨p', vs', ep, ef', _⟩ := rw'
          cases ep
          rw [ef']; exact hb))
        exact hk _ D _ _ a3 f'
      · rw [if_neg cz] at f'
        exact False.elim f'
end
end Fw

namespace Fw
open PySem L2
/-! ### a pair of a text and what is one's own -/
instance : Fz Str where
  own := fun _ x v f _ => v = .str x ∧ SOk x ∧ f = []
  keep := fun h _ _ _ => h
  foot := fun ⟨_, _, e⟩ a ha => by subst e; cases ha
  fz := fun ⟨e, s, _⟩ => ⟨e, s⟩
section
variable {α β : Type}
variable {J S ρ : Type} {c : Cn} {X : WX} {kr : ρ → Kd} {Ls : List Sl} {Js : J → List Sl} {B : Bd} {As : List Sl} {Bs : S → List Sl} {W0 : Wd}
end
/-! ### isinstance of one of two kinds -/
section
variable {K : Frag} {α β : Type}
def isS (b0 b1 : Bool) : α ⊕ β → Bool
  | .inl _ => b0
  | .inr _ => b1
end
end Fw

namespace Fw
open PySem L2
section
variable {α β : Type}
variable {c : Cn} {X : WX} {As : List Sl} {W0 : Wd}
/-! ### list(range(n)) -/
theorem r_lstRg {te : TE} {m : R Int} (h : Exr c W0 X te As m fun x => kFr c.K x) : Exr c W0 X (tLstRg (tRg1 te)) As (m.bind fun n => R.rng 0 n) fun x : List Int => kNw c.K x := fun σ W a => by
  have h' := h σ W a
  cases m with
  | no => trivial
  | ex e => exact fun W1 e1 Q q => h' W1 e1 _ q
  | ok n =>
    show SatR (R.rng 0 n) _ _
    unfold R.rng
    split
    · rename_i z
      refine fun W1 e1 Q q => h' W1 e1 _ fun v W2 e2 r => ⟨n, (show v = .int n from r), ⟨by omega, by omega, by omega, by omega, by omega⟩, fun b hb => ?_⟩
      refine q _ (W2.no b _ hb) (e2.trans (Le.no hb)) ⟨[b], ⟨b, _, rfl, rfl, W2.sub.nope hb, upd_same, (al_rg (K := c.K) n).imp fun _ _ r => r, ?_⟩, fun d hd => by rw [List.mem_singleton.mp hd]; exact e2.fr hb⟩
      show (rng 0 n).length ≤ sizeLine
      rw [rng_len, sizeLine_eq]
      omega
    · trivial
/-! ### [a new list for x in xs if t], as a list of one's own lists -/
theorem DRows.up [Rp β] {K : Frag} {W W' : Wd} {xs : List (List β)} {qs : List Addr} (h : DRows K xs qs W) (e : Le W W') : DRows K xs qs W' := h.keep e.g (fun b hb => e.o b (h.foot b hb).1 (h.foot b hb).2) fun b hb => by
  cases z : W.H b with
  | none => exact absurd z (h.foot b hb).2
  | some o => exact e.h _ _ z
end
section
variable {α β : Type}
variable {J S ρ : Type} {c : Cn} {X : WX} {kr : ρ → Kd} {Ls : List Sl} {Js : J → List Sl} {B : Bd} {As : List Sl} {Bs : S → List Sl} {W0 : Wd}
end
end Fw

namespace Fw
open PySem L2
section
variable {α β : Type}
variable {J S ρ : Type} {c : Cn} {X : WX} {kr : ρ → Kd} {Ls : List Sl} {Js : J → List Sl} {B : Bd} {As : List Sl} {Bs : S → List Sl} {W0 : Wd}
end
end Fw

namespace Fw
open PySem L2
/-! ### a dict frozen but not locked -/
structure Dq (κ α : Type) where
  l : List (κ × α)
deriving DecidableEq
section
variable {κ α : Type} [DecidableEq κ] [Rp κ] [DKy κ] [Rp α]
def repQ (K : Frag) (x : Dq κ α) (v : V) (G : Hp) : Prop := ∃ p q, v = .ref p ∧ G p = some (DKy.ho q) ∧ DR K x.l q G ∧ x.l.length ≤ sizeLine
instance : Rp (Dq κ α) := ⟨repQ, fun s ⟨p, q, e, h, a, l⟩ => ⟨p, q, e, s _ _ h, a.mono s, l⟩⟩
instance : Fz (Dq κ α) where
  own := fun K x v f W => Ob.own K (Dk.mk x.l : Dk κ α) v f W
  keep := fun h s n k => Ob.keep h s n k
  foot := fun h => Ob.foot h
  fz := fun {K x v f W} ⟨p, q, e, ef, g, h, d, l⟩ => by
    subst ef
    exact ⟨p, q, e, (Wd.fz_in (by simp)).trans h, d.mono Wd.fz_sub, l⟩
variable {c : Cn} {W0 : Wd} {X : WX} {As : List Sl}
end
/-! ### dict(d), list(d.items()), keys texts -/
section
variable {α : Type} [Rp α] {K : Frag}
variable {c : Cn} {W0 : Wd} {X : WX} {As : List Sl}
@[irreducible] def R.items (x : Dq Str α) : R (List (Str × α)) := if ∀ p ∈ x.l, SOk p.1 then .ok x.l else .no
end
end Fw

namespace Fw
open PySem L2
/-! ### a dict of one's own lists, keys texts -/
structure DG (α : Type) where
  l : List (Str × List α)
deriving DecidableEq
section
variable {α : Type} [Rp α]
def ownG (K : Frag) (x : DG α) (v : V) (f : List Addr) (W : Wd) : Prop := ∃ (p : Addr) (q : List (Str × V)) (qs : List Addr), v = .ref p ∧ f = p :: qs ∧ (p :: qs).Nodup ∧ W.G p = none ∧ W.H p = some (.dK (q.map fun e => (kS e.1, e.2))) ∧ q.map (·.1) = x.l.map (·.1) ∧ q.map (·.2) = qs.map V.ref ∧ (x.l.map (·.1)).Nodup ∧ DRows K (x.l.map (·.2)) qs W ∧ x.l.length ≤ sizeLine
instance : Rp (DG α) := ⟨fun K x v G => Rp.rep K (Dq.mk x.l : Dq Str (List α)) v G, fun s h => Rp.mono s h⟩
theorem dr_of {K : Frag} {β : Type} [Rp β] {G : Hp} : ∀ {x : List (Str × β)} {q : List (Str × V)}, q.map (·.1) = x.map (·.1) → Al (fun x v => Rp.rep K x v G) (x.map (·.2)) (q.map (·.2)) → DR K x q G
  | [], [], _, _ => trivial
  | p :: x, e :: q, h, a => by
    rw [List.map_cons, List.map_cons] at h
    injection h with h1 h2
    refine ⟨h1.symm, a.2 0 p.2 e.2 rfl rfl, dr_of h2 ⟨by have := a.1; simpa using this, fun i y w h1 h2 => a.2 (i + 1) y w h1 h2⟩⟩
  | [], _ :: _, h, _ => by simp at h
  | _ :: _, [], h, _ => by simp at h
instance : Fz (DG α) where
  own := ownG
  keep := fun {K x v f W W'} ⟨p, q, qs, e, ef, nd, g, h, k1, k2, kn, r, l⟩ s n k => by
    subst ef
    exact ⟨p, q, qs, e, rfl, nd, n p (by simp), (k p (by simp)).trans h, k1, k2, kn, r.keep s (fun b hb => n b (List.mem_cons_of_mem _ hb)) fun b hb => k b (List.mem_cons_of_mem _ hb), l⟩
  foot := fun {K x v f W} ⟨p, q, qs, e, ef, nd, g, h, k1, k2, kn, r, l⟩ b hb => by
    subst ef
    rcases List.mem_cons.mp hb with z | hb
    · subst z
      exact ⟨g, by rw [h]; exact fun z => nomatch z⟩
    · exact r.foot b hb
  fz := fun {K x v f W} ⟨p, q, qs, e, ef, nd, g, h, k1, k2, kn, r, l⟩ => by
    subst ef
    refine ⟨p, q, e, (Wd.fz_in (by simp)).trans h, dr_of k1 ?_, l⟩
    rw [k2]
    exact r.rep Wd.fz_sub fun q hq => Wd.fz_in (List.mem_cons_of_mem _ hq)
variable {c : Cn} {W0 : Wd} {X : WX} {As : List Sl}
end
section
variable {α : Type} [Rp α] {J S ρ : Type} {c : Cn} {X : WX} {kr : ρ → Kd} {Ls : List Sl} {Js : J → List Sl} {B : Bd} {As : List Sl} {Bs : S → List Sl} {W0 : Wd}
end
end Fw

namespace Fw
open PySem L2
/-! ### list(xs) within a comprehension -/
end Fw

namespace Fw
open PySem L2
/-! ### what is owned, looked at as frozen: whatever has no owned thing in it may come out, exceptions too -/
theorem Tk.sqt {K : Frag} {G G' : Hp} {p : Addr} {xs : List V} (t : Tk G G') (h : SqT K G p xs) : SqT K G' p xs := by
  rcases h with (h | ⟨o, h⟩) | h
  · exact .inl (.inl (t p _ rfl h))
  · exact .inl (.inr ⟨o, t p _ rfl h⟩)
  · exact .inr h
/-- values that have no changing thing in them -/
class Uf (α : Type) [Rp α] where
  uf : ∀ {K : Frag} {x : α} {v : V} {G G' : Hp}, Tk G G' → Rp.rep K x v G → Rp.rep K x v G'
instance : Uf Int := ⟨fun _ h => h⟩
instance : Uf Bool := ⟨fun _ h => h⟩
instance : Uf Str := ⟨fun _ h => h⟩
instance : Uf Unit := ⟨fun _ h => h⟩
section
variable {α β γ δ : Type} [Rp α] [Rp β] [Rp γ] [Rp δ] [Uf α] [Uf β] [Uf γ] [Uf δ]
instance : Uf (α × β) := ⟨fun t ⟨p, a, b, e, h, r1, r2⟩ => ⟨p, a, b, e, t.sqt h, Uf.uf t r1, Uf.uf t r2⟩⟩
instance : Uf (T3 α β γ) := ⟨fun t ⟨p, a, b, c, e, h, r1, r2, r3⟩ => ⟨p, a, b, c, e, t.sqt h, Uf.uf t r1, Uf.uf t r2, Uf.uf t r3⟩⟩
instance : Uf (T4 α β γ δ) := ⟨fun t ⟨p, a, b, c, d, e, h, r1, r2, r3, r4⟩ => ⟨p, a, b, c, d, e, t.sqt h, Uf.uf t r1, Uf.uf t r2, Uf.uf t r3, Uf.uf t r4⟩⟩
instance : Uf (Tup α) := ⟨fun t ⟨p, vs, e, h, a, l⟩ => ⟨p, vs, e, t.sqt h, a.imp fun _ _ r => Uf.uf t r, l⟩⟩
instance : Uf (Option α) := ⟨fun {K x v G G'} t h => by
  cases x with
  | none => exact h
  | some y => exact ⟨h.1, Uf.uf t h.2⟩⟩
instance : Uf (α ⊕ β) := ⟨fun {K x v G G'} t h => by
  cases x with
  | inl y => exact Uf.uf (α := α) t h
  | inr y => exact Uf.uf (α := β) t h⟩
end
instance : Uf TK := ⟨fun t ⟨p, e, h, l⟩ => ⟨p, e, t p _ rfl h, l⟩⟩
/-- new things whose parts have no changing thing in them -/
class UfO (α : Type) [Ob α] where
  uf : ∀ {K : Frag} {x : α} {v : V} {f : List Addr} {W W' : Wd}, Tk W.G W'.G → (∀ a ∈ f, W'.G a = none) → W'.H = W.H → Ob.own K x v f W → Ob.own K x v f W'
section
variable {κ α : Type} [DecidableEq κ] [Rp κ] [DKy κ] [Rp α]
theorem al_uf [Uf α] {K : Frag} {G G' : Hp} (t : Tk G G') {xs : List α} {vs : List V} (h : Al (fun x v => Rp.rep K x v G) xs vs) : Al (fun x v => Rp.rep K x v G') xs vs := h.imp fun _ _ r => Uf.uf t r
theorem DR.uf [Uf α] {K : Frag} {G G' : Hp} (t : Tk G G') : ∀ {x : List (κ × α)} {q : List (κ × V)}, DR K x q G → DR K x q G'
  | [], [], h => h
  | _ :: _, _ :: _, h => ⟨h.1, Uf.uf t h.2.1, DR.uf t h.2.2⟩
  | [], _ :: _, h => h.elim
  | _ :: _, [], h => h.elim
instance [Uf α] : UfO (List α) := ⟨fun {K x v f W W'} t n k ⟨p, vs, e, ef, g, h, a, l⟩ => by
  subst ef
  exact ⟨p, vs, e, rfl, n p (by simp), by rw [k]; exact h, al_uf t a, l⟩⟩
instance [Uf α] : UfO (Dk κ α) := ⟨fun {K x v f W W'} t n k ⟨p, q, e, ef, g, h, d, l⟩ => by
  subst ef
  exact ⟨p, q, e, rfl, n p (by simp), by rw [k]; exact h, d.uf t, l⟩⟩
theorem DRows.uf [Uf α] {K : Frag} {W W' : Wd} (t : Tk W.G W'.G) (k : W'.H = W.H) : ∀ {xs : List (List α)} {qs : List Addr}, (∀ q ∈ qs, W'.G q = none) → DRows K xs qs W → DRows K xs qs W'
  | [], [], _, _ => trivial
  | x :: xs, q :: qs, n, h => by
    obtain ⟨g, vs, hh, al, l⟩ := h.1
    exact ⟨⟨n q (by simp), vs, by rw [k]; exact hh, al_uf t al, l⟩, DRows.uf t k (fun b hb => n b (List.mem_cons_of_mem _ hb)) h.2⟩
  | [], _ :: _, _, h => h.elim
  | _ :: _, [], _, h => h.elim
instance [Uf α] : UfO (DL α) := ⟨fun {K x v f W W'} t n k ⟨p, qs, e, ef, nd, g, h, r, l⟩ => by
  subst ef
  exact ⟨p, qs, e, rfl, nd, n p (by simp), by rw [k]; exact h, r.uf t k fun q hq => n q (List.mem_cons_of_mem _ hq), l⟩⟩
end
section
variable {α β : Type}
instance [Fz α] [Fz β] [UfO α] [UfO β] : UfO (α × β) := ⟨fun {K x v f W W'} t n k ⟨p, va, vb, fa, fb, e, hp, ef, o1, o2, d⟩ => by
  subst ef
  exact ⟨p, va, vb, fa, fb, e, t p _ rfl hp, rfl, UfO.uf t (fun a ha => n a (List.mem_append.mpr (.inl ha))) k o1, UfO.uf t (fun a ha => n a (List.mem_append.mpr (.inr ha))) k o2, d⟩⟩
end
/-! the view -/
inductive FvW : List Sl → List Sl → Prop
  | nil : FvW [] []
  | un {As Bs : List Sl} : FvW As Bs → FvW (.un :: As) (.un :: Bs)
  | fr {α : Type} [Rp α] {x : α} {As Bs : List Sl} : FvW As Bs → FvW (.fr x :: As) (.fr x :: Bs)
  | ow {α : Type} [Fz α] {pin : Option V} {x : α} {As Bs : List Sl} : FvW As Bs → FvW (.ow pin x :: As) (.fr x :: Bs)
  | no {α : Type} [Ob α] {pin : Option V} {x : α} {As Bs : List Sl} : FvW As Bs → FvW (.ow pin x :: As) (.un :: Bs)
theorem FvW.len {As Bs : List Sl} (h : FvW As Bs) : As.length = Bs.length := by
  induction h with
  | nil => rfl
  | _ _ ih => exact congrArg (· + 1) ih
theorem FvW.at {K : Frag} {W : Wd} {As Bs : List Sl} (h : FvW As Bs) : ∀ {σ : St}, (∀ (i : Nat) A o, As[i]? = some A → σ[i]? = some o → ∃ f, Hd K A o W f) → ∀ (i : Nat) B o, Bs[i]? = some B → σ[i]? = some o → Hd K B o (.all W.H) [] := by
  induction h with
  | nil => intro σ _ i B o e; simp at e
  | @un As Bs _ ih =>
    intro σ hh i B o e1 e2
    cases σ with
    | nil => simp at e2
    | cons s σ =>
      cases i with
      | zero => cases e1; trivial
      | succ i => exact ih (σ := σ) (fun j A o a b => hh (j + 1) A o a b) i B o e1 e2
  | @fr α _ x As Bs _ ih =>
    intro σ hh i B o e1 e2
    cases σ with
    | nil => simp at e2
    | cons s σ =>
      cases i with
      | zero =>
        cases e1
        obtain ⟨f, v, e, r⟩ := hh 0 _ o rfl e2
        exact ⟨v, e, Rp.mono W.sub r⟩
      | succ i => exact ih (σ := σ) (fun j A o a b => hh (j + 1) A o a b) i B o e1 e2
  | @ow α _ pin x As Bs _ ih =>
    intro σ hh i B o e1 e2
    cases σ with
    | nil => simp at e2
    | cons s σ =>
      cases i with
      | zero =>
        cases e1
        obtain ⟨f, v, e, r, _⟩ := hh 0 _ o rfl e2
        exact ⟨v, e, own_bw (A := W) r⟩
      | succ i => exact ih (σ := σ) (fun j A o a b => hh (j + 1) A o a b) i B o e1 e2
  | @no α _ pin x As Bs _ ih =>
    intro σ hh i B o e1 e2
    cases σ with
    | nil => simp at e2
    | cons s σ =>
      cases i with
      | zero => cases e1; trivial
      | succ i => exact ih (σ := σ) (fun j A o a b => hh (j + 1) A o a b) i B o e1 e2
section
variable {c : Cn} {W0 : Wd} {X : WX} {As Bs : List Sl} {α ρ : Type}
end
end Fw

namespace Fw
open PySem L2
/-! ### tuples of ints and texts that are known to be just that: keys of dicts -/
class KA (α : Type) [Rp α] where
  key : α → L2.Key
  inj : ∀ a b, key a = key b → a = b
  ok : α → Prop
  rv : ∀ {K : Frag} {x : α} {v : V} {G : Hp}, Rp.rep K x v G → v = L2.kV (key x) ∧ ok x
  vr : ∀ {K : Frag} {x : α} {G : Hp}, ok x → Rp.rep K x (L2.kV (key x)) G
instance : KA Int := ⟨kI, kI_inj, fun _ => True, fun h => ⟨h, trivial⟩, fun _ => rfl⟩
instance : KA Str := ⟨kS, kS_inj, SOk, fun h => ⟨h.1, h.2⟩, fun h => ⟨rfl, h⟩⟩
class KT (α : Type) [Rp α] where
  ks : α → List L2.Key
  inj : ∀ a b, ks a = ks b → a = b
  ok : α → Prop
  rep : ∀ {K : Frag} {x : α} {p : Addr} {G : Hp}, G p = some (.tup ((ks x).map L2.kV)) → ok x → Rp.rep K x (.ref p) G
section
variable {α β γ δ : Type} [Rp α] [Rp β] [Rp γ] [Rp δ] [KA α] [KA β] [KA γ] [KA δ]
instance : KT (α × β) := ⟨fun x => [KA.key x.1, KA.key x.2], fun a b h => by
  injection h with h1 h2
  injection h2 with h2 _
  exact Prod.ext (KA.inj _ _ h1) (KA.inj _ _ h2), fun x => KA.ok x.1 ∧ KA.ok x.2, fun h o => ⟨_, _, _, rfl, .inl (.inl h), KA.vr o.1, KA.vr o.2⟩⟩
instance : KT (T4 α β γ δ) := ⟨fun x => [KA.key x.a, KA.key x.b, KA.key x.c, KA.key x.d], fun a b h => by
  injection h with h1 h2
  injection h2 with h2 h3
  injection h3 with h3 h4
  injection h4 with h4 _
  obtain ⟨a1, a2, a3, a4⟩ := a
  obtain ⟨b1, b2, b3, b4⟩ := b
  have q1 : a1 = b1 := KA.inj _ _ h1
  have q2 : a2 = b2 := KA.inj _ _ h2
  have q3 : a3 = b3 := KA.inj _ _ h3
  have q4 : a4 = b4 := KA.inj _ _ h4
  rw [q1, q2, q3, q4], fun x => KA.ok x.a ∧ KA.ok x.b ∧ KA.ok x.c ∧ KA.ok x.d, fun h o => ⟨_, _, _, _, _, rfl, .inl (.inl h), KA.vr o.1, KA.vr o.2.1, KA.vr o.2.2.1, KA.vr o.2.2.2⟩⟩
end
structure Ky (α : Type) where
  k : α
deriving DecidableEq
section
variable {α β γ δ : Type} [Rp α] [Rp β] [Rp γ] [Rp δ]
instance [KT α] : Rp (Ky α) := ⟨fun K x v G => ∃ p, v = .ref p ∧ G p = some (.tup ((KT.ks x.k).map L2.kV)) ∧ KT.ok x.k, fun s ⟨p, e, h, o⟩ => ⟨p, e, s _ _ h, o⟩⟩
instance [KT α] : Uf (Ky α) := ⟨fun t ⟨p, e, h, o⟩ => ⟨p, e, t p _ rfl h, o⟩⟩
theorem ky_rep [KT α] {K : Frag} {x : Ky α} {v : V} {G : Hp} (h : Rp.rep K x v G) : Rp.rep K x.k v G := by
  obtain ⟨p, e, h, o⟩ := h
  subst e
  exact KT.rep h o
def kyk [KT α] (x : Ky α) : List L2.Key := KT.ks x.k
theorem kyk_inj [KT α] : ∀ a b : Ky α, kyk a = kyk b → a = b := fun a b h => by
  obtain ⟨a⟩ := a
  obtain ⟨b⟩ := b
  exact congrArg Ky.mk (KT.inj a b h)
instance [KT α] [DecidableEq α] : DKy (Ky α) where
  ho kvs := .dT (kvs.map fun p => (kyk p.1, p.2))
  get := fun {K G H k y p kvs} ⟨b, r, hb, _⟩ s e => by
    subst r
    rw [← valV_inj kyk_inj k kvs]
    exact .inr ⟨_, kyk k, b, e, rfl, s _ _ hb, rfl⟩
  put := fun {K G H k y v p kvs} ⟨b, r, hb, _⟩ s e l => by
    subst r
    rw [← putK_inj kyk_inj k v kvs]
    exact DPut.t (k := kyk k) e (s _ _ hb) (by rw [List.length_map]; exact l)
  isD := fun e => .inr ⟨_, e⟩
  mu := fun _ => trivial
instance [KT α] [Pd α] : Pd (Ky α) := ⟨fun x => Pd.pd x.k, fun h => Pd.dp (ky_rep h), Pd.n α, fun h => Pd.dep (ky_rep h), fun h => Pd.lay (ky_rep h), fun x y => by
  rw [Pd.eq]
  exact ⟨fun h => by cases x; cases y; exact congrArg Ky.mk h, fun h => congrArg Ky.k h⟩⟩
instance [KT α] [Pd α] [AN α] : AN (Ky α) := ⟨fun a => AN.l a.k, fun a => AN.r a.k⟩
variable {c : Cn} {W0 : Wd} {X : WX} {As : List Sl} {K : Frag}
/-! displays -/
end
/-! ### list(d), d of such keys -/
section
variable {α β : Type} [Rp α] [KT α] [DecidableEq α] [Rp β] {K : Frag}
end
/-! ### orders -/
class Lt (α : Type) [Rp α] [Pd α] [DecidableEq α] where
  lt : α → α → Bool
  is : ∀ a b : α, PySem.W.dataLt (Pd.pd a) (Pd.pd b) = lt a b
  al : ∀ a b : α, PySem.W.alike (Pd.pd a) (Pd.pd b) = true
theorem dataLt_self' (d : PyData) : PySem.W.dataLt d d = false := PyProof.Rows.lex_irrefl _
instance : Lt Int := ⟨fun a b => decide (a < b), fun a b => PySem.W.dataLt_int a b, fun a b => by simp [Pd.pd, PySem.W.alike]⟩
instance : Lt Str := ⟨fun a b => decide (a.cps.toList < b.cps.toList), fun a b => PySem.W.dataLt_str a b, fun a b => by simp [Pd.pd, PySem.W.alike]⟩
section
variable {α β γ δ : Type} [Rp α] [Rp β] [Rp γ] [Rp δ] [Pd α] [Pd β] [Pd γ] [Pd δ] [DecidableEq α] [DecidableEq β] [DecidableEq γ] [DecidableEq δ] [Lt α] [Lt β] [Lt γ] [Lt δ]
theorem eqv_if {b : Bool} {x y : α} {t e : Bool} (h : b = PyData.eqv (Pd.pd x) (Pd.pd y)) : (if b = true then t else e) = if x = y then t else e := by
  subst h
  by_cases q : x = y
  · rw [if_pos q, if_pos ((Pd.eq x y).mpr q)]
  · rw [if_neg q, if_neg fun z => q ((Pd.eq x y).mp z)]
instance : Lt (α × β) := ⟨fun a b => if a.1 = b.1 then Lt.lt a.2 b.2 else Lt.lt a.1 b.1, fun a b => by
  show PySem.W.dataLt (.tuple [Pd.pd a.1, Pd.pd a.2]) (.tuple [Pd.pd b.1, Pd.pd b.2]) = _
  rw [PySem.W.dataLt_tuple, PySem.W.dataLt_cons (Lt.al _ _), eqv_if rfl, PySem.W.dataLt_cons (Lt.al _ _), eqv_if rfl, Lt.is, Lt.is]
  by_cases q : a.1 = b.1
  · rw [if_pos q, if_pos q]
    by_cases q2 : a.2 = b.2
    · rw [if_pos q2, q2, ← Lt.is, dataLt_self']; rfl
    · rw [if_neg q2]
  · rw [if_neg q, if_neg q], fun a b => by simp [Pd.pd, PySem.W.alike, PySem.W.alikeAll, Lt.al]⟩
instance : Lt (T4 α β γ δ) := ⟨fun a b => if a.a = b.a then (if a.b = b.b then (if a.c = b.c then Lt.lt a.d b.d else Lt.lt a.c b.c) else Lt.lt a.b b.b) else Lt.lt a.a b.a, fun a b => by
  show PySem.W.dataLt (.tuple [Pd.pd a.a, Pd.pd a.b, Pd.pd a.c, Pd.pd a.d]) (.tuple [Pd.pd b.a, Pd.pd b.b, Pd.pd b.c, Pd.pd b.d]) = _
  rw [PySem.W.dataLt_tuple, PySem.W.dataLt_cons (Lt.al _ _), eqv_if rfl, PySem.W.dataLt_cons (Lt.al _ _), eqv_if rfl, PySem.W.dataLt_cons (Lt.al _ _), eqv_if rfl, PySem.W.dataLt_cons (Lt.al _ _), eqv_if rfl, Lt.is, Lt.is, Lt.is, Lt.is]
  by_cases q2 : a.d = b.d
  · rw [if_pos q2, q2, ← Lt.is (Lt.lt (α := δ) b.d b.d |> fun _ => b.d) b.d, dataLt_self']; rfl
  · rw [if_neg q2], fun a b => by simp [Pd.pd, PySem.W.alike, PySem.W.alikeAll, Lt.al]⟩
instance [KT α] : Lt (Ky α) := ⟨fun a b => Lt.lt a.k b.k, fun a b => Lt.is (α := α) a.k b.k, fun a b => Lt.al (α := α) a.k b.k⟩
/-- what reads as its data -/
class Rdd (α : Type) [Rp α] [Pd α] where
  rd : ∀ {K : Frag} {G H : Hp} {x : α} {v : V}, Inc G H → Rp.rep K x v G → RdD K (Pd.pd x) v H
instance : Rdd Int := ⟨fun s h => by cases h; exact rd_int _⟩
instance : Rdd Str := ⟨fun s h => by
  cases h.1
  exact fun P w h u _ _ ⟨t, e⟩ => by rw [e]; exact .str _ t⟩
instance [Rdd α] [Rdd β] : Rdd (α × β) := ⟨fun s ⟨p, a, b, e, h, r1, r2⟩ => by
  subst e
  exact rd_tup (s.sqt h) (Al.cons (Rdd.rd s r1) (Al.one (Rdd.rd s r2)))⟩
instance [Rdd α] [Rdd β] [Rdd γ] [Rdd δ] : Rdd (T4 α β γ δ) := ⟨fun s ⟨p, a, b, c, d, e, h, r1, r2, r3, r4⟩ => by
  subst e
  exact rd_tup (s.sqt h) (Al.cons (Rdd.rd s r1) (Al.cons (Rdd.rd s r2) (Al.cons (Rdd.rd s r3) (Al.one (Rdd.rd s r4)))))⟩
instance [KT α] [Rdd α] : Rdd (Ky α) := ⟨fun {K G H x v} s h => Rdd.rd (α := α) (x := x.k) s (ky_rep h)⟩
end
/-! ### sorted(xs), xs tuples -/
section
open PySem.Spec PyProof.Rows PySem.Calls
variable {X : Cx} {k : Nat}
end
section
variable {α : Type} [Rp α] [Pd α] [DecidableEq α] [Lt α] [Rdd α] {K : Frag}
class TupD (α : Type) [Rp α] [Pd α] where
  tup : ∀ x : α, ∃ d r, Pd.pd x = .tuple (d :: r)
instance {α β : Type} [Rp α] [Rp β] [Pd α] [Pd β] : TupD (α × β) := ⟨fun x => ⟨_, _, rfl⟩⟩
instance {α β γ δ : Type} [Rp α] [Rp β] [Rp γ] [Rp δ] [Pd α] [Pd β] [Pd γ] [Pd δ] : TupD (T4 α β γ δ) := ⟨fun x => ⟨_, _, rfl⟩⟩
instance {α : Type} [Rp α] [KT α] [Pd α] [h : TupD α] : TupD (Ky α) := ⟨fun x => h.tup x.k⟩
end
end Fw

namespace Fw
open PySem L2
/-! ### the keys of a locked dict, tuples, walked -/
section
variable {c : Cn} {W0 : Wd} {X : WX} {As : List Sl} {α β : Type} [Rp α] [KT α] [DecidableEq α] [Rp β]
end
/-! ### instances of own classes -/
/-- a field that is frozen -/
structure Fr (α : Type) where
  x : α
deriving DecidableEq
instance {α : Type} [Rp α] : Rp (Fr α) := ⟨fun K x v G => Rp.rep K x.x v G, fun s h => Rp.mono s h⟩
instance {α : Type} [Rp α] : Fz (Fr α) where
  own := fun K x v f W => f = [] ∧ Rp.rep K x.x v W.G
  keep := fun ⟨e, r⟩ s _ _ => ⟨e, Rp.mono s r⟩
  foot := fun ⟨e, r⟩ a ha => by subst e; cases ha
  fz := fun {K x v f W} ⟨e, r⟩ => Rp.mono Wd.fz_sub r
/-- fields -/
class Fs (φ : Type) where
  names : List Str
  own : Frag → φ → List (Str × V) → List Addr → Wd → Prop
  rep : Frag → φ → List (Str × V) → Hp → Prop
  nm : ∀ {K : Frag} {x : φ} {fs : List (Str × V)} {f : List Addr} {W : Wd}, own K x fs f W → fs.map (·.1) = names
  rm : ∀ {K : Frag} {x : φ} {fs : List (Str × V)} {G : Hp}, rep K x fs G → fs.map (·.1) = names
  mono : ∀ {K : Frag} {x : φ} {fs : List (Str × V)} {G H : Hp}, Inc G H → rep K x fs G → rep K x fs H
  keep : ∀ {K : Frag} {x : φ} {fs : List (Str × V)} {f : List Addr} {W W' : Wd}, own K x fs f W → Inc W.G W'.G → (∀ a ∈ f, W'.G a = none) → (∀ a ∈ f, W'.H a = W.H a) → own K x fs f W'
  foot : ∀ {K : Frag} {x : φ} {fs : List (Str × V)} {f : List Addr} {W : Wd}, own K x fs f W → ∀ a ∈ f, W.G a = none ∧ W.H a ≠ none
  fz : ∀ {K : Frag} {x : φ} {fs : List (Str × V)} {f : List Addr} {W : Wd}, own K x fs f W → rep K x fs (W.fz f).G
/-- none -/
structure Fn where
deriving DecidableEq
instance : Fs Fn where
  names := []
  own := fun _ _ fs f _ => fs = [] ∧ f = []
  rep := fun _ _ fs _ => fs = []
  nm := fun ⟨e, _⟩ => by rw [e]; rfl
  rm := fun e => by rw [e]; rfl
  mono := fun _ h => h
  keep := fun h _ _ _ => h
  foot := fun ⟨_, e⟩ a ha => by subst e; cases ha
  fz := fun ⟨e, _⟩ => e
/-- one more -/
structure Fd (φ : Type) (n : Str) (α : Type) where
  r : φ
  x : α
section
variable {φ φ' α β γ : Type} {n m : Str}
instance [Fs φ] [Fz α] : Fs (Fd φ n α) where
  names := Fs.names φ ++ [n]
  own := fun K x fs f W => ∃ fs' v f1 f2, fs = fs' ++ [(n, v)] ∧ f = f1 ++ f2 ∧ Fs.own K x.r fs' f1 W ∧ Ob.own K x.x v f2 W ∧ ∀ a ∈ f1, a ∉ f2
  rep := fun K x fs G => ∃ fs' v, fs = fs' ++ [(n, v)] ∧ Fs.rep K x.r fs' G ∧ Rp.rep K x.x v G
  nm := fun ⟨fs', v, f1, f2, e, _, o, _⟩ => by rw [e, List.map_append, Fs.nm o]; rfl
  rm := fun ⟨fs', v, e, o, _⟩ => by rw [e, List.map_append, Fs.rm o]; rfl
  mono := fun s ⟨fs', v, e, r1, r2⟩ => ⟨fs', v, e, Fs.mono s r1, Rp.mono s r2⟩
  keep := fun {K x fs f W W'} ⟨fs', v, f1, f2, e, ef, o1, o2, d⟩ s n k => by
    subst ef
    exact ⟨fs', v, f1, f2, e, rfl, Fs.keep o1 s (fun a ha => n a (List.mem_append_left _ ha)) (fun a ha => k a (List.mem_append_left _ ha)), Ob.keep o2 s (fun a ha => n a (List.mem_append_right _ ha)) (fun a ha => k a (List.mem_append_right _ ha)), d⟩
  foot := fun {K x fs f W} ⟨fs', v, f1, f2, e, ef, o1, o2, d⟩ a ha => by
    subst ef
    rcases List.mem_append.mp ha with z | z
    · exact Fs.foot o1 a z
    · exact Ob.foot o2 a z
  fz := fun {K x fs f W} ⟨fs', v, f1, f2, e, ef, o1, o2, d⟩ => by
    subst ef
    refine ⟨fs', v, e, Fs.mono (fun a o h => ?_) (Fs.fz o1), fz_more (Fz.fz o2) fun a ha => List.mem_append_right _ ha⟩
    by_cases q : a ∈ f1
    · rw [Wd.fz_in q] at h; rw [Wd.fz_in (List.mem_append_left _ q)]; exact h
    · rw [Wd.fz_ni q] at h
      by_cases q2 : a ∈ f1 ++ f2
      · rw [Wd.fz_in q2]; exact W.sub _ _ h
      · rw [Wd.fz_ni q2]; exact h
theorem lookup_app_in {fs : List (Str × V)} {n : Str} {v : V} {m : Str} {w : V} (h : fs.lookup m = some w) : (fs ++ [(n, v)]).lookup m = some w := by
  induction fs with
  | nil => cases h
  | cons p fs ih =>
    obtain ⟨a, b⟩ := p
    rw [List.lookup_cons] at h
    show List.lookup m ((a, b) :: (fs ++ [(n, v)])) = _
    rw [List.lookup_cons]
    cases q : m == a with
    | true => rw [q] at h; exact h
    | false => rw [q] at h; exact ih h
/-- a field among others, perhaps exchanged by one of another kind -/
structure Sel (φ φ' : Type) [Fs φ] [Fs φ'] (n : Str) (α β : Type) [Fz α] [Fz β] where
  get : φ → α
  set : φ → β → φ'
  rep : ∀ {K : Frag} {x : φ} {fs : List (Str × V)} {G : Hp}, Fs.rep K x fs G → ∃ v, fs.lookup n = some v ∧ Rp.rep K (get x) v G
  chg : ∀ {K : Frag} {x : φ} {fs : List (Str × V)} {f : List Addr} {W : Wd}, Fs.own K x fs f W → ∃ v f1, fs.lookup n = some v ∧ Ob.own K (get x) v f1 W ∧ (∀ a ∈ f1, a ∈ f) ∧
    (∀ (W' : Wd) (y : β) f1', Inc W.G W'.G → (∀ a ∈ f, a ∉ f1 → W'.G a = none ∧ W'.H a = W.H a) → Ob.own K y v f1' W' → (∀ a ∈ f1', a ∈ f1 ∨ W.H a = none) → ∃ f', Fs.own K (set x y) fs f' W' ∧ ∀ a ∈ f', a ∈ f ∨ W.H a = none) ∧
    ∀ (W' : Wd) f1', Inc W.G W'.G → (∀ a ∈ f, a ∉ f1 → W'.G a = none ∧ W'.H a = W.H a) → Ob.own K (get x) v f1' W' → (∀ a ∈ f1', a ∈ f1 ∨ W.H a = none) → ∃ f', Fs.own K x fs f' W' ∧ ∀ a ∈ f', a ∈ f ∨ W.H a = none
def Sel.up [Fs φ] [Fs φ'] [Fz α] [Fz β] [Fz γ] (s : Sel φ φ' n α β) : Sel (Fd φ m γ) (Fd φ' m γ) n α β where
  get := fun x => s.get x.r
  set := fun x y => ⟨s.set x.r y, x.x⟩
  rep := fun {K x fs G} ⟨fs', v, e, r1, r2⟩ => by
    obtain ⟨w, hw, r⟩ := s.rep r1
    exact ⟨w, by rw [e]; exact lookup_app_in hw, r⟩
  chg := fun {K x fs f W} ⟨fs', v, f1, f2, e, ef, o1, o2, d⟩ => by
    subst ef
    obtain ⟨w, g1, hw, ow, sg, k1, k0⟩ := s.chg o1
    have dg : ∀ a ∈ f2, a ∉ g1 := fun a ha hb => d a (sg a hb) ha
    have go : ∀ {ψ : Type} [Fs ψ] (z : ψ) (W' : Wd) (f1' : List Addr), Inc W.G W'.G → (∀ a ∈ f1 ++ f2, a ∉ g1 → W'.G a = none ∧ W'.H a = W.H a) → Fs.own K z fs' f1' W' → (∀ a ∈ f1', a ∈ f1 ∨ W.H a = none) → ∃ f', Fs.own K (Fd.mk z x.x : Fd ψ m γ) fs f' W' ∧ ∀ a ∈ f', a ∈ f1 ++ f2 ∨ W.H a = none := fun {ψ} _ z W' f1' si k of hf1 => by
      refine ⟨f1' ++ f2, ⟨fs', v, f1', f2, e, rfl, of, Ob.keep o2 si (fun a ha => (k a (List.mem_append_right _ ha) (dg a ha)).1) (fun a ha => (k a (List.mem_append_right _ ha) (dg a ha)).2), fun a ha hb => ?_⟩, fun a ha => ?_⟩
      · rcases hf1 a ha with z | z
        · exact d a z hb
        · exact (Ob.foot o2 a hb).2 z
      · rcases List.mem_append.mp ha with z | z
        · exact (hf1 a z).imp (List.mem_append_left _) id
        · exact .inl (List.mem_append_right _ z)
    refine ⟨w, g1, by rw [e]; exact lookup_app_in hw, ow, fun a ha => List.mem_append_left _ (sg a ha), fun W' y g1' si k o' hf => ?_, fun W' g1' si k o' hf => ?_⟩
    · obtain ⟨f1', of, hf1⟩ := k1 W' y g1' si (fun a ha hn => k a (List.mem_append_left _ ha) hn) o' hf
      exact go (s.set x.r y) W' f1' si k of hf1
    · obtain ⟨f1', of, hf1⟩ := k0 W' g1' si (fun a ha hn => k a (List.mem_append_left _ ha) hn) o' hf
      exact go x.r W' f1' si k of hf1
/-- an instance of the class named so -/
structure Ins (cls : Str) (φ : Type) where
  f : φ
variable {cls : Str}
instance [Fs φ] : Fz (Ins cls φ) where
  rep := fun K x v G => ∃ p C dx fs, v = .ref p ∧ G p = some (.ins C dx fs) ∧ PySem.W.nsIn K mainGlobals cls = some (some (.ref C)) ∧ Fs.rep K x.f fs G
  mono := fun s ⟨p, C, dx, fs, e, h, hc, r⟩ => ⟨p, C, dx, fs, e, s _ _ h, hc, Fs.mono s r⟩
  own := fun K x v f W => ∃ p C dx fs f1, v = .ref p ∧ f = p :: f1 ∧ p ∉ f1 ∧ W.G p = none ∧ W.H p = some (.ins C dx fs) ∧ PySem.W.nsIn K mainGlobals cls = some (some (.ref C)) ∧ Fs.own K x.f fs f1 W
  keep := fun {K x v f W W'} ⟨p, C, dx, fs, f1, e, ef, np, g, h, hc, o⟩ s n k => by
    subst ef
    exact ⟨p, C, dx, fs, f1, e, rfl, np, n p List.mem_cons_self, (k p List.mem_cons_self).trans h, hc, Fs.keep o s (fun a ha => n a (List.mem_cons_of_mem _ ha)) fun a ha => k a (List.mem_cons_of_mem _ ha)⟩
  foot := fun {K x v f W} ⟨p, C, dx, fs, f1, e, ef, np, g, h, hc, o⟩ a ha => by
    subst ef
    rcases List.mem_cons.mp ha with z | z
    · subst z; exact ⟨g, by rw [h]; exact fun z => nomatch z⟩
    · exact Fs.foot o a z
  fz := fun {K x v f W} ⟨p, C, dx, fs, f1, e, ef, np, g, h, hc, o⟩ => by
    subst ef
    refine ⟨p, C, dx, fs, e, (Wd.fz_in List.mem_cons_self).trans h, hc, Fs.mono (fun a u q => ?_) (Fs.fz o)⟩
    by_cases z : a ∈ f1
    · rw [Wd.fz_in z] at q; rw [Wd.fz_in (List.mem_cons_of_mem _ z)]; exact q
    · rw [Wd.fz_ni z] at q
      by_cases z2 : a ∈ p :: f1
      · rw [Wd.fz_in z2]; exact W.sub _ _ q
      · rw [Wd.fz_ni z2]; exact q
/-- what the text says of a class: its place, plain, none of the fields is one of its names -/
structure ClT (K : Frag) (cls : Str) (C : Addr) (ns : List Str) : Prop where
  at_ : PySem.W.nsIn K mainGlobals cls = some (some (.ref C))
  cl : Cls K C
  no : ∀ n ∈ ns, NoAttr K C n
theorem ClT.eq {K : Frag} {C C' : Addr} {ns : List Str} (h : ClT K cls C ns) (e : PySem.W.nsIn K mainGlobals cls = some (some (.ref C'))) : C' = C := by
  rw [h.at_] at e
  cases e; rfl
end
section
variable {φ φ' α β γ : Type} {n cls : Str} [Fs φ] [Fs φ'] {c : Cn} {W0 : Wd} {X : WX} {As : List Sl} {C : Addr} {ns : List Str}
end
section
variable {φ φ' α β κ : Type} {n cls : Str} [Fs φ] [Fs φ'] {J S ρ : Type} {c : Cn} {X : WX} {kr : ρ → Kd} {Ls : List Sl} {Js : J → List Sl} {B : Bd} {As : List Sl} {Bs : S → List Sl} {C : Addr} {ns : List Str}
end
end Fw

namespace Fw
open PySem L2
/-! ### places: parts of one's own things, changed where they stand -/
section
variable {α β γ κ : Type} {c : Cn} {W0 : Wd} {X : WX} {As : List Sl}
variable {φ φ' : Type} {n cls : Str} [Fs φ] [Fs φ'] {C : Addr} {ns : List Str}
end
/-! ### changes -/
section
variable {α β γ κ τ : Type} {J S ρ : Type} {c : Cn} {X : WX} {kr : ρ → Kd} {Ls : List Sl} {Js : J → List Sl} {B : Bd} {As : List Sl} {Bs : S → List Sl}
variable [DecidableEq κ] [Rp κ] [DKy κ]
end
section
variable {α : Type} {c : Cn} {W0 : Wd} {X : WX} {As : List Sl}
end
end Fw

namespace Fw
open PySem L2
/-! ### d.setdefault(k, x), keys of any kind -/
section
open PySem.Spec PyProof.Rows
variable {X : Cx} {pins : List (Addr × Obj)} {σ : L2.St} {H : Hp} {s : Shared} {a : Addr} {y d : V} {u r : Value} {o : Option V} {A : Around} {E : Value → Shared → Prop}
variable {o e f : Expr} {td ty tx : TE} {apos cpos : Pos}
end
/-! ### a dict of one's own lists, keys of any kind -/
structure DGk (κ α : Type) where
  l : List (κ × List α)
deriving DecidableEq
section
variable {κ α : Type} [DecidableEq κ] [Rp κ] [DKy κ] [Rp α]
theorem dk_of' {K : Frag} {β : Type} [Rp β] {G : Hp} : ∀ {x : List (κ × β)} {q : List (κ × V)}, q.map (·.1) = x.map (·.1) → Al (fun x v => Rp.rep K x v G) (x.map (·.2)) (q.map (·.2)) → DR K x q G
  | [], [], _, _ => trivial
  | p :: x, e :: q, h, a => by
    rw [List.map_cons, List.map_cons] at h
    injection h with h1 h2
    exact ⟨h1.symm, a.2 0 p.2 e.2 rfl rfl, dk_of' h2 ⟨by have := a.1; simpa using this, fun i y w h1 h2 => a.2 (i + 1) y w h1 h2⟩⟩
  | [], _ :: _, h, _ => by simp at h
  | _ :: _, [], h, _ => by simp at h
instance : Rp (DGk κ α) := ⟨fun K x v G => Rp.rep K (Dq.mk x.l : Dq κ (List α)) v G, fun s h => Rp.mono s h⟩
def ownK (K : Frag) (x : DGk κ α) (v : V) (f : List Addr) (W : Wd) : Prop := ∃ (p : Addr) (q : List (κ × V)) (qs : List Addr), v = .ref p ∧ f = p :: qs ∧ (p :: qs).Nodup ∧ W.G p = none ∧ W.H p = some (DKy.ho q) ∧ q.map (·.1) = x.l.map (·.1) ∧ q.map (·.2) = qs.map V.ref ∧ (x.l.map (·.1)).Nodup ∧ DRows K (x.l.map (·.2)) qs W ∧ x.l.length ≤ sizeLine
theorem ho_ne (q : List (κ × V)) : some (DKy.ho q) ≠ none := fun z => nomatch z
instance : Fz (DGk κ α) where
  own := ownK
  keep := fun {K x v f W W'} ⟨p, q, qs, e, ef, nd, g, h, k1, k2, kn, r, l⟩ s n k => by
    subst ef
    exact ⟨p, q, qs, e, rfl, nd, n p (by simp), (k p (by simp)).trans h, k1, k2, kn, r.keep s (fun b hb => n b (List.mem_cons_of_mem _ hb)) fun b hb => k b (List.mem_cons_of_mem _ hb), l⟩
  foot := fun {K x v f W} ⟨p, q, qs, e, ef, nd, g, h, k1, k2, kn, r, l⟩ b hb => by
    subst ef
    rcases List.mem_cons.mp hb with z | hb
    · subst z
      exact ⟨g, by rw [h]; exact ho_ne q⟩
    · exact r.foot b hb
  fz := fun {K x v f W} ⟨p, q, qs, e, ef, nd, g, h, k1, k2, kn, r, l⟩ => by
    subst ef
    refine ⟨p, q, e, (Wd.fz_in (by simp)).trans h, dk_of' k1 ?_, l⟩
    rw [k2]
    exact r.rep Wd.fz_sub fun q hq => Wd.fz_in (List.mem_cons_of_mem _ hq)
variable {c : Cn} {W0 : Wd} {X : WX} {As : List Sl}
variable {J S ρ : Type} {kr : ρ → Kd} {Ls : List Sl} {Js : J → List Sl} {B : Bd} {Bs : S → List Sl}
end
end Fw

namespace Fw
open PySem L2
/-! ### methods -/
section
open PySem.Spec PyProof.Rows
variable {X : Cx} {CX : CXT} {k : Nat} {f C : Addr} {fd : FuncData} {ps : List Str} {sp : Sp} {E : L2.St → XK} {x m : Str} {p pos apos : Pos} {e o : Expr} {es : List Expr} {ta : TE} {t : TA}
end
/-! ### promises of methods -/
section
variable {α β ρ τ : Type} {c : Cn}
variable {N : List Str} {n : Nat} {t : TS} {vs : List V} {H : Hp} {Q : VK} {E : XK} [Args τ] [Ob α] [Ob β]
end
end Fw

namespace Fw
open PySem L2
/-! ### calls of methods -/
section
variable {α β γ ρ τ φ φ' : Type} {cls m : Str} {C : Addr} {ns : List Str} {c : Cn} {W0 : Wd} {X : WX} {As : List Sl} [Args τ] [Fs φ] [Fs φ']
variable {J S : Type} {ρ' : Type} {kr' : ρ' → Kd} {Ls : List Sl} {Js : J → List Sl} {B : Bd} {Bs : S → List Sl}
end
end Fw

namespace Fw
open PySem L2
/-! ### changes of the fields of what a slot holds -/
section
variable {φ φ' α β κ τ ρ : Type} {n m cls : Str} [Fs φ] [Fs φ'] {J S ρ' : Type} {c : Cn} {X : WX} {kr : ρ' → Kd} {Ls : List Sl} {Js : J → List Sl} {B : Bd} {As : List Sl} {Bs : S → List Sl} {C : Addr} {ns : List Str} {x : Ins cls φ} {pin : Option V}
variable [DecidableEq κ] [Rp κ] [DKy κ]
end
section
variable {X : Cx} {K : Frag} {e : Expr} {f : Str} {pos : Pos} {ta : TE}
end
/-! ### d.get(k) -/
section
variable {κ α : Type} [DecidableEq κ] [Rp κ] [DKy κ] [Rp α] {c : Cn} {W0 : Wd} {X : WX} {As : List Sl}
instance [KT α] : NN (Ky α) := ⟨fun ⟨p, e, _⟩ z => by rw [e] at z; cases z⟩
end
end Fw

namespace Fw
open PySem L2
/-! ### a, b = a list -/
section
variable {J S ρ α : Type} {c : Cn} {X : WX} {kr : ρ → Kd} {Ls : List Sl} {Js : J → List Sl} {B : Bd} {As : List Sl} {Bs : S → List Sl} {W0 : Wd}
end
/-! ### x < y, data that are alike -/
section
variable {α : Type} [Rp α] [Pd α] [DecidableEq α] [Lt α] [Rdd α] {K : Frag}
end
/-! ### a thing that is gone: nothing is known of it -/
structure Gone where
deriving DecidableEq
instance : Rp Gone := ⟨fun _ _ _ _ => True, fun _ h => h⟩
instance : Fz Gone where
  own := fun _ _ _ f _ => f = []
  keep := fun h _ _ _ => h
  foot := fun h a ha => by
    have h' := h
    subst h'
    cases ha
  fz := fun _ => trivial
section
variable {J S ρ α β γ : Type} {c : Cn} {X : WX} {kr : ρ → Kd} {Ls : List Sl} {Js : J → List Sl} {B : Bd} {As : List Sl} {Bs : S → List Sl} {W0 : Wd}
end
end Fw

namespace Fw
open PySem L2
section
variable {J S ρ α β : Type} {c : Cn} {X : WX} {Ls : List Sl} {Js : J → List Sl} {B : Bd} {As : List Sl} {Bs : S → List Sl} {W0 : Wd}
end
end Fw

namespace Fw
open PySem L2
section
variable {J S ρ α β γ δ : Type} {c : Cn} {X : WX} {kr : ρ → Kd} {Ls : List Sl} {Js : J → List Sl} {B : Bd} {As : List Sl} {Bs : S → List Sl} {W0 : Wd}
end
end Fw

namespace Fw
open PySem L2
/-! ### x = xs.pop(0) -/
section
variable {J S ρ α : Type} {c : Cn} {X : WX} {kr : ρ → Kd} {Ls : List Sl} {Js : J → List Sl} {B : Bd} {As : List Sl} {Bs : S → List Sl}
end
/-! ### a pair: the first one's own, the second frozen -/
structure PF (α β : Type) where
  a : α
  b : β
instance {α β : Type} [Ob α] [Rp β] : Ob (PF α β) where
  own := fun K x v f W => ∃ p va vb, v = .ref p ∧ W.G p = some (.tup [va, vb]) ∧ Ob.own K x.a va f W ∧ Rp.rep K x.b vb W.G
  keep := fun {K x v f W W'} ⟨p, va, vb, e, hp, o, r⟩ s n k => ⟨p, va, vb, e, s _ _ hp, Ob.keep o s n k, Rp.mono s r⟩
  foot := fun {K x v f W} ⟨p, va, vb, e, hp, o, r⟩ a ha => Ob.foot o a ha
instance {α β : Type} [Ob α] [Rp β] [UfO α] [Uf β] : UfO (PF α β) := ⟨fun {K x v f W W'} t n k ⟨p, va, vb, e, hp, o, r⟩ => ⟨p, va, vb, e, t p _ rfl hp, UfO.uf t n k o, Uf.uf t r⟩⟩
section
variable {J S ρ α β : Type} {c : Cn} {X : WX} {kr : ρ → Kd} {Ls : List Sl} {Js : J → List Sl} {B : Bd} {As : List Sl} {Bs : S → List Sl} {W0 : Wd}
end
/-! ### sorted(d), d by tuples; by whole numbers -/
section
open PySem.Spec PyProof.Rows PySem.Calls
variable {P : Program} {w : World} {A : Around} {E : Value → Shared → Prop} {s : Shared}
end
section
variable {K : Frag} {κ β : Type} [Rp κ] [KT κ] [DecidableEq κ] [Rp β]
end
section
variable {K : Frag} {α : Type} [Rp α]
end
end Fw

namespace Fw
open PySem L2
/-! ### x = d.pop(k), keys of any kind -/
def DPop (H : Hp) (a : Addr) (y v : V) (H' : Hp) : Prop :=
  (∃ (kvs : List (Key × V)) (k : Key), H a = some (.dK kvs) ∧ y = L2.kV k ∧ valV kvs k = some v ∧ H' = upd H a (.dK (dropK kvs k))) ∨
  ∃ (kvs : List (List Key × V)) (k : List Key) (b : Addr), H a = some (.dT kvs) ∧ y = .ref b ∧ H b = some (.tup (k.map L2.kV)) ∧ valV kvs k = some v ∧ H' = upd H a (.dT (dropK kvs k))
section
open PySem.Spec PyProof.Rows
variable {X : Cx} {pins : List (Addr × Obj)} {σ : L2.St} {H H' : Hp} {s : Shared} {a : Addr} {y v : V} {u : Value} {A : Around} {E : Value → Shared → Prop}
variable {o e : Expr} {td ty : TE} {apos cpos : Pos}
end
section
theorem dropK_inj {κ μ : Type} [DecidableEq κ] [DecidableEq μ] {f : κ → μ} (hf : ∀ a b, f a = f b → a = b) (k : κ) (kvs : List (κ × V)) : dropK (kvs.map fun p => (f p.1, p.2)) (f k) = (dropK kvs k).map fun p => (f p.1, p.2) := by
  unfold dropK
  rw [List.filter_map]
  congr 1
  refine List.filter_congr fun p _ => ?_
  show decide (f p.1 ≠ f k) = decide (p.1 ≠ k)
  by_cases e : p.1 = k
  · rw [e]; simp
  · rw [decide_eq_true (show p.1 ≠ k from e), decide_eq_true (show f p.1 ≠ f k from fun z => e (hf _ _ z))]
class PKy (κ : Type) [DecidableEq κ] [Rp κ] extends DKy κ where
  pop : ∀ {K : Frag} {G H : Hp} {k : κ} {y v : V} {p : Addr} {kvs : List (κ × V)}, Rp.rep K k y G → Inc G H → H p = some (DKy.ho kvs) → valV kvs k = some v → DPop H p y v (upd H p (DKy.ho (dropK kvs k)))
instance : PKy Int where
  pop := fun {K G H k y v p kvs} r _ e l => by
    have r' : y = .int k := r
    subst r'
    refine .inl ⟨_, kI k, e, rfl, ?_, ?_⟩
    · rw [valV_inj kI_inj]; exact l
    · rw [dropK_inj kI_inj]; rfl
instance : PKy Str where
  pop := fun {K G H k y v p kvs} r _ e l => by
    have r' : y = .str k := r.1
    subst r'
    refine .inl ⟨_, kS k, e, rfl, ?_, ?_⟩
    · rw [valV_inj kS_inj]; exact l
    · rw [dropK_inj kS_inj]; rfl
instance {α : Type} [Rp α] [KT α] [DecidableEq α] : PKy (Ky α) where
  pop := fun {K G H k y v p kvs} ⟨b, r, hb, _⟩ s e l => by
    subst r
    refine .inr ⟨_, kyk k, b, e, rfl, s _ _ hb, ?_, ?_⟩
    · rw [valV_inj kyk_inj]; exact l
    · rw [dropK_inj kyk_inj]; rfl
end
section
variable {κ α : Type} [DecidableEq κ] [Rp κ] [PKy κ] [Rp α]
theorem DR.drop {K : Frag} {G : Hp} {k : κ} : ∀ {x : List (κ × α)} {q : List (κ × V)}, DR K x q G → DR K (x.filter fun p => decide (p.1 ≠ k)) (dropK q k) G
  | [], [], _ => trivial
  | p :: x, e :: q, h => by
    unfold dropK
    rw [List.filter_cons, List.filter_cons]
    obtain ⟨h1, h2, h3⟩ := h
    by_cases z : e.1 = k
    · rw [decide_eq_false (show ¬ p.1 ≠ k from fun w => w (h1 ▸ z)), decide_eq_false (show ¬ e.1 ≠ k from fun w => w z)]
      exact DR.drop h3
    · rw [decide_eq_true (show p.1 ≠ k from fun w => z (h1 ▸ w)), decide_eq_true (show e.1 ≠ k from z), if_pos rfl, if_pos rfl]
      exact ⟨h1, h2, DR.drop h3⟩
  | [], _ :: _, h => h.elim
  | _ :: _, [], h => h.elim
variable {J S ρ : Type} {c : Cn} {X : WX} {kr : ρ → Kd} {Ls : List Sl} {Js : J → List Sl} {B : Bd} {As : List Sl} {Bs : S → List Sl}
end
end Fw

namespace Fw
open PySem L2
/-! ### four in a tuple: the first and the last two lists of one's own -/
section
variable {α β γ δ : Type} [Rp α] [Rp β] [Rp γ] [Rp δ]
def own4 (K : Frag) (x : T4 (List α) β (List γ) (List δ)) (v : V) (f : List Addr) (W : Wd) : Prop := ∃ (p : Addr) (vb : V) (qa qc qd : Addr) (va vc vd : List V), v = .ref p ∧ W.G p = some (.tup [.ref qa, vb, .ref qc, .ref qd]) ∧ f = [qa, qc, qd] ∧ [qa, qc, qd].Nodup ∧ (∀ q ∈ [qa, qc, qd], W.G q = none) ∧
  W.H qa = some (.lst va) ∧ W.H qc = some (.lst vc) ∧ W.H qd = some (.lst vd) ∧ Al (fun x v => Rp.rep K x v W.G) x.a va ∧ Al (fun x v => Rp.rep K x v W.G) x.c vc ∧ Al (fun x v => Rp.rep K x v W.G) x.d vd ∧ Rp.rep K x.b vb W.G ∧ x.a.length ≤ sizeLine ∧ x.c.length ≤ sizeLine ∧ x.d.length ≤ sizeLine
instance : Fz (T4 (List α) β (List γ) (List δ)) where
  own := own4
  keep := fun {K x v f W W'} ⟨p, vb, qa, qc, qd, va, vc, vd, e, hp, ef, nd, g, h1, h2, h3, a1, a2, a3, rb, l⟩ s n k => by
    subst ef
    exact ⟨p, vb, qa, qc, qd, va, vc, vd, e, s _ _ hp, rfl, nd, n, (k qa (by simp)).trans h1, (k qc (by simp)).trans h2, (k qd (by simp)).trans h3, a1.imp fun _ _ r => Rp.mono s r, a2.imp fun _ _ r => Rp.mono s r, a3.imp fun _ _ r => Rp.mono s r, Rp.mono s rb, l⟩
  foot := fun {K x v f W} ⟨p, vb, qa, qc, qd, va, vc, vd, e, hp, ef, nd, g, h1, h2, h3, _⟩ a ha => by
    subst ef
    refine ⟨g a ha, ?_⟩
    simp only [List.mem_cons, List.not_mem_nil, or_false] at ha
    rcases ha with z | z | z <;> subst z
    · rw [h1]; exact fun z => nomatch z
    · rw [h2]; exact fun z => nomatch z
    · rw [h3]; exact fun z => nomatch z
  fz := fun {K x v f W} ⟨p, vb, qa, qc, qd, va, vc, vd, e, hp, ef, nd, g, h1, h2, h3, a1, a2, a3, rb, l1, l2, l3⟩ => by
    subst ef
    have s := Wd.fz_sub (W := W) (f := [qa, qc, qd])
    exact ⟨p, _, _, _, _, e, .inl (.inl (s _ _ hp)), ⟨qa, va, rfl, (Wd.fz_in (by simp)).trans h1, a1.imp fun _ _ r => Rp.mono s r, l1⟩, Rp.mono s rb, ⟨qc, vc, rfl, (Wd.fz_in (by simp)).trans h2, a2.imp fun _ _ r => Rp.mono s r, l2⟩, ⟨qd, vd, rfl, (Wd.fz_in (by simp)).trans h3, a3.imp fun _ _ r => Rp.mono s r, l3⟩⟩
end
/-- .. of which the lengths alone are known -/
structure Tri where
  la : Nat
  lc : Nat
  ld : Nat
def ownTri (x : Tri) (v : V) (f : List Addr) (W : Wd) : Prop := ∃ (p : Addr) (vb : V) (qa qc qd : Addr) (va vc vd : List V), v = .ref p ∧ W.G p = some (.tup [.ref qa, vb, .ref qc, .ref qd]) ∧ f = [qa, qc, qd] ∧ [qa, qc, qd].Nodup ∧ (∀ q ∈ [qa, qc, qd], W.G q = none) ∧
  W.H qa = some (.lst va) ∧ W.H qc = some (.lst vc) ∧ W.H qd = some (.lst vd) ∧ va.length = x.la ∧ vc.length = x.lc ∧ vd.length = x.ld
instance : Ob Tri where
  own := fun _ => ownTri
  keep := fun {K x v f W W'} ⟨p, vb, qa, qc, qd, va, vc, vd, e, hp, ef, nd, g, h1, h2, h3, l⟩ s n k => by
    subst ef
    exact ⟨p, vb, qa, qc, qd, va, vc, vd, e, s _ _ hp, rfl, nd, n, (k qa (by simp)).trans h1, (k qc (by simp)).trans h2, (k qd (by simp)).trans h3, l⟩
  foot := fun {K x v f W} ⟨p, vb, qa, qc, qd, va, vc, vd, e, hp, ef, nd, g, h1, h2, h3, _⟩ a ha => by
    subst ef
    refine ⟨g a ha, ?_⟩
    simp only [List.mem_cons, List.not_mem_nil, or_false] at ha
    rcases ha with z | z | z <;> subst z
    · rw [h1]; exact fun z => nomatch z
    · rw [h2]; exact fun z => nomatch z
    · rw [h3]; exact fun z => nomatch z
section
variable {α β γ δ ε : Type} [Rp α] [Rp β] [Rp γ] [Rp δ] [Rp ε]
variable {J S ρ : Type} {c : Cn} {X : WX} {kr : ρ → Kd} {Ls : List Sl} {Js : J → List Sl} {B : Bd} {As : List Sl} {Bs : S → List Sl} {W0 : Wd}
end
end Fw

namespace Fw
open PySem PySem.Spec PyProof.Rows L2
/-! ### values of many kinds: plain data of a bounded depth -/
structure Dy (n : Nat) where
  d : PyData
instance {n : Nat} : Rp (Dy n) := ⟨fun K x v G => Dp K G v x.d ∧ x.d.depth ≤ n ∧ x.d.canLay0 = true, fun s ⟨h, a, b⟩ => ⟨dp_mono s h, a, b⟩⟩
/-- what can be looked at as such a value -/
class Dn (α : Type) [Rp α] where
  toD : α → PyData
  dp : ∀ {K : Frag} {x : α} {v : V} {G : Hp}, Rp.rep K x v G → Dp K G v (toD x)
  n : Nat
  dep : ∀ {K : Frag} {x : α} {v : V} {G : Hp}, Rp.rep K x v G → (toD x).depth ≤ n
  lay : ∀ {K : Frag} {x : α} {v : V} {G : Hp}, Rp.rep K x v G → (toD x).canLay0 = true
instance : Dn Int := ⟨.int, Pd.dp, 0, Pd.dep, Pd.lay⟩
instance : Dn Bool := ⟨.bool, Pd.dp, 0, Pd.dep, Pd.lay⟩
instance : Dn Str := ⟨.str, Pd.dp, 0, Pd.dep, Pd.lay⟩
instance : Dn Unit := ⟨fun _ => .none, Pd.dp, 0, Pd.dep, Pd.lay⟩
instance {n : Nat} : Dn (Dy n) := ⟨Dy.d, fun h => h.1, n, fun h => h.2.1, fun h => h.2.2⟩
section
variable {α β γ δ : Type} [Rp α] [Dn α] [Rp β] [Dn β] [Rp γ] [Dn γ] [Rp δ] [Dn δ] {K : Frag}
theorem dnAll {G : Hp} : ∀ {xs : List α} {vs : List V}, Al (fun x v => Rp.rep K x v G) xs vs → DpAll K G vs (xs.map Dn.toD)
  | [], [], _ => .nil
  | [], v :: vs, h => by have := h.1; simp at this
  | x :: xs, [], h => by have := h.1; simp at this
  | x :: xs, v :: vs, h => .cons (Dn.dp (h.2 0 x v rfl rfl)) (dnAll ⟨by have := h.1; simpa using this, fun i y w a b => h.2 (i + 1) y w a b⟩)
theorem dnDepAll {G : Hp} : ∀ {xs : List α} {vs : List V}, Al (fun x v => Rp.rep K x v G) xs vs → PyData.depthAll (xs.map Dn.toD) ≤ Dn.n α
  | [], [], _ => by simp [PyData.depthAll]
  | [], v :: vs, h => by have := h.1; simp at this
  | x :: xs, [], h => by have := h.1; simp at this
  | x :: xs, v :: vs, h => by
    have h1 := Dn.dep (h.2 0 x v rfl rfl)
    have h2 := dnDepAll (xs := xs) (vs := vs) ⟨by have := h.1; simpa using this, fun i y w a b => h.2 (i + 1) y w a b⟩
    simp only [List.map_cons, PyData.depthAll]
    omega
theorem dnLayAll {G : Hp} : ∀ {xs : List α} {vs : List V}, Al (fun x v => Rp.rep K x v G) xs vs → PyData.canLayAll0 (xs.map Dn.toD) = true
  | [], [], _ => by simp [PyData.canLayAll0]
  | [], v :: vs, h => by have := h.1; simp at this
  | x :: xs, [], h => by have := h.1; simp at this
  | x :: xs, v :: vs, h => by
    have h1 := Dn.lay (h.2 0 x v rfl rfl)
    have h2 := dnLayAll (xs := xs) (vs := vs) ⟨by have := h.1; simpa using this, fun i y w a b => h.2 (i + 1) y w a b⟩
    simp only [List.map_cons, PyData.canLayAll0, h1, h2, Bool.and_self]
instance : Dn (List α) := ⟨fun xs => .list (xs.map Dn.toD), fun ⟨p, vs, e, h, al, l⟩ => by subst e; exact .lst (.inl (.inl h)) (dnAll al), Dn.n α + 1, fun ⟨p, vs, e, h, al, l⟩ => by
  simp only [PyData.depth]; have := dnDepAll al; omega, fun ⟨p, vs, e, h, al, l⟩ => by simp only [PyData.canLay0]; exact dnLayAll al⟩
instance : Dn (Tup α) := ⟨fun xs => .tuple (xs.l.map Dn.toD), fun ⟨p, vs, e, h, al, l⟩ => by subst e; exact .tup h (dnAll al), Dn.n α + 1, fun ⟨p, vs, e, h, al, l⟩ => by
  simp only [PyData.depth]; have := dnDepAll al; omega, fun ⟨p, vs, e, h, al, l⟩ => by simp only [PyData.canLay0]; exact dnLayAll al⟩
instance : Dn (α × β) := ⟨fun x => .tuple [Dn.toD x.1, Dn.toD x.2], fun ⟨p, a, b, e, h, r1, r2⟩ => by subst e; exact .tup h (.cons (Dn.dp r1) (.cons (Dn.dp r2) .nil)), max (Dn.n α) (Dn.n β) + 1, fun ⟨p, a, b, e, h, r1, r2⟩ => by
  simp only [PyData.depth, PyData.depthAll]; have := Dn.dep r1; have := Dn.dep r2; omega, fun ⟨p, a, b, e, h, r1, r2⟩ => by simp only [PyData.canLay0, PyData.canLayAll0, Dn.lay r1, Dn.lay r2, Bool.and_self]⟩
instance : Dn (T3 α β γ) := ⟨fun x => .tuple [Dn.toD x.a, Dn.toD x.b, Dn.toD x.c], fun ⟨p, a, b, d, e, h, r1, r2, r3⟩ => by subst e; exact .tup h (.cons (Dn.dp r1) (.cons (Dn.dp r2) (.cons (Dn.dp r3) .nil))), max (Dn.n α) (max (Dn.n β) (Dn.n γ)) + 1, fun ⟨p, a, b, d, e, h, r1, r2, r3⟩ => by
  simp only [PyData.depth, PyData.depthAll]; have := Dn.dep r1; have := Dn.dep r2; have := Dn.dep r3; omega, fun ⟨p, a, b, d, e, h, r1, r2, r3⟩ => by simp only [PyData.canLay0, PyData.canLayAll0, Dn.lay r1, Dn.lay r2, Dn.lay r3, Bool.and_self]⟩
instance : Dn (T4 α β γ δ) := ⟨fun x => .tuple [Dn.toD x.a, Dn.toD x.b, Dn.toD x.c, Dn.toD x.d], fun ⟨p, a, b, d, f, e, h, r1, r2, r3, r4⟩ => by subst e; exact .tup h (.cons (Dn.dp r1) (.cons (Dn.dp r2) (.cons (Dn.dp r3) (.cons (Dn.dp r4) .nil)))), max (Dn.n α) (max (Dn.n β) (max (Dn.n γ) (Dn.n δ))) + 1, fun ⟨p, a, b, d, f, e, h, r1, r2, r3, r4⟩ => by
  simp only [PyData.depth, PyData.depthAll]; have := Dn.dep r1; have := Dn.dep r2; have := Dn.dep r3; have := Dn.dep r4; omega, fun ⟨p, a, b, d, f, e, h, r1, r2, r3, r4⟩ => by simp only [PyData.canLay0, PyData.canLayAll0, Dn.lay r1, Dn.lay r2, Dn.lay r3, Dn.lay r4, Bool.and_self]⟩
instance : Dn (α ⊕ β) where
  toD x := match x with
    | .inl a => Dn.toD a
    | .inr b => Dn.toD b
  dp := fun {K x v G} h => by
    cases x with
    | inl a => exact Dn.dp (α := α) h
    | inr b => exact Dn.dp (α := β) h
  n := max (Dn.n α) (Dn.n β)
  dep := fun {K x v G} h => by
    cases x with
    | inl a => have := Dn.dep (α := α) h; dsimp only; omega
    | inr b => have := Dn.dep (α := β) h; dsimp only; omega
  lay := fun {K x v G} h => by
    cases x with
    | inl a => exact Dn.lay (α := α) h
    | inr b => exact Dn.lay (α := β) h
end
section
variable {α β : Type} [Rp α] [Rp β] {c : Cn} {W0 : Wd} {X : WX} {As : List Sl}
structure Cast (f : α → R β) : Prop where
  ex : ∀ x e, f x ≠ .ex e
  ok : ∀ {K : Frag} {x : α} {y : β} {v : V} {G : Hp}, f x = .ok y → Rp.rep K x v G → Rp.rep K y v G
end
section
variable {n : Nat} {K : Frag}
/-! == a text, in (a text, a text) -/
/-! list of a tuple -/
/-! isinstance -/
end
end Fw

/-! a text == a dict -/
namespace PySem.SeqAt
open AutoSeq1 (wpAny_loadPart')
open MeetsSeq
section
variable {A : Around} {s : Shared}
end
end PySem.SeqAt
namespace Fw
open PySem PySem.Spec PyProof.Rows L2
/-! ### values of many kinds, dicts among them -/
mutual
inductive Dx (K : Frag) (H : Hp) : V → PyData → Prop
  | non : Dx K H .non .none
  | bl (b : Bool) : Dx K H (.bl b) (.bool b)
  | int (i : Int) : Dx K H (.int i) (.int i)
  | str (x : Str) : Dx K H (.str x) (.str x)
  | lst {a : Addr} {xs : List V} {ds : List PyData} : SqL K H a xs → DxAll K H xs ds → Dx K H (.ref a) (.list ds)
  | tup {a : Addr} {xs : List V} {ds : List PyData} : SqT K H a xs → DxAll K H xs ds → Dx K H (.ref a) (.tuple ds)
  | dct {a : Addr} {o : Obj} {kvs : List (L2.Key × V)} : H a = some (.frz o (.dK kvs)) → Dx K H (.ref a) (.dict [])
inductive DxAll (K : Frag) (H : Hp) : List V → List PyData → Prop
  | nil : DxAll K H [] []
  | cons {v : V} {vs : List V} {d : PyData} {ds : List PyData} : Dx K H v d → DxAll K H vs ds → DxAll K H (v :: vs) (d :: ds)
end
section
variable {K : Frag}
mutual
theorem dx_mono {G H : Hp} (s : Inc G H) : ∀ {v : V} {d : PyData}, Dx K G v d → Dx K H v d
  | _, _, .non => .non
  | _, _, .bl b => .bl b
  | _, _, .int i => .int i
  | _, _, .str x => .str x
  | _, _, .lst h a => .lst (s.sql h) (dxAll_mono s a)
  | _, _, .tup h a => .tup (s.sqt h) (dxAll_mono s a)
  | _, _, .dct h => .dct (s _ _ h)
theorem dxAll_mono {G H : Hp} (s : Inc G H) : ∀ {vs : List V} {ds : List PyData}, DxAll K G vs ds → DxAll K H vs ds
  | _, _, .nil => .nil
  | _, _, .cons h t => .cons (dx_mono s h) (dxAll_mono s t)
end
mutual
theorem dp_dx {G : Hp} : ∀ {v : V} {d : PyData}, Dp K G v d → Dx K G v d
  | _, _, .non => .non
  | _, _, .bl b => .bl b
  | _, _, .int i => .int i
  | _, _, .str x => .str x
  | _, _, .lst h a => .lst h (dpAll_dx a)
  | _, _, .tup h a => .tup h (dpAll_dx a)
theorem dpAll_dx {G : Hp} : ∀ {vs : List V} {ds : List PyData}, DpAll K G vs ds → DxAll K G vs ds
  | _, _, .nil => .nil
  | _, _, .cons h t => .cons (dp_dx h) (dpAll_dx t)
end
mutual
theorem dx_dp {G : Hp} : ∀ {v : V} {d : PyData}, Dx K G v d → d.canLay0 = true → Dp K G v d
  | _, _, .non, _ => .non
  | _, _, .bl b, _ => .bl b
  | _, _, .int i, _ => .int i
  | _, _, .str x, _ => .str x
  | _, _, .lst h a, c => .lst h (dxAll_dp a (by simpa [PyData.canLay0] using c))
  | _, _, .tup h a, c => .tup h (dxAll_dp a (by simpa [PyData.canLay0] using c))
  | _, _, .dct h, c => by simp [PyData.canLay0] at c
theorem dxAll_dp {G : Hp} : ∀ {vs : List V} {ds : List PyData}, DxAll K G vs ds → PyData.canLayAll0 ds = true → DpAll K G vs ds
  | _, _, .nil, _ => .nil
  | _, _, .cons h t, c => by
    simp only [PyData.canLayAll0, Bool.and_eq_true] at c
    exact .cons (dx_dp h c.1) (dxAll_dp t c.2)
end
end
structure Dz where
  d : PyData
instance : Rp Dz := ⟨fun K x v G => Dx K G v x.d, fun s h => dx_mono s h⟩
class Dm (α : Type) [Rp α] where
  toX : α → PyData
  dx : ∀ {K : Frag} {x : α} {v : V} {G : Hp}, Rp.rep K x v G → Dx K G v (toX x)
instance : Dm Int := ⟨.int, fun h => dp_dx (Pd.dp h)⟩
instance : Dm Bool := ⟨.bool, fun h => dp_dx (Pd.dp h)⟩
instance : Dm Str := ⟨.str, fun h => dp_dx (Pd.dp h)⟩
instance : Dm Unit := ⟨fun _ => .none, fun h => dp_dx (Pd.dp h)⟩
instance : Dm Dz := ⟨Dz.d, fun h => h⟩
instance {α : Type} [Rp α] : Dm (Dk Int α) := ⟨fun _ => .dict [], fun ⟨p, q, o, e, h, a, l⟩ => by subst e; exact .dct h⟩
section
variable {α β γ δ : Type} [Rp α] [Dm α] [Rp β] [Dm β] [Rp γ] [Dm γ] [Rp δ] [Dm δ] {K : Frag}
theorem dmAll {G : Hp} : ∀ {xs : List α} {vs : List V}, Al (fun x v => Rp.rep K x v G) xs vs → DxAll K G vs (xs.map Dm.toX)
  | [], [], _ => .nil
  | [], v :: vs, h => by have := h.1; simp at this
  | x :: xs, [], h => by have := h.1; simp at this
  | x :: xs, v :: vs, h => .cons (Dm.dx (h.2 0 x v rfl rfl)) (dmAll ⟨by have := h.1; simpa using this, fun i y w a b => h.2 (i + 1) y w a b⟩)
instance : Dm (List α) := ⟨fun xs => .list (xs.map Dm.toX), fun ⟨p, vs, e, h, al, l⟩ => by subst e; exact .lst (.inl (.inl h)) (dmAll al)⟩
instance : Dm (Tup α) := ⟨fun xs => .tuple (xs.l.map Dm.toX), fun ⟨p, vs, e, h, al, l⟩ => by subst e; exact .tup h (dmAll al)⟩
instance : Dm (α × β) := ⟨fun x => .tuple [Dm.toX x.1, Dm.toX x.2], fun ⟨p, a, b, e, h, r1, r2⟩ => by subst e; exact .tup h (.cons (Dm.dx r1) (.cons (Dm.dx r2) .nil))⟩
instance : Dm (T3 α β γ) := ⟨fun x => .tuple [Dm.toX x.a, Dm.toX x.b, Dm.toX x.c], fun ⟨p, a, b, d, e, h, r1, r2, r3⟩ => by subst e; exact .tup h (.cons (Dm.dx r1) (.cons (Dm.dx r2) (.cons (Dm.dx r3) .nil)))⟩
instance : Dm (T4 α β γ δ) := ⟨fun x => .tuple [Dm.toX x.a, Dm.toX x.b, Dm.toX x.c, Dm.toX x.d], fun ⟨p, a, b, d, f, e, h, r1, r2, r3, r4⟩ => by subst e; exact .tup h (.cons (Dm.dx r1) (.cons (Dm.dx r2) (.cons (Dm.dx r3) (.cons (Dm.dx r4) .nil))))⟩
end
section
variable {K : Frag}
/-! == a text, in (a text, a text) -/
def isD : PyData → Bool
  | .dict _ => true
  | _ => false
/-! isinstance -/
end
end Fw

namespace Fw
open PySem L2
end Fw

namespace Fw
open PySem L2
/-! ### the keys of a dict by numbers, walked -/
section
variable {c : Cn} {W0 : Wd} {X : WX} {As : List Sl} {α : Type} [Rp α]
end
end Fw

namespace Fw
open PySem L2
/-! ### xss[i][j] = y -/
section
variable {α : Type} [Rp α] {K : Frag}
theorem DRows.at {W : Wd} : ∀ {xs : List (List α)} {qs : List Addr} {j : Nat} {r : List α}, DRows K xs qs W → xs[j]? = some r → ∃ q vs, qs[j]? = some q ∧ W.G q = none ∧ W.H q = some (.lst vs) ∧ Al (fun x v => Rp.rep K x v W.G) r vs ∧ r.length ≤ sizeLine
  | [], _, _, _, _, h => by simp at h
  | x :: xs, [], _, _, h, _ => h.elim
  | x :: xs, q :: qs, 0, r, h, e => by
    cases e
    obtain ⟨g, vs, hh, al, l⟩ := h.1
    exact ⟨q, vs, rfl, g, hh, al, l⟩
  | x :: xs, q :: qs, j + 1, r, h, e => DRows.at (j := j) h.2 e
variable {c : Cn} {X : WX} {As : List Sl} {J S ρ : Type} {kr : ρ → Kd} {Ls : List Sl} {Js : J → List Sl} {B : Bd} {Bs : S → List Sl}
end
end Fw

namespace Fw
open PySem L2
/-! ### raise C('text'), C an own class without own __init__ -/
section
variable {J S ρ : Type} {c : Cn} {X : WX} {kr : ρ → Kd} {Ls : List Sl} {Js : J → List Sl} {B : Bd} {As : List Sl} {Bs : S → List Sl}
end
end Fw

namespace Fw
open PySem PySem.Spec L2
open PyProof.Rows hiding St
/-! ### dict(zip(keys, values)) -/
end Fw
namespace Fw
open PySem L2
section
variable {c : Cn} {W0 : Wd} {X : WX} {As : List Sl} {β : Type} [Rp β] {K : Frag}
end
end Fw

namespace Fw
open PySem L2
/-! ### x < y of tuples and lists -/
section
variable {α β γ : Type} [Rp α] [Rp β] [Rp γ] [Pd α] [Pd β] [Pd γ] [DecidableEq α] [DecidableEq β] [DecidableEq γ] [Lt α] [Lt β] [Lt γ]
def llt : List α → List α → Bool
  | [], [] => false
  | [], _ :: _ => true
  | _ :: _, [] => false
  | x :: xs, y :: ys => if x = y then llt xs ys else Lt.lt x y
theorem llt_is : ∀ xs ys : List α, PyProof.Rows.lexLt PyProof.Rows.itemOrd (PySem.W.keyToksAll (xs.map Pd.pd)) (PySem.W.keyToksAll (ys.map Pd.pd)) = llt xs ys
  | [], [] => PyProof.Rows.lex_irrefl _
  | [], y :: ys => by
    rw [List.map_nil, List.map_cons]
    simp only [PySem.W.keyToksAll]
    rfl
  | x :: xs, [] => by
    rw [List.map_nil, List.map_cons]
    simp only [PySem.W.keyToksAll]
    rfl
  | x :: xs, y :: ys => by
    rw [List.map_cons, List.map_cons, PySem.W.dataLt_cons (Lt.al _ _), eqv_if rfl, llt_is xs ys, Lt.is]
    rfl
theorem llt_al : ∀ xs ys : List α, PySem.W.alikeAll (xs.map Pd.pd) (ys.map Pd.pd) = true
  | [], _ => by rw [List.map_nil, PySem.W.alikeAll]
  | x :: xs, [] => by simp [PySem.W.alikeAll]
  | x :: xs, y :: ys => by simp only [List.map_cons, PySem.W.alikeAll, Lt.al, llt_al xs ys, Bool.and_self]
instance : Lt (List α) := ⟨llt, fun a b => (PySem.W.dataLt_list _ _).trans (llt_is a b), fun a b => by
  show PySem.W.alike (.list _) (.list _) = true
  rw [PySem.W.alike]
  exact llt_al a b⟩
instance : Lt (Tup α) := ⟨fun a b => llt a.l b.l, fun a b => (PySem.W.dataLt_tuple _ _).trans (llt_is a.l b.l), fun a b => by
  show PySem.W.alike (.tuple _) (.tuple _) = true
  rw [PySem.W.alike]
  exact llt_al a.l b.l⟩
instance : Lt (T3 α β γ) := ⟨fun a b => if a.a = b.a then (if a.b = b.b then Lt.lt a.c b.c else Lt.lt a.b b.b) else Lt.lt a.a b.a, fun a b => by
  show PySem.W.dataLt (.tuple [Pd.pd a.a, Pd.pd a.b, Pd.pd a.c]) (.tuple [Pd.pd b.a, Pd.pd b.b, Pd.pd b.c]) = _
  rw [PySem.W.dataLt_tuple, PySem.W.dataLt_cons (Lt.al _ _), eqv_if rfl, PySem.W.dataLt_cons (Lt.al _ _), eqv_if rfl, PySem.W.dataLt_cons (Lt.al _ _), eqv_if rfl, Lt.is, Lt.is, Lt.is]
  by_cases q : a.a = b.a
  · rw [if_pos q, if_pos q]
    by_cases q1 : a.b = b.b
    · rw [if_pos q1, if_pos q1]
      by_cases q2 : a.c = b.c
      · rw [if_pos q2, q2, ← Lt.is, dataLt_self']; rfl
      · rw [if_neg q2]
    · rw [if_neg q1, if_neg q1]
  · rw [if_neg q, if_neg q], fun a b => by simp [Pd.pd, PySem.W.alike, PySem.W.alikeAll, Lt.al]⟩
end
section
variable {α : Type} [Rp α] [Pd α] [DecidableEq α] [Lt α] {K : Frag}
end
end Fw

namespace Fw
open PySem L2
/-! ### try .. except X: without a name -/
section
variable {X : Cx} {x : Str} {cv : Value} {body suite : List Stmt} {b₀ : Stmt} {np pos pos' : Pos} {tb : WX → TS} {ts : TS}
end
section
variable {c : Cn} {X : WX} {As : List Sl} {J S ρ : Type} {kr : ρ → Kd} {Ls : List Sl} {Js : J → List Sl} {B : Bd} {Bs : S → List Sl} {Js' : List Sl}
end
end Fw

namespace PySem
open Sem (wp)
open L2 PyProof.Rows
/-! ### enumerate(d): the keys of a locked dict with their places -/
section
variable {prog : Program} {w : World} {A : Around} {E : Value → Shared → Prop} {s : Shared}
end
end PySem
namespace Fw
open PySem L2 PySem.Spec
open PyProof.Rows hiding St
section
variable {c : Cn} {W0 : Wd} {X : WX} {As : List Sl} {α : Type} [Rp α]
end
end Fw

namespace Fw
open PySem L2
/-! ### a list of three things of unlike kinds, frozen -/
structure H3 (α β γ : Type) where
  a : α
  b : β
  c : γ
deriving DecidableEq
section
variable {α β γ : Type} [Rp α] [Rp β] [Rp γ]
instance : Rp (H3 α β γ) := ⟨fun K x v G => ∃ p a b c, v = .ref p ∧ G p = some (.lst [a, b, c]) ∧ Rp.rep K x.a a G ∧ Rp.rep K x.b b G ∧ Rp.rep K x.c c G,
  fun s ⟨p, a, b, c, e, h, r1, r2, r3⟩ => ⟨p, a, b, c, e, s _ _ h, Rp.mono s r1, Rp.mono s r2, Rp.mono s r3⟩⟩
variable {J S ρ : Type} {c : Cn} {X : WX} {kr : ρ → Kd} {Ls : List Sl} {Js : J → List Sl} {B : Bd} {As : List Sl} {Bs : S → List Sl} {W0 : Wd}
def R.to3H (m : R (H3 α β γ)) (k : α → β → γ → Out S J ρ) : Out S J ρ := m.to fun z => k z.a z.b z.c
omit [Rp α] [Rp β] [Rp γ] in
@[simp] theorem R.to3H_ok (x : H3 α β γ) (k : α → β → γ → Out S J ρ) : R.to3H (R.ok x) k = k x.a x.b x.c := rfl
end
end Fw

namespace Fw
open PySem L2
/-! ### a thing of one's own, or None -/
def ownO {α : Type} [Ob α] (K : Frag) (x : Option α) (v : V) (f : List Addr) (W : Wd) : Prop := match x with
  | none => v = .non ∧ f = []
  | some y => v ≠ .non ∧ Ob.own K y v f W
instance {α : Type} [Fz α] : Fz (Option α) where
  own := ownO
  keep := fun {K x v f W W'} h s n k => by
    cases x with
    | none => exact h
    | some y => exact ⟨h.1, Ob.keep h.2 s n k⟩
  foot := fun {K x v f W} h a ha => by
    cases x with
    | none =>
      have h' : v = .non ∧ f = [] := h
      rw [h'.2] at ha; cases ha
    | some y => exact Ob.foot h.2 a ha
  fz := fun {K x v f W} h => by
    cases x with
    | none => exact h.1
    | some y => exact ⟨h.1, Fz.fz h.2⟩
instance {α : Type} [Fz α] [UfO α] : UfO (Option α) := ⟨fun {K x v f W W'} t n k h => by
  cases x with
  | none => exact h
  | some y => exact ⟨h.1, UfO.uf t n k h.2⟩⟩
/-- no such thing is None -/
class NNo (α : Type) [Ob α] where
  nn : ∀ {K : Frag} {x : α} {v : V} {f : List Addr} {W : Wd}, Ob.own K x v f W → v ≠ .non
instance {α : Type} [Rp α] : NNo (List α) := ⟨fun ⟨p, vs, e, _⟩ => by rw [e]; exact fun z => nomatch z⟩
instance {κ α : Type} [DecidableEq κ] [Rp κ] [DKy κ] [Rp α] : NNo (Dk κ α) := ⟨fun ⟨p, vs, e, _⟩ => by rw [e]; exact fun z => nomatch z⟩
instance {κ α : Type} [DecidableEq κ] [Rp κ] [DKy κ] [Rp α] : NNo (Dq κ α) := ⟨fun ⟨p, vs, e, _⟩ => by rw [e]; exact fun z => nomatch z⟩
instance {α β : Type} [Ob α] [Rp β] : NNo (PF α β) := ⟨fun ⟨p, va, vb, e, _⟩ => by rw [e]; exact fun z => nomatch z⟩
/-- a pair of a thing of one's own and a frozen one may be frozen -/
instance {α β : Type} [Rp α] [Rp β] : Rp (PF α β) := ⟨fun K x v G => ∃ p a b, v = .ref p ∧ SqT K G p [a, b] ∧ Rp.rep K x.a a G ∧ Rp.rep K x.b b G, fun s ⟨p, a, b, e, h, r1, r2⟩ => ⟨p, a, b, e, s.sqt h, Rp.mono s r1, Rp.mono s r2⟩⟩
instance {α β : Type} [Fz α] [Rp β] : Fz (PF α β) where
  fz := fun {K x v f W} ⟨p, va, vb, e, hp, o, r⟩ => ⟨p, va, vb, e, .inl (.inl (Wd.fz_sub _ _ hp)), Fz.fz o, Rp.mono Wd.fz_sub r⟩
section
variable {J S ρ α β : Type} {c : Cn} {X : WX} {kr : ρ → Kd} {Ls : List Sl} {Js : J → List Sl} {B : Bd} {As : List Sl} {Bs : S → List Sl} {W0 : Wd} {K : Frag}
end
instance {α : Type} [Rp α] : Pt (Dq Str α) := ⟨"dict", fun ⟨p, q, e, h, _⟩ => by subst e; exact .base (.dK h)⟩
instance {α β : Type} [Rp α] [Rp β] : Pt (PF α β) := ⟨"tuple", fun ⟨p, a, b, e, h, _⟩ => by subst e; exact sqt_ty h⟩
end Fw

namespace Fw
open PySem L2
/-! ### sum(xs, []) of a list of lists -/
section
open PySem.Spec PyProof.Rows PySem.Calls
open Sem (wp)
variable {prog : Program} {w : World} {A : Around} {R : Result → Shared → Prop}
end
section
open PySem.Spec PyProof.Rows
variable {X : Cx}
end
section
variable {α : Type} [Rp α]
end
end Fw

namespace Fw
open PySem L2
/-! ### x.setdefault(k, v), x one's own dict by texts -/
section
variable {J S ρ α : Type} [Rp α] {c : Cn} {X : WX} {kr : ρ → Kd} {Ls : List Sl} {Js : J → List Sl} {B : Bd} {As : List Sl} {Bs : S → List Sl}
end
/-! ### x[k] = v, x one's own dict that is not locked -/
section
variable {κ α : Type} [DecidableEq κ] [Rp κ] [DKy κ] [Rp α] {J S ρ : Type} {c : Cn} {X : WX} {kr : ρ → Kd} {Ls : List Sl} {Js : J → List Sl} {B : Bd} {As : List Sl} {Bs : S → List Sl}
end
section
variable {α : Type} [Fz α] [NNo α] {J S ρ : Type} {c : Cn} {X : WX} {kr : ρ → Kd} {Ls : List Sl} {Js : J → List Sl} {B : Bd} {As : List Sl} {Bs : S → List Sl}
end
end Fw

namespace Fw
open PySem L2
/-! ### r = xss[a]; r[b] = y: a row by a name of its own, which is not looked at behind it -/
section
variable {α : Type} [Rp α] {c : Cn} {X : WX} {As : List Sl} {J S ρ : Type} {kr : ρ → Kd} {Ls : List Sl} {Js : J → List Sl} {B : Bd} {Bs : S → List Sl}
end
end Fw

namespace Fw
open PySem L2
/-! ### == of lists of values of many kinds -/
section
variable {α β : Type} [Rp α] [Dn α] [Rp β] [Dn β] {K : Frag}
end
end Fw

namespace PySem.OrdBoolInt
open PyProof.Rows PyProof PySem.SeqAt
section
variable {prog : Program} {w : World} {A : Around} {E : Value → Shared → Prop} {s : Shared} {Q : Value → Shared → Prop}
end
end PySem.OrdBoolInt
namespace Fw
open PySem PySem.Spec PyProof.Rows L2
/-! ### i <= x and x < i of a value of many kinds that is a whole number or a truth -/
def nb : Int ⊕ Bool → Int
  | .inl i => i
  | .inr b => if b = true then 1 else 0
section
variable {n : Nat} {K : Frag}
end
end Fw

namespace Fw
open PySem PySem.Spec PyProof.Rows L2
/-! ### xs.index(k) of a list of whole numbers -/
/-! ### a tuple of some alike things, one partial -/
end Fw

namespace Fw
open PySem PySem.Spec PyProof.Rows L2
/-! ### (a dict, a number) == (a dict, a number): true where it is -/
/-- the world with more things -/
def exG (W : Wd) (H' : Hp) : Hp := fun a => match W.H a with
  | some _ => W.G a
  | none => match H' a with
    | some u => if imm u = true then some u else none
    | none => none
theorem exG_old {W : Wd} {H' : Hp} {a : Addr} {z : HO} (h : W.H a = some z) : exG W H' a = W.G a := by unfold exG; rw [h]
theorem exG_new {W : Wd} {H' : Hp} {a : Addr} {u : HO} (h : W.H a = none) (h2 : H' a = some u) : exG W H' a = if imm u = true then some u else none := by unfold exG; rw [h]; dsimp only; rw [h2]
theorem exG_no {W : Wd} {H' : Hp} {a : Addr} (h : W.H a = none) (h2 : H' a = none) : exG W H' a = none := by unfold exG; rw [h]; dsimp only; rw [h2]
def Wd.ext (W : Wd) (H' : Hp) (e : Ext W.H H') : Wd where
  G := exG W H'
  H := H'
  sub := fun a o h => by
    cases h1 : W.H a with
    | some z => rw [exG_old h1] at h; exact e a o (W.sub a o h)
    | none =>
      cases h2 : H' a with
      | some u =>
        rw [exG_new h1 h2] at h
        split at h
        · exact h
        · cases h
      | none => rw [exG_no h1 h2] at h; cases h
  im := fun a u h i => by
    cases h1 : W.H a with
    | some z =>
      have := e a z h1
      rw [h] at this
      cases this
      rw [exG_old h1]
      exact W.im a u h1 i
    | none => rw [exG_new h1 h, if_pos i]
theorem Le.ext {W : Wd} {H' : Hp} {e : Ext W.H H'} : Le W (W.ext H' e) where
  g := fun a o h => by
    show exG W H' a = some o
    rw [exG_old (W.sub a o h)]
    exact h
  h := e
  o := fun a h n => by
    show exG W H' a = none
    cases h1 : W.H a with
    | some z => rw [exG_old h1]; exact h
    | none => exact absurd h1 n
section
variable {c : Cn} {W0 : Wd} {X : WX} {As : List Sl} {α : Type} [Rp α]
variable [DecidableEq α] [Pd α]
end
end Fw

namespace Fw
open PySem L2
/-! ### a part of an expression evaluated ahead: places where a part stands first -/
section
variable {c : Cn} {W0 : Wd} {As : List Sl}
end
/-! ### a call that changes x and tells a number, within a statement -/
section
variable {c : Cn} {X : WX} {As : List Sl} {J S ρ α : Type} {kr : ρ → Kd} {Ls : List Sl} {Js : J → List Sl} {B : Bd} {Bs : S → List Sl}
end
end Fw

namespace Fw
open PySem L2
/-! ### x = xs.pop(i) -/
theorem Al.erase {α : Type} {P : α → V → Prop} {xs : List α} {vs : List V} (h : Al P xs vs) (i : Nat) : Al P (xs.eraseIdx i) (vs.eraseIdx i) := by
  refine ⟨by rw [List.length_eraseIdx, List.length_eraseIdx, h.1], fun j y w a b => ?_⟩
  rw [List.getElem?_eraseIdx] at a b
  split at a
  · rename_i q
    rw [if_pos q] at b
    exact h.2 j y w a b
  · rename_i q
    rw [if_neg q] at b
    exact h.2 (j + 1) y w a b
section
variable {J S ρ α : Type} {c : Cn} {X : WX} {kr : ρ → Kd} {Ls : List Sl} {Js : J → List Sl} {B : Bd} {As : List Sl} {Bs : S → List Sl}
end
/-! ### a def that changes what it is handed, called with a new thing that nobody else knows -/
section
variable {c : Cn} {W0 : Wd} {X : WX} {As : List Sl}
end
end Fw

namespace Fw
open PySem L2
open PyProof PyProof.Rows
/-! ### a op b op c op d -/
section
variable {c : Cn} {W0 : Wd} {X : WX} {As Bs : List Sl} {α β γ δ : Type}
end
/-! ### tuples of any length, as values of many kinds -/
section
variable {α : Type} [Rp α] [Dn α] {K : Frag}
end
end Fw

namespace Fw
open PySem L2
/-! ### any frozen thing told by a call that changes, evaluated ahead -/
section
variable {c : Cn} {X : WX} {As : List Sl} {J S ρ α : Type} {kr : ρ → Kd} {Ls : List Sl} {Js : J → List Sl} {B : Bd} {Bs : S → List Sl}
end
/-! ### a body that may raise, and that may end without a return -/
section
variable {c : Cn} {τ : Type}
end
end Fw

namespace Fw
open PySem L2
section
variable {J S ρ α β : Type} {c : Cn} {X : WX} {kr : ρ → Kd} {Ls : List Sl} {Js : J → List Sl} {B : Bd} {As : List Sl} {Bs : S → List Sl}
end
section
variable {φ φ' α κ : Type} {n cls : Str} [Fs φ] [Fs φ'] {J S ρ' : Type} {c : Cn} {X : WX} {kr : ρ' → Kd} {Ls : List Sl} {Js : J → List Sl} {B : Bd} {As : List Sl} {Bs : S → List Sl} {C : Addr} {ns : List Str} {x : Ins cls φ} {pin : Option V}
variable [DecidableEq κ] [Rp κ] [DKy κ]
end
end Fw

namespace Fw
open PySem L2 PySem.Spec
open PyProof.Rows hiding St
/-! ### isinstance of a caught exception, or of None -/
section
variable {K : Frag}
end
end Fw

namespace Fw
open PySem L2
/-! ### a dict of own lists: a new key, d[k] = [] -/
section
variable {κ α : Type} [DecidableEq κ] [Rp κ] [DKy κ] [Rp α]
variable {c : Cn} {W0 : Wd} {X : WX} {As : List Sl} {J S ρ : Type} {kr : ρ → Kd} {Ls : List Sl} {Js : J → List Sl} {B : Bd} {Bs : S → List Sl}
end
section
variable {φ φ' α κ : Type} {n cls : Str} [Fs φ] [Fs φ'] {J S ρ' : Type} {c : Cn} {X : WX} {kr : ρ' → Kd} {Ls : List Sl} {Js : J → List Sl} {B : Bd} {As : List Sl} {Bs : S → List Sl} {C : Addr} {ns : List Str} {x : Ins cls φ} {pin : Option V}
variable [DecidableEq κ] [Rp κ] [DKy κ] [Rp α]
end
end Fw

namespace Fw
open PySem L2
/-! ### a frozen thing whose value is known -/
structure Pn (α : Type) where
  x : α
  v : V
instance {α : Type} [Rp α] : Rp (Pn α) := ⟨fun K p v G => v = p.v ∧ Rp.rep K p.x v G, fun s h => ⟨h.1, Rp.mono s h.2⟩⟩
section
variable {α : Type} {c : Cn} {W0 : Wd} {As : List Sl}
/-- own slots looked at as frozen things whose values are known -/
inductive FvP : List Sl → List V → List Sl → Prop
  | nil : FvP [] [] []
  | un {As Bs : List Sl} {vs : List V} {v : V} : FvP As vs Bs → FvP (.un :: As) (v :: vs) (.un :: Bs)
  | fr {α : Type} [Rp α] {x : α} {As Bs : List Sl} {vs : List V} {v : V} : FvP As vs Bs → FvP (.fr x :: As) (v :: vs) (.fr x :: Bs)
  | ow {α : Type} [Fz α] {pin : Option V} {x : α} {As Bs : List Sl} {vs : List V} {v : V} : FvP As vs Bs → FvP (.ow pin x :: As) (v :: vs) (.fr (Pn.mk x v) :: Bs)
  | pf {α : Type} [Rp α] {x : α} {As Bs : List Sl} {vs : List V} {v : V} : FvP As vs Bs → FvP (.fr x :: As) (v :: vs) (.fr (Pn.mk x v) :: Bs)
theorem FvP.len {As Bs : List Sl} {vs : List V} (h : FvP As vs Bs) : As.length = Bs.length ∧ vs.length = As.length := by
  induction h with
  | nil => exact ⟨rfl, rfl⟩
  | _ _ ih => exact ⟨congrArg (· + 1) ih.1, congrArg (· + 1) ih.2⟩
theorem FvP.at {K : Frag} {W : Wd} {As Bs : List Sl} {vs : List V} (h : FvP As vs Bs) : ∀ {σ : St}, (∀ (i : Nat) v o, vs[i]? = some v → σ[i]? = some (some o) → v = o) → (∀ (i : Nat) A o, As[i]? = some A → σ[i]? = some o → ∃ f, Hd K A o W f) → ∀ (i : Nat) B o, Bs[i]? = some B → σ[i]? = some o → Hd K B o (.all W.H) [] := by
  induction h with
  | nil => intro σ _ _ i B o e; simp at e
  | @un As Bs vs v _ ih =>
    intro σ hv hh i B o e1 e2
    cases σ with
    | nil => simp at e2
    | cons s σ =>
      cases i with
      | zero => cases e1; trivial
      | succ i => exact ih (σ := σ) (fun j v o a b => hv (j + 1) v o a b) (fun j A o a b => hh (j + 1) A o a b) i B o e1 e2
  | @fr α _ x As Bs vs v _ ih =>
    intro σ hv hh i B o e1 e2
    cases σ with
    | nil => simp at e2
    | cons s σ =>
      cases i with
      | zero =>
        cases e1
        obtain ⟨f, w, e, r⟩ := hh 0 _ o rfl e2
        exact ⟨w, e, Rp.mono W.sub r⟩
      | succ i => exact ih (σ := σ) (fun j v o a b => hv (j + 1) v o a b) (fun j A o a b => hh (j + 1) A o a b) i B o e1 e2
  | @ow α _ pin x As Bs vs v _ ih =>
    intro σ hv hh i B o e1 e2
    cases σ with
    | nil => simp at e2
    | cons s σ =>
      cases i with
      | zero =>
        cases e1
        obtain ⟨f, w, e, r, _⟩ := hh 0 _ o rfl e2
        subst e
        have : v = w := hv 0 v w rfl e2
        exact ⟨w, rfl, this.symm, own_bw (A := W) r⟩
      | succ i => exact ih (σ := σ) (fun j v o a b => hv (j + 1) v o a b) (fun j A o a b => hh (j + 1) A o a b) i B o e1 e2
  | @pf α _ x As Bs vs v _ ih =>
    intro σ hv hh i B o e1 e2
    cases σ with
    | nil => simp at e2
    | cons s σ =>
      cases i with
      | zero =>
        cases e1
        obtain ⟨f, w, e, r⟩ := hh 0 _ o rfl e2
        subst e
        have : v = w := hv 0 v w rfl e2
        exact ⟨w, rfl, this.symm, Rp.mono W.sub r⟩
      | succ i => exact ih (σ := σ) (fun j v o a b => hv (j + 1) v o a b) (fun j A o a b => hh (j + 1) A o a b) i B o e1 e2
/-- the end's slots: what they were, what they are looked at, what they are -/
inductive FvB : List Sl → List V → List Sl → List Sl → Prop
  | nil : FvB [] [] [] []
  | un {A B : Sl} {As Bs Cs : List Sl} {vs : List V} {v : V} : FvB As vs Bs Cs → FvB (A :: As) (v :: vs) (B :: Bs) (.un :: Cs)
  | fr {α : Type} [Rp α] [Uf α] {A : Sl} {x : α} {As Bs Cs : List Sl} {vs : List V} {v : V} : FvB As vs Bs Cs → FvB (A :: As) (v :: vs) (.fr x :: Bs) (.fr x :: Cs)
  | ow {α : Type} [Fz α] {pin : Option V} {x : α} {As Bs Cs : List Sl} {vs : List V} {v : V} : FvB As vs Bs Cs → FvB (.ow pin x :: As) (v :: vs) (.fr (Pn.mk x v) :: Bs) (.ow pin x :: Cs)
  | pf {α : Type} [Rp α] {x : α} {As Bs Cs : List Sl} {vs : List V} {v : V} : FvB As vs Bs Cs → FvB (.fr x :: As) (v :: vs) (.fr (Pn.mk x v) :: Bs) (.fr x :: Cs)
theorem FvB.len {As Bs Cs : List Sl} {vs : List V} (h : FvB As vs Bs Cs) : Bs.length = Cs.length := by
  induction h with
  | nil => rfl
  | _ _ ih => exact congrArg (· + 1) ih
theorem FvB.at {K : Frag} {W W3 : Wd} {e : Le (.all W.H) W3} {As Bs Cs : List Sl} {vs : List V} (h : FvB As vs Bs Cs) : ∀ {σ σ3 : St} {F : Nat → List Addr}, σ.length = As.length → (∀ (i : Nat) v o, vs[i]? = some v → σ[i]? = some (some o) → v = o) → (∀ (i : Nat) A o, As[i]? = some A → σ[i]? = some o → Hd K A o W (F i)) → (∀ i a, a ∈ F i → W.G a = none ∧ W.H a ≠ none) →
    (∀ (i : Nat) B o, Bs[i]? = some B → σ3[i]? = some o → ∃ f, Hd K B o W3 f) → ∀ (i : Nat) C o, Cs[i]? = some C → σ3[i]? = some o → Hd K C o (W.bk W3 e) (F i) := by
  induction h with
  | nil => intro σ σ3 F _ _ _ _ _ i C o e; simp at e
  | @un A B As Bs Cs vs v _ ih =>
    intro σ σ3 F hl hv hh hf hb i C o e1 e2
    cases σ3 with
    | nil => simp at e2
    | cons s3 σ3 =>
      cases σ with
      | nil => simp at hl
      | cons s σ =>
        cases i with
        | zero => cases e1; trivial
        | succ i => exact ih (σ := σ) (σ3 := σ3) (F := fun j => F (j + 1)) (by simpa using hl) (fun j v o a b => hv (j + 1) v o a b) (fun j A o a b => hh (j + 1) A o a b) (fun j => hf (j + 1)) (fun j B o a b => hb (j + 1) B o a b) i C o e1 e2
  | @fr α _ _ A x As Bs Cs vs v _ ih =>
    intro σ σ3 F hl hv hh hf hb i C o e1 e2
    cases σ3 with
    | nil => simp at e2
    | cons s3 σ3 =>
      cases σ with
      | nil => simp at hl
      | cons s σ =>
        cases i with
        | zero =>
          cases e1
          obtain ⟨f, w, ew, r⟩ := hb 0 _ o rfl e2
          exact ⟨w, ew, Uf.uf bk_tk r⟩
        | succ i => exact ih (σ := σ) (σ3 := σ3) (F := fun j => F (j + 1)) (by simpa using hl) (fun j v o a b => hv (j + 1) v o a b) (fun j A o a b => hh (j + 1) A o a b) (fun j => hf (j + 1)) (fun j B o a b => hb (j + 1) B o a b) i C o e1 e2
  | @ow α _ pin x As Bs Cs vs v _ ih =>
    intro σ σ3 F hl hv hh hf hb i C o e1 e2
    cases σ3 with
    | nil => simp at e2
    | cons s3 σ3 =>
      cases σ with
      | nil => simp at hl
      | cons s σ =>
        cases i with
        | zero =>
          cases e1
          obtain ⟨f, w, ew, rv, _⟩ := hb 0 _ o rfl e2
          have h0 := hh 0 _ s rfl rfl
          have h1 := Hd.mono (bk_le (e := e)) (hf 0) h0
          obtain ⟨w0, es, _⟩ := h0
          have : v = w0 := hv 0 v w0 rfl (by rw [es]; rfl)
          have eo : o = s := by rw [ew, es, rv, ← this]
          rw [eo]
          exact h1
        | succ i => exact ih (σ := σ) (σ3 := σ3) (F := fun j => F (j + 1)) (by simpa using hl) (fun j v o a b => hv (j + 1) v o a b) (fun j A o a b => hh (j + 1) A o a b) (fun j => hf (j + 1)) (fun j B o a b => hb (j + 1) B o a b) i C o e1 e2
  | @pf α _ x As Bs Cs vs v _ ih =>
    intro σ σ3 F hl hv hh hf hb i C o e1 e2
    cases σ3 with
    | nil => simp at e2
    | cons s3 σ3 =>
      cases σ with
      | nil => simp at hl
      | cons s σ =>
        cases i with
        | zero =>
          cases e1
          obtain ⟨f, w, ew, rv, _⟩ := hb 0 _ o rfl e2
          have h0 := hh 0 _ s rfl rfl
          have h1 := Hd.mono (bk_le (e := e)) (hf 0) h0
          obtain ⟨w0, es, _⟩ := h0
          have : v = w0 := hv 0 v w0 rfl (by rw [es]; rfl)
          have eo : o = s := by rw [ew, es, rv, ← this]
          rw [eo]
          exact h1
        | succ i => exact ih (σ := σ) (σ3 := σ3) (F := fun j => F (j + 1)) (by simpa using hl) (fun j v o a b => hv (j + 1) v o a b) (fun j A o a b => hh (j + 1) A o a b) (fun j => hf (j + 1)) (fun j B o a b => hb (j + 1) B o a b) i C o e1 e2
theorem At.back {K : Frag} {W W3 : Wd} {Bs Cs : List Sl} {vs : List V} {σ σ3 : St} (h : At K W0 As σ W) (hv : ∀ (i : Nat) v o, vs[i]? = some v → σ[i]? = some (some o) → v = o) (h3 : At K (.all W.H) Bs σ3 W3) (z : FvB As vs Bs Cs) : At K W0 Cs σ3 (W.bk W3 h3.le) := by
  have l3 := h3.len
  have le3 := h3.le
  obtain ⟨l, le, F, f1, f2, f3⟩ := h
  obtain ⟨_, _, G, g1, _, _⟩ := h3
  refine ⟨l3.trans z.len, le.trans bk_le, F, z.at l hv f1 (fun i a ha => ⟨(f3 i a ha).1, (f3 i a ha).2.1⟩) fun i B o a b => ⟨G i, g1 i B o a b⟩, f2, fun i a ha => ?_⟩
  obtain ⟨p1, p2, p3⟩ := f3 i a ha
  have hk := (bk_le (W := W) (e := le3)).o a p1 p2
  refine ⟨hk, fun q => ?_, p3⟩
  cases q9 : W.H a with
  | none => exact p2 q9
  | some u =>
    have := (bk_le (W := W) (e := le3)).h a u q9
    rw [q] at this
    cases this
end
section
variable {J S ρ : Type} {c : Cn} {X : WX} {kr : ρ → Kd} {Ls : List Sl} {Js : J → List Sl} {B : Bd} {As : List Sl} {Cs : S → List Sl}
end
end Fw

namespace Fw
open PySem L2
/-! ### a list of two things of unlike kinds, frozen -/
structure H2 (α β : Type) where
  a : α
  b : β
deriving DecidableEq
section
variable {α β : Type} [Rp α] [Rp β]
instance : Rp (H2 α β) := ⟨fun K x v G => ∃ p a b, v = .ref p ∧ G p = some (.lst [a, b]) ∧ Rp.rep K x.a a G ∧ Rp.rep K x.b b G,
  fun s ⟨p, a, b, e, h, r1, r2⟩ => ⟨p, a, b, e, s _ _ h, Rp.mono s r1, Rp.mono s r2⟩⟩
instance [Pd α] [Pd β] : Pd (H2 α β) := ⟨fun x => .list [Pd.pd x.a, Pd.pd x.b], fun ⟨p, a, b, e, h, r1, r2⟩ => by subst e; exact .lst (.inl (.inl h)) (.cons (Pd.dp r1) (.cons (Pd.dp r2) .nil)), max (Pd.n α) (Pd.n β) + 1, fun ⟨p, a, b, e, h, r1, r2⟩ => by
  simp only [PyData.depth, PyData.depthAll]; have := Pd.dep r1; have := Pd.dep r2; omega, fun ⟨p, a, b, e, h, r1, r2⟩ => by simp only [PyData.canLay0, PyData.canLayAll0, Pd.lay r1, Pd.lay r2, Bool.and_self], fun x y => by
  simp only [PyData.eqv, PyData.eqvAll, Bool.and_eq_true, Pd.eq, and_true]; cases x; cases y; simp⟩
variable {c : Cn} {X : WX} {As : List Sl} {W0 : Wd}
/-! ### None as a value of many kinds -/
instance [Dn α] : Dn (Option α) where
  toD x := match x with
    | none => .none
    | some y => Dn.toD y
  dp := fun {K x v G} h => by
    cases x with
    | none => have e : v = .non := h; subst e; exact .non
    | some y => exact Dn.dp h.2
  n := Dn.n α
  dep := fun {K x v G} h => by
    cases x with
    | none => simp [PyData.depth]
    | some y => exact Dn.dep h.2
  lay := fun {K x v G} h => by
    cases x with
    | none => simp [PyData.canLay0]
    | some y => exact Dn.lay h.2
instance [Dn α] [Dn β] : Dn (H2 α β) := ⟨fun x => .list [Dn.toD x.a, Dn.toD x.b], fun ⟨p, a, b, e, h, r1, r2⟩ => by subst e; exact .lst (.inl (.inl h)) (.cons (Dn.dp r1) (.cons (Dn.dp r2) .nil)), max (Dn.n α) (Dn.n β) + 1, fun ⟨p, a, b, e, h, r1, r2⟩ => by
  simp only [PyData.depth, PyData.depthAll]; have := Dn.dep r1; have := Dn.dep r2; omega, fun ⟨p, a, b, e, h, r1, r2⟩ => by simp only [PyData.canLay0, PyData.canLayAll0, Dn.lay r1, Dn.lay r2, Bool.and_self]⟩
end
section
variable {n : Nat} {K : Frag}
end
end Fw

namespace Fw
open PySem L2
/-! ### try .. except X as n: .. except Y: .. : several handlers, with a name (the exception is kept) or without -/
section
open PySem.Spec PyProof.Rows
inductive HdsX (X : Cx) : List ExceptHandler → List (Value × Option Nat × TS) → Prop
  | nil {hds : List ExceptHandler} : HdsX X hds []
  | anon {x : Str} {c : Value} {ts : TS} {b₀ : Stmt} {suite : List Stmt} {np pos' : Pos} {hds : List ExceptHandler} {l : List (Value × Option Nat × TS)} (hc : Names X x c)
      (hsu : ∀ (a : Addr) (pn : List (Addr × Obj)), PSs (X.suite a pn) (b₀ :: suite) ts) (r : HdsX X hds l) :
      HdsX X (.ExceptHandler (some (.Name x np)) none (b₀ :: suite) pos' :: hds) ((c, none, ts) :: l)
  | as {x n : Str} {i : Nat} {c : Value} {ts : TS} {b₀ : Stmt} {suite : List Stmt} {np pos' : Pos} {hds : List ExceptHandler} {l : List (Value × Option Nat × TS)} (hi : X.N[i]? = some n) (hln : X.env.kindOf n = some .local) (hc : Names X x c)
      (hsu : ∀ (a : Addr) (pn : List (Addr × Obj)), PSs (X.suite a pn) (b₀ :: suite) ts) (r : HdsX X hds l) :
      HdsX X (.ExceptHandler (some (.Name x np)) (some n) (b₀ :: suite) pos' :: hds) ((c, some i, ts) :: l)
variable {X : Cx} {body : List Stmt} {h₀ : ExceptHandler} {hds : List ExceptHandler} {l : List (Value × Option Nat × TS)} {pos : Pos} {tb : WX → TS}
end
/-! the mirror -/
section
variable {J S ρ : Type}
def Out.pick (e : Exc) : List (List (Str × Bool) × (Exc → Out S J ρ)) → Out S J ρ
  | [] => .no
  | (tb, h) :: r => match tb.lookup e.cls with
    | some true => (h e).npx
    | some false => Out.pick e r
    | none => .no
def CatB (K : Frag) (M : Str → Value) (tb : List (Str × Bool)) (cv : Value) : Prop := ∀ n b, tb.lookup n = some b → ∃ C, M n = .ref C ∧ PySem.W.nsIn K mainGlobals n = some (some (.ref C)) ∧ PySem.W.exmOne K (.ref C) cv = some b
variable {c : Cn} {X : WX} {As : List Sl} {kr : ρ → Kd} {Ls : List Sl} {Js : J → List Sl} {B : Bd} {Bs : S → List Sl}
inductive DHs (c : Cn) (kr : ρ → Kd) (Js : J → List Sl) (B : Bd) (As : List Sl) (Bs : S → List Sl) : List (Value × Option Nat × TS) → List (List (Str × Bool) × (Exc → Out S J ρ)) → Prop
  | nil : DHs c kr Js B As Bs [] []
  | anon {cv : Value} {ts : TS} {tb : List (Str × Bool)} {h : Out S J ρ} {l : List (Value × Option Nat × TS)} {hs : List (List (Str × Bool) × (Exc → Out S J ρ))} {Js' : List Sl} (hc : CatB c.K c.M tb cv) (hd : Den c (fun _ _ _ _ => False) kr Js' Js B ts As h Bs) (r : DHs c kr Js B As Bs l hs) :
      DHs c kr Js B As Bs ((cv, none, ts) :: l) ((tb, fun _ => h) :: hs)
  | as {cv : Value} {ts : TS} {tb : List (Str × Bool)} {h : Exc → Out S J ρ} {l : List (Value × Option Nat × TS)} {hs : List (List (Str × Bool) × (Exc → Out S J ρ))} {Js' : List Sl} {Cs : Exc → S → List Sl} (i : Nat) (hc : CatB c.K c.M tb cv)
      (hd : ∀ e : Exc, Den c (fun _ _ _ _ => False) kr Js' Js B ts (As.set i (.fr e)) (h e) (Cs e)) (hw : ∀ e s, Wk ((Cs e s).set i .un) (Bs s)) (hj : ∀ j σ W, At c.K B.W0 (Js j) σ W → At c.K B.W0 (Js j) (σ.set i none) W) (r : DHs c kr Js B As Bs l hs) :
      DHs c kr Js B As Bs ((cv, some i, ts) :: l) ((tb, h) :: hs)
end
end Fw

namespace Fw
open PySem L2
/-! ### a def that changes its first argument, called with a new thing that nobody else knows -/
section
variable {c : Cn} {W0 : Wd} {X : WX} {As : List Sl}
end
end Fw

namespace Fw
open PySem L2
/-! ### defs that change any things handed in: the promise by slots -/
structure AtF (K : Frag) (As : List Sl) (σ : St) (W : Wd) (F : Nat → List Addr) : Prop where
  len : σ.length = As.length
  hd : ∀ (i : Nat) A o, As[i]? = some A → σ[i]? = some o → Hd K A o W (F i)
  dj : ∀ i j a, i ≠ j → a ∈ F i → a ∉ F j
  ft : ∀ i a, a ∈ F i → W.G a = none ∧ W.H a ≠ none
  out : ∀ i, As.length ≤ i → F i = []
theorem AtF.mono {K : Frag} {As : List Sl} {σ : St} {W W' : Wd} {F : Nat → List Addr} (h : AtF K As σ W F) (e : Le W W') : AtF K As σ W' F :=
  ⟨h.len, fun i A o a b => Hd.mono e (fun x hx => h.ft i x hx) (h.hd i A o a b), h.dj, fun i a ha => ⟨e.o a (h.ft i a ha).1 (h.ft i a ha).2, fun q => (h.ft i a ha).2 (e.h.nope q)⟩, h.out⟩
def fl (F : Nat → List Addr) (n : Nat) : List Addr := (List.range n).flatMap F
theorem mem_fl {F : Nat → List Addr} {n : Nat} {a : Addr} : a ∈ fl F n ↔ ∃ i, i < n ∧ a ∈ F i := by
  unfold fl
  rw [List.mem_flatMap]
  exact ⟨fun ⟨i, h, k⟩ => ⟨i, List.mem_range.mp h, k⟩, fun ⟨i, h, k⟩ => ⟨i, List.mem_range.mpr h, k⟩⟩
theorem AtF.mem {K : Frag} {As : List Sl} {σ : St} {W : Wd} {F : Nat → List Addr} (h : AtF K As σ W F) {a : Addr} : a ∈ fl F As.length ↔ ∃ i, a ∈ F i := by
  rw [mem_fl]
  refine ⟨fun ⟨i, _, k⟩ => ⟨i, k⟩, fun ⟨i, k⟩ => ⟨i, ?_, k⟩⟩
  apply Decidable.byContradiction
  intro q
  rw [h.out i (by omega)] at k
  cases k
/-! the def itself -/
section
variable {τ S : Type} {c : Cn} {ins : τ → List Sl} {outs : S → List Sl}
/-- the slots at the end tell what the promise tells -/
inductive OutOk : List Sl → List V → List Sl → Prop
  | nil {As : List Sl} : OutOk As [] []
  | un {A : Sl} {As Os : List Sl} {v : V} {vs : List V} : OutOk As vs Os → OutOk (A :: As) (v :: vs) (.un :: Os)
  | ow {α : Type} [Ob α] {y : α} {As Os : List Sl} {v : V} {vs : List V} : OutOk As vs Os → OutOk (.ow (some v) y :: As) (v :: vs) (.ow none y :: Os)
theorem OutOk.len {As : List Sl} {vs : List V} {Os : List Sl} (h : OutOk As vs Os) : vs.length = Os.length := by
  induction h with
  | nil => rfl
  | _ _ ih => exact congrArg (· + 1) ih
theorem OutOk.at {K : Frag} {W : Wd} {As : List Sl} {vs : List V} {Os : List Sl} (h : OutOk As vs Os) : ∀ {σ : St} {F : Nat → List Addr}, σ.length = As.length → (∀ (i : Nat) A o, As[i]? = some A → σ[i]? = some o → Hd K A o W (F i)) → ∀ (i : Nat) O v, Os[i]? = some O → vs[i]? = some v → Hd K O (some v) W (F i) := by
  induction h with
  | nil => intro σ F _ _ i O v e; simp at e
  | @un A As Os v vs _ ih =>
    intro σ F hl hh i O w e1 e2
    cases σ with
    | nil => simp at hl
    | cons s σ =>
      cases i with
      | zero => cases e1; trivial
      | succ i => exact ih (σ := σ) (F := fun j => F (j + 1)) (by simpa using hl) (fun j A o a b => hh (j + 1) A o a b) i O w e1 e2
  | @ow α _ y As Os v vs _ ih =>
    intro σ F hl hh i O w e1 e2
    cases σ with
    | nil => simp at hl
    | cons s σ =>
      cases i with
      | zero =>
        cases e1
        cases e2
        obtain ⟨w, es, r, pn⟩ := hh 0 _ s rfl rfl
        have := pn v rfl
        subst this
        exact ⟨w, rfl, r, fun u z => nomatch z⟩
      | succ i => exact ih (σ := σ) (F := fun j => F (j + 1)) (by simpa using hl) (fun j A o a b => hh (j + 1) A o a b) i O w e1 e2
variable {N : List Str} {n k : Nat} {t : TS} {vs : List V} {H : Hp} {Q : VK} {E : XK}
/-! return e: frozen, new, own -/
variable {J ρ' S' : Type} {X : WX} {Ls : List Sl} {Js : J → List Sl} {B : Bd} {As : List Sl} {Bs : S' → List Sl}
end
end Fw

namespace Fw
open PySem L2
/-! ### calls of defs that change any things handed in -/
/-- what a call's arguments are: frozen, a slot's own thing, a new thing -/
inductive GArgs (K : Frag) (As : List Sl) (σ : St) (A W : Wd) : List (Option Nat) → List Sl → List V → List (List Addr) → Prop
  | nil : GArgs K As σ A W [] [] [] []
  | fr {α : Type} [Rp α] {x : α} {v : V} {J : List (Option Nat)} {Is : List Sl} {vs : List V} {fs : List (List Addr)} : Rp.rep K x v W.G → GArgs K As σ A W J Is vs fs → GArgs K As σ A W (none :: J) (.fr x :: Is) (v :: vs) ([] :: fs)
  | ow {α : Type} [Ob α] {y : α} {pin : Option V} {i : Nat} {v : V} {J : List (Option Nat)} {Is : List Sl} {vs : List V} {fs : List (List Addr)} : As[i]? = some (.ow pin y) → σ[i]? = some (some v) → GArgs K As σ A W J Is vs fs → GArgs K As σ A W (some i :: J) (.ow none y :: Is) (v :: vs) ([] :: fs)
  | nw {α : Type} [Ob α] {y : α} {v : V} {f : List Addr} {J : List (Option Nat)} {Is : List Sl} {vs : List V} {fs : List (List Addr)} : Ob.own K y v f W → (∀ a ∈ f, A.H a = none) → (∀ g ∈ fs, ∀ a ∈ f, a ∉ g) → GArgs K As σ A W J Is vs fs → GArgs K As σ A W (none :: J) (.ow none y :: Is) (v :: vs) (f :: fs)
section
variable {K : Frag} {As : List Sl} {σ : St}
theorem GArgs.mono {A W W' : Wd} {J : List (Option Nat)} {Is : List Sl} {vs : List V} {fs : List (List Addr)} (h : GArgs K As σ A W J Is vs fs) (e : Le W W') : GArgs K As σ A W' J Is vs fs := by
  induction h with
  | nil => exact .nil
  | fr r _ ih => exact .fr (Rp.mono e.g r) ih
  | ow h1 h2 _ ih => exact .ow h1 h2 ih
  | nw o n d _ ih => exact .nw (own_up o e) n d ih
theorem GArgs.dn {A A' W : Wd} {J : List (Option Nat)} {Is : List Sl} {vs : List V} {fs : List (List Addr)} (h : GArgs K As σ A W J Is vs fs) (e : Le A' A) : GArgs K As σ A' W J Is vs fs := by
  induction h with
  | nil => exact .nil
  | fr r _ ih => exact .fr r ih
  | ow h1 h2 _ ih => exact .ow h1 h2 ih
  | nw o n d _ ih => exact .nw o (fun a ha => e.h.nope (n a ha)) d ih
theorem GArgs.new {A W : Wd} {J : List (Option Nat)} {Is : List Sl} {vs : List V} {fs : List (List Addr)} (h : GArgs K As σ A W J Is vs fs) : ∀ g ∈ fs, ∀ a ∈ g, A.H a = none ∧ W.G a = none ∧ W.H a ≠ none := by
  induction h with
  | nil => intro g hg; cases hg
  | fr r _ ih => intro g hg a ha; rcases List.mem_cons.mp hg with z | z; · subst z; cases ha
                 · exact ih g z a ha
  | ow h1 h2 _ ih => intro g hg a ha; rcases List.mem_cons.mp hg with z | z; · subst z; cases ha
                     · exact ih g z a ha
  | nw o n d _ ih => intro g hg a ha; rcases List.mem_cons.mp hg with z | z; · subst z; exact ⟨n a ha, Ob.foot o a ha⟩
                     · exact ih g z a ha
/-- footprints of a call's arguments -/
def gFp (F : Nat → List Addr) : List (Option Nat) → List (List Addr) → Nat → List Addr
  | some i :: _, _ :: _, 0 => F i
  | none :: _, f :: _, 0 => f
  | _ :: J, _ :: fs, p + 1 => gFp F J fs p
  | _, _, _ => []
theorem GArgs.len {A W : Wd} {J : List (Option Nat)} {Is : List Sl} {vs : List V} {fs : List (List Addr)} (h : GArgs K As σ A W J Is vs fs) : vs.length = Is.length ∧ J.length = Is.length ∧ fs.length = Is.length := by
  induction h with
  | nil => exact ⟨rfl, rfl, rfl⟩
  | _ => simp_all
theorem GArgs.mem {A W : Wd} {J : List (Option Nat)} {Is : List Sl} {vs : List V} {fs : List (List Addr)} (h : GArgs K As σ A W J Is vs fs) {F : Nat → List Addr} : ∀ (p : Nat) a, a ∈ gFp F J fs p → (∃ i, J[p]? = some (some i) ∧ a ∈ F i) ∨ (J[p]? = some none ∧ ∃ f, fs[p]? = some f ∧ a ∈ f) := by
  induction h with
  | nil => intro p a ha; cases ha
  | @fr α _ x v J Is vs fs r _ ih =>
    intro p a ha
    cases p with
    | zero => cases ha
    | succ p => exact ih p a ha
  | @ow α _ y pin i v J Is vs fs h1 h2 _ ih =>
    intro p a ha
    cases p with
    | zero => exact .inl ⟨i, rfl, ha⟩
    | succ p => exact ih p a ha
  | @nw α _ y v f J Is vs fs o n d _ ih =>
    intro p a ha
    cases p with
    | zero => exact .inr ⟨rfl, f, rfl, ha⟩
    | succ p => exact ih p a ha
theorem GArgs.hd {A W : Wd} {J : List (Option Nat)} {Is : List Sl} {vs : List V} {fs : List (List Addr)} (h : GArgs K As σ A W J Is vs fs) {F : Nat → List Addr} (h1 : ∀ (i : Nat) A o, As[i]? = some A → σ[i]? = some o → Hd K A o W (F i)) : ∀ (p : Nat) B v, Is[p]? = some B → vs[p]? = some v → Hd K B (some v) W (gFp F J fs p) := by
  induction h with
  | nil => intro p B v e; simp at e
  | @fr α _ x v J Is vs fs r _ ih =>
    intro p B w e1 e2
    cases p with
    | zero => cases e1; cases e2; exact ⟨v, rfl, r⟩
    | succ p => exact ih p B w e1 e2
  | @ow α _ y pin i v J Is vs fs q1 q2 _ ih =>
    intro p B w e1 e2
    cases p with
    | zero =>
      cases e1; cases e2
      obtain ⟨w, ew, r, _⟩ := h1 i _ _ q1 q2
      exact ⟨w, ew, r, fun u z => nomatch z⟩
    | succ p => exact ih p B w e1 e2
  | @nw α _ y v f J Is vs fs o n d _ ih =>
    intro p B w e1 e2
    cases p with
    | zero => cases e1; cases e2; exact ⟨v, rfl, o, fun u z => nomatch z⟩
    | succ p => exact ih p B w e1 e2
end
section
variable {K : Frag} {W0 : Wd} {As : List Sl}
end
/-! the slots behind a call -/
section
variable {τ τ' S α β : Type} {c : Cn} {W0 : Wd} {X : WX} {As : List Sl}
variable {J' S' ρ : Type} {kr : ρ → Kd} {Ls : List Sl} {Js : J' → List Sl} {B : Bd} {Bs : S' → List Sl} {ins : τ → List Sl} {outs : S → List Sl} {f : τ → R S}
end
end Fw

namespace Fw
open PySem L2
/-! ### an expression looked at with a dict of one's own lists locked for its time -/
inductive FvAt : Sl → Sl → Prop
  | un {A : Sl} : FvAt A .un
  | fr {α : Type} [Rp α] {x : α} : FvAt (.fr x) (.fr x)
  | ow {α : Type} [Fz α] {pin : Option V} {x : α} : FvAt (.ow pin x) (.fr x)
theorem FvW.get {As Bs : List Sl} (h : FvW As Bs) : ∀ (j : Nat) B, Bs[j]? = some B → ∃ A, As[j]? = some A ∧ FvAt A B := by
  induction h with
  | nil => intro j B e; simp at e
  | un _ ih => intro j B e; cases j with
    | zero => cases e; exact ⟨_, rfl, .un⟩
    | succ j => exact ih j B e
  | fr _ ih => intro j B e; cases j with
    | zero => cases e; exact ⟨_, rfl, .fr⟩
    | succ j => exact ih j B e
  | ow _ ih => intro j B e; cases j with
    | zero => cases e; exact ⟨_, rfl, .ow⟩
    | succ j => exact ih j B e
  | no _ ih => intro j B e; cases j with
    | zero => cases e; exact ⟨_, rfl, .un⟩
    | succ j => exact ih j B e
section
variable {κ α : Type} [DecidableEq κ] [Rp κ] [DKy κ] [Rp α] {K : Frag} {W0 W : Wd} {As Bs : List Sl} {σ : St}
variable {c : Cn} {X : WX} {ρ : Type}
end
end Fw

namespace Fw
open PySem L2
/-! ### values of many kinds that are no lists, no tuples -/
instance : Uf (Dy 0) := ⟨fun {K x v G G'} t h => by
  obtain ⟨d⟩ := x
  obtain ⟨h1, h2, h3⟩ := h
  dsimp only at h1 h2 h3
  refine ⟨?_, h2, h3⟩
  cases h1 with
  | non => exact .non
  | bl b => exact .bl b
  | int i => exact .int i
  | str s => exact .str s
  | lst _ _ => simp only [PyData.depth] at h2; omega
  | tup _ _ => simp only [PyData.depth] at h2; omega⟩
/-! ### a statement that changes nothing of one's own, neither returns nor jumps -/
section
variable {J S ρ : Type}
def Out.jabs (m : Out S Empty Empty) : Out S J ρ := match m with
  | .nx s => .nx s
  | .rt r => nomatch r
  | .bk j => nomatch j
  | .ct j => nomatch j
  | .ex e => .ex e
  | .no => .no
@[simp] theorem Out.jabs_nx (s : S) : (Out.nx s : Out S Empty Empty).jabs = (Out.nx s : Out S J ρ) := rfl
@[simp] theorem Out.jabs_ex (e : Exc) : (Out.ex e : Out S Empty Empty).jabs = (Out.ex e : Out S J ρ) := rfl
@[simp] theorem Out.jabs_no : (Out.no : Out S Empty Empty).jabs = (Out.no : Out S J ρ) := rfl
variable {c : Cn} {X : WX} {kr : ρ → Kd} {Ls : List Sl} {Js : J → List Sl} {B : Bd} {As : List Sl} {Cs : S → List Sl}
end
end Fw

namespace Fw
open PySem L2
/-! ### a dict of own lists held by a name -/
section
variable {κ α : Type} [DecidableEq κ] [Rp κ] [DKy κ] [Rp α]
variable {c : Cn} {W0 : Wd} {X : WX} {As : List Sl} {J S ρ : Type} {kr : ρ → Kd} {Ls : List Sl} {Js : J → List Sl} {B : Bd} {Bs : S → List Sl}
end
end Fw

namespace Fw
open PySem L2
/-! ### a comprehension within a comprehension -/
end Fw

namespace Fw
open PySem L2
/-! ### str of a text or a number; a pair looked at as a tuple of its kinds -/
section
variable {X : Cx}
end
section
variable {K : Frag} {X : WX}
end
/-! ### d.pop(k), d a dict of own lists -/
section
variable {κ α : Type} [DecidableEq κ] [Rp κ] [PKy κ] [Rp α]
variable {c : Cn} {W0 : Wd} {X : WX} {As : List Sl} {J S ρ : Type} {kr : ρ → Kd} {Ls : List Sl} {Js : J → List Sl} {B : Bd} {Bs : S → List Sl}
end
section
variable {φ φ' α κ : Type} {n cls : Str} [Fs φ] [Fs φ'] {J S ρ' : Type} {c : Cn} {X : WX} {kr : ρ' → Kd} {Ls : List Sl} {Js : J → List Sl} {B : Bd} {As : List Sl} {Bs : S → List Sl} {C : Addr} {ns : List Str} {x : Ins cls φ} {pin : Option V}
variable [DecidableEq κ] [Rp κ] [PKy κ] [Rp α]
end
/-! ### o.f.m(..), where the method changes the field -/
section
variable {φ ψ τ ρ : Type} {n m cls cls2 : Str} [Fs φ] [Fs ψ] [Args τ] {J S ρ' : Type} {c : Cn} {X : WX} {kr : ρ' → Kd} {Ls : List Sl} {Js : J → List Sl} {B : Bd} {As : List Sl} {Bs : S → List Sl} {C C2 : Addr} {ns ns2 : List Str} {x : Ins cls φ} {pin : Option V}
end
/-! ### an if whose else never goes on -/
section
variable {J S T ρ : Type} {c : Cn} {X : WX} {kr : ρ → Kd} {Ls : List Sl} {Js : J → List Sl} {B : Bd} {As : List Sl} {Bs : S → List Sl} {Cs : T → List Sl}
end
end Fw

namespace Fw
open PySem L2
/-! ### a method that changes its object and tells something, within a statement -/
section
variable {φ τ ρ' ρ S J β : Type} {m cls : Str} [Fs φ] [Args τ] [Rp ρ'] {c : Cn} {X : WX} {kr : ρ → Kd} {Ls : List Sl} {Js : J → List Sl} {B : Bd} {As : List Sl} {Bs : S → List Sl} {C : Addr} {ns : List Str}
end
/-! ### a test of several parts, of which a later one changes things: one if after the other -/
section
variable {J S ρ : Type} {c : Cn} {X : WX} {kr : ρ → Kd} {Ls : List Sl} {Js : J → List Sl} {B : Bd} {As : List Sl} {Bs : S → List Sl} {m : Out S J ρ}
end
/-! ### e.replace of two written texts -/
section
variable {c : Cn} {W0 : Wd} {X : WX} {As : List Sl}
end
/-! ### return of what cannot raise, where a thing handed in was changed -/
section
variable {S ρ α : Type} {c : Cn} {X : WX} {As : List Sl} {Bs : S → List Sl}
end
/-! ### tokens: a comprehension within which one token is out -/
section
open PySem.Spec PyProof.Rows
variable {X : Cx}
end
structure PSsU (X : Cx) (st : List Stmt) (t : TS) : Prop where
  h : PSsT X st t
/-! ### behind o.m('..') a token is out -/
structure PST1 (X : Cx) (st : Stmt) (t : TS) : Prop where
  h : ∀ (pins : List (Addr × Obj)) (s : Shared) (σ : L2.St) (H : Hp) (D : Ends), Inv X pins σ H s → t D σ H → wpAny (model X.prog X.w) X.A (exec st X.env) (fun f s' => 1 ≤ s'.toks ∧ SP X pins D f s') X.xe s
section
open PySem.Spec PyProof.Rows
variable {X : Cx} {CX : CXT} {k : Nat} {f C : Addr} {fd : FuncData} {ps : List Str} {sp : Sp} {E : L2.St → XK} {m : Str} {p pos apos epos cpos : Pos} {o : Expr} {ta : TE} {rest : List Stmt} {u : TS} {x : Str} {j : Nat}
end
/-! ### .. as structures, for the elaborator -/
structure PEU (X : Cx) (e : Expr) (t : TE) : Prop where
  h : PET X e t
section
open PySem.Spec PyProof.Rows
variable {X : Cx}
end
/-! ### f() -/
section
open PySem.Spec PyProof.Rows
variable {X : Cx} {CX : CXT} {k : Nat} {f : Addr} {fd : FuncData} {ps : List Str} {sp : Sp} {E : L2.St → XK} {x : Str} {p pos : Pos}
end
end Fw

namespace Fw
open PySem L2
/-! ### expressions that change things, within a comprehension -/
section
variable {c : Cn} {W0 : Wd} {X : WX} {As : List Sl} {α β γ ρ τ : Type} {Bs : α → List Sl}
end
/-! ### .. the comprehension -/
section
variable {α β γ : Type}
end
section
variable {K : Frag} {W0 Wb W W' : Wd} {As : List Sl} {σ σ2 : L2.St} {D : Addr} {o : HO} {vs : List Nat}
theorem Hd.same {A : Sl} {o : Option V} {f : List Addr} (hg : W'.G = W.G) (hf : ∀ a ∈ f, W.G a = none ∧ W'.H a = W.H a) (h : Hd K A o W f) : Hd K A o W' f := by
  cases A with
  | un => trivial
  | fr x => obtain ⟨v, e1, r⟩ := h; exact ⟨v, e1, hg ▸ r⟩
  | ow x =>
    obtain ⟨v, e1, r, pn⟩ := h
    refine ⟨v, e1, Ob.keep r (hg ▸ Inc.refl _) (fun a ha => hg ▸ (hf a ha).1) fun a ha => (hf a ha).2, pn⟩
end
section
variable {c : Cn} {W0 : Wd} {α β γ : Type}
end
/-! ### within a statement -/
section
variable {c : Cn} {X : WX} {As : List Sl} {J S ρ α : Type} {kr : ρ → Kd} {Ls : List Sl} {Js : J → List Sl} {B : Bd} {Bs : S → List Sl}
end
end Fw

namespace Fw
open PySem L2
/-! ### list(d.values()), d of tuples -/
section
open PySem.Spec PyProof.Rows
variable {X : Cx} {e : Expr} {te : TE} {p apos cpos pos : Pos}
end
section
variable {α β : Type} [Rp α] [KT α] [DecidableEq α] [Rp β] {c : Cn} {W0 : Wd} {X : WX} {As : List Sl}
end
/-! ### a for over a list, a call within -/
section
variable {c : Cn} {W0 : Wd} {As : List Sl} {α β γ : Type}
end
end Fw

namespace Fw
open PySem L2
/-! ### a call that changes, within a test: not .. -/
section
variable {c : Cn} {W0 : Wd} {As : List Sl}
end
end Fw

namespace Fw
open PySem L2
/-! ### a call that changes several own things and tells something frozen, within a statement -/
section
variable {c : Cn} {X : WX} {As : List Sl} {γ τ S J' S' ρ : Type} {kr : ρ → Kd} {Ls : List Sl} {Js : J' → List Sl} {B : Bd} {Bs : S' → List Sl} {ins : τ → List Sl} {outs : S → List Sl} {f : τ → R S}
end
/-! ### flat things told by a call: whatever the ground -/
section
variable {c : Cn} {W0 : Wd} {As : List Sl} {v : V} {G : Hp}
end
end Fw

namespace Fw
open PySem L2
/-! ### a dict of own lists: d[k] = a new list -/
section
variable {κ α : Type} [DecidableEq κ] [Rp κ] [DKy κ] [Rp α]
variable {c : Cn} {W0 : Wd} {X : WX} {As : List Sl} {J S ρ : Type} {kr : ρ → Kd} {Ls : List Sl} {Js : J → List Sl} {B : Bd} {Bs : S → List Sl}
end
end Fw

namespace Fw
open PySem L2
/-! ### a dict of own lists whose addresses are known: for x in d[k] -/
structure DGq (κ α : Type) where
  x : DGk κ α
  p : Addr
  q : List (κ × V)
section
variable {κ α : Type} [DecidableEq κ] [Rp κ] [DKy κ] [Rp α]
def ownQ (K : Frag) (y : DGq κ α) (v : V) (f : List Addr) (W : Wd) : Prop := ∃ qs : List Addr, v = .ref y.p ∧ f = y.p :: qs ∧ (y.p :: qs).Nodup ∧ W.G y.p = none ∧ W.H y.p = some (DKy.ho y.q) ∧ y.q.map (·.1) = y.x.l.map (·.1) ∧ y.q.map (·.2) = qs.map V.ref ∧ (y.x.l.map (·.1)).Nodup ∧ DRows K (y.x.l.map (·.2)) qs W ∧ y.x.l.length ≤ sizeLine
theorem ownQ_ownK {K : Frag} {y : DGq κ α} {v : V} {f : List Addr} {W : Wd} (h : ownQ K y v f W) : ownK K y.x v f W := by
  obtain ⟨qs, e, ef, nd, g, hh, k1, k2, kn, dr, l⟩ := h
  exact ⟨y.p, y.q, qs, e, ef, nd, g, hh, k1, k2, kn, dr, l⟩
instance : Ob (DGq κ α) where
  own := ownQ
  keep := fun {K y v f W W'} ⟨qs, e, ef, nd, g, h, k1, k2, kn, r, l⟩ s n k => by
    subst ef
    exact ⟨qs, e, rfl, nd, n y.p (by simp), (k y.p (by simp)).trans h, k1, k2, kn, r.keep s (fun b hb => n b (List.mem_cons_of_mem _ hb)) fun b hb => k b (List.mem_cons_of_mem _ hb), l⟩
  foot := fun {K y v f W} h b hb => Ob.foot (show Ob.own K y.x v f W from ownQ_ownK h) b hb
variable {c : Cn} {X : WX} {As : List Sl} {J S T ρ : Type} {kr : ρ → Kd} {Ls : List Sl} {Js : J → List Sl} {B : Bd} {Bs : S → List Sl}
variable {Cs : T → List Sl}
end
end Fw

namespace Fw
open PySem L2
/-! ### a statement for whose time a dict of own lists is locked; own lists of plain values may change within -/
/-- a slot as it is, its value, as it is looked at -/
inductive FvE : Sl → V → Sl → Prop
  | un {A : Sl} {v : V} : FvE A v .un
  | fr {α : Type} [Rp α] {x : α} {v : V} : FvE (.fr x) v (.fr x)
  | ow {α : Type} [Fz α] {pin : Option V} {x : α} {v : V} : FvE (.ow pin x) v (.fr (Pn.mk x v))
  | pf {α : Type} [Rp α] {x : α} {v : V} : FvE (.fr x) v (.fr (Pn.mk x v))
  | ot {α : Type} [Sc α] {pin : Option V} {x : List α} {v : V} : FvE (.ow pin x) v (.ow none x)
inductive FvL : List Sl → List V → List Sl → Prop
  | nil : FvL [] [] []
  | cons {A B : Sl} {v : V} {As Bs : List Sl} {vs : List V} : FvE A v B → FvL As vs Bs → FvL (A :: As) (v :: vs) (B :: Bs)
/-- at the end: as it was, as it was looked at, as it is -/
inductive FvF : Sl → V → Sl → Sl → Prop
  | un {A B : Sl} {v : V} : FvF A v B .un
  | fr {α : Type} [Sc α] {A : Sl} {x : α} {v : V} : FvF A v (.fr x) (.fr x)
  | ow {α : Type} [Fz α] {pin : Option V} {x : α} {v : V} : FvF (.ow pin x) v (.fr (Pn.mk x v)) (.ow pin x)
  | pf {α : Type} [Rp α] {x : α} {v : V} : FvF (.fr x) v (.fr (Pn.mk x v)) (.fr x)
  | ot {α : Type} [Sc α] {x y : List α} {v : V} : FvF (.ow none x) v (.ow none y) (.ow none y)
inductive FvN : List Sl → List V → List Sl → List Sl → Prop
  | nil : FvN [] [] [] []
  | cons {A B C : Sl} {v : V} {As Bs Cs : List Sl} {vs : List V} : FvF A v B C → FvN As vs Bs Cs → FvN (A :: As) (v :: vs) (B :: Bs) (C :: Cs)
theorem FvL.len {As Bs : List Sl} {vs : List V} (h : FvL As vs Bs) : As.length = Bs.length ∧ vs.length = As.length := by
  induction h with
  | nil => exact ⟨rfl, rfl⟩
  | cons _ _ ih => exact ⟨congrArg (· + 1) ih.1, congrArg (· + 1) ih.2⟩
theorem FvL.get {As Bs : List Sl} {vs : List V} (h : FvL As vs Bs) : ∀ (k : Nat) B, Bs[k]? = some B → ∃ A v, As[k]? = some A ∧ vs[k]? = some v ∧ FvE A v B := by
  induction h with
  | nil => intro k B e; simp at e
  | cons h _ ih => intro k B e; cases k with
    | zero => cases e; exact ⟨_, _, rfl, rfl, h⟩
    | succ k => exact ih k B e
theorem FvN.len {As Bs Cs : List Sl} {vs : List V} (h : FvN As vs Bs Cs) : Bs.length = Cs.length := by
  induction h with
  | nil => rfl
  | cons _ _ ih => exact congrArg (· + 1) ih
theorem FvN.get {As Bs Cs : List Sl} {vs : List V} (h : FvN As vs Bs Cs) : ∀ (k : Nat) C, Cs[k]? = some C → ∃ A v B, As[k]? = some A ∧ vs[k]? = some v ∧ Bs[k]? = some B ∧ FvF A v B C := by
  induction h with
  | nil => intro k C e; simp at e
  | cons h _ ih => intro k C e; cases k with
    | zero => cases e; exact ⟨_, _, _, rfl, rfl, rfl, h⟩
    | succ k => exact ih k C e
section
open Classical
variable {κ α : Type} [DecidableEq κ] [Rp κ] [DKy κ] [Rp α] {K : Frag} {W0 W : Wd} {As Bs : List Sl} {σ : St}
end
section
variable {J S ρ : Type}
/-- neither returns nor jumps; a raise is not looked at -/
def Out.lkabs (m : Out S Empty Empty) : Out S J ρ := match m with
  | .nx s => .nx s
  | .rt r => nomatch r
  | .bk j => nomatch j
  | .ct j => nomatch j
  | .ex _ => .no
  | .no => .no
@[simp] theorem Out.lkabs_nx (s : S) : (Out.nx s : Out S Empty Empty).lkabs = (Out.nx s : Out S J ρ) := rfl
variable {κ α : Type} [DecidableEq κ] [Rp κ] [DKy κ] [Rp α]
variable {c : Cn} {X : WX} {kr : ρ → Kd} {Ls : List Sl} {Js : J → List Sl} {B : Bd} {As : List Sl} {Cs : S → List Sl}
end
end Fw

namespace Fw
open PySem L2
/-! ### a dict of own dicts: v = d.setdefault(k, {}) -/
structure DDk (κ κ' α : Type) where
  l : List (κ × List (κ' × α))
deriving DecidableEq
/-- the same, the dict at k lent to a name -/
structure DDh (κ κ' α : Type) where
  l : List (κ × List (κ' × α))
  k : κ
  b : Addr
section
variable {κ κ' α : Type} [DecidableEq κ] [Rp κ] [DKy κ] [DecidableEq κ'] [Rp κ'] [DKy κ'] [Rp α]
def ownDD (K : Frag) (x : DDk κ κ' α) (v : V) (f : List Addr) (W : Wd) : Prop := ∃ (p : Addr) (q : List (κ × V)) (qs : List Addr), v = .ref p ∧ f = p :: qs ∧ (p :: qs).Nodup ∧ W.G p = none ∧ W.H p = some (DKy.ho q) ∧ q.map (·.1) = x.l.map (·.1) ∧ q.map (·.2) = qs.map V.ref ∧ (x.l.map (·.1)).Nodup ∧ (∀ (j : Nat) xi b, (x.l.map (·.2))[j]? = some xi → qs[j]? = some b → Ob.own K (Dk.mk xi : Dk κ' α) (.ref b) [b] W) ∧ x.l.length ≤ sizeLine
def ownDH (K : Frag) (x : DDh κ κ' α) (v : V) (f : List Addr) (W : Wd) : Prop := ∃ (p : Addr) (q : List (κ × V)) (qs : List Addr), v = .ref p ∧ f = p :: qs.filter (fun a => decide (a ≠ x.b)) ∧ (p :: qs).Nodup ∧ W.G p = none ∧ W.H p = some (DKy.ho q) ∧ q.map (·.1) = x.l.map (·.1) ∧ q.map (·.2) = qs.map V.ref ∧ (x.l.map (·.1)).Nodup ∧ valV q x.k = some (.ref x.b) ∧ (∀ (j : Nat) xi b, (x.l.map (·.2))[j]? = some xi → qs[j]? = some b → b ≠ x.b → Ob.own K (Dk.mk xi : Dk κ' α) (.ref b) [b] W) ∧ x.l.length ≤ sizeLine
theorem dd_len {q : List (κ × V)} {l : List (κ × List (κ' × α))} {qs : List Addr} (k1 : q.map (·.1) = l.map (·.1)) (k2 : q.map (·.2) = qs.map V.ref) : qs.length = l.length := by
  have h1 := congrArg List.length k1
  have h2 := congrArg List.length k2
  simp at h1 h2
  omega
instance : Ob (DDk κ κ' α) where
  own := ownDD
  keep := fun {K x v f W W'} ⟨p, q, qs, e, ef, nd, g, h, k1, k2, kn, r, l⟩ s n k => by
    subst ef
    refine ⟨p, q, qs, e, rfl, nd, n p (by simp), (k p (by simp)).trans h, k1, k2, kn, fun j xi b h1 h2 => ?_, l⟩
    have hb : b ∈ p :: qs := List.mem_cons_of_mem _ (List.mem_of_getElem? h2)
    exact Ob.keep (r j xi b h1 h2) s (fun a ha => by rw [List.mem_singleton.mp ha]; exact n b hb) fun a ha => by rw [List.mem_singleton.mp ha]; exact k b hb
  foot := fun {K x v f W} ⟨p, q, qs, e, ef, nd, g, h, k1, k2, kn, r, l⟩ b hb => by
    subst ef
    rcases List.mem_cons.mp hb with z | hb
    · subst z
      exact ⟨g, by rw [h]; exact ho_ne q⟩
    · obtain ⟨j, hj, e⟩ := List.getElem_of_mem hb
      have hl := dd_len (l := x.l) k1 k2
      have h1 : (x.l.map (·.2))[j]? = some ((x.l.map (·.2))[j]'(by rw [List.length_map]; omega)) := List.getElem?_eq_getElem (show j < (x.l.map (·.2)).length by rw [List.length_map]; omega)
      exact Ob.foot (r j _ b h1 (by rw [List.getElem?_eq_getElem hj, e])) b (by simp)
instance : Ob (DDh κ κ' α) where
  own := ownDH
  keep := fun {K x v f W W'} ⟨p, q, qs, e, ef, nd, g, h, k1, k2, kn, hv, r, l⟩ s n k => by
    subst ef
    refine ⟨p, q, qs, e, rfl, nd, n p (by simp), (k p (by simp)).trans h, k1, k2, kn, hv, fun j xi b h1 h2 h3 => ?_, l⟩
    have hb : b ∈ p :: qs.filter (fun a => decide (a ≠ x.b)) := List.mem_cons_of_mem _ (List.mem_filter.mpr ⟨List.mem_of_getElem? h2, decide_eq_true h3⟩)
    exact Ob.keep (r j xi b h1 h2 h3) s (fun a ha => by rw [List.mem_singleton.mp ha]; exact n b hb) fun a ha => by rw [List.mem_singleton.mp ha]; exact k b hb
  foot := fun {K x v f W} ⟨p, q, qs, e, ef, nd, g, h, k1, k2, kn, hv, r, l⟩ b hb => by
    subst ef
    rcases List.mem_cons.mp hb with z | hb
    · subst z
      exact ⟨g, by rw [h]; exact ho_ne q⟩
    · obtain ⟨hb1, hb2⟩ := List.mem_filter.mp hb
      obtain ⟨j, hj, e⟩ := List.getElem_of_mem hb1
      have hl := dd_len (l := x.l) k1 k2
      have h1 : (x.l.map (·.2))[j]? = some ((x.l.map (·.2))[j]'(by rw [List.length_map]; omega)) := List.getElem?_eq_getElem (show j < (x.l.map (·.2)).length by rw [List.length_map]; omega)
      exact Ob.foot (r j _ b h1 (by rw [List.getElem?_eq_getElem hj, e]) (of_decide_eq_true hb2)) b (by simp)
end
section
variable {K : Frag} {W0 W : Wd} {As : List Sl} {σ : St} {i j : Nat}
end
section
variable {κ κ' α : Type} [DecidableEq κ] [Rp κ] [DKy κ] [DecidableEq κ'] [Rp κ'] [DKy κ'] [Rp α]
variable {c : Cn} {W0 : Wd} {X : WX} {As : List Sl} {J S ρ : Type} {kr : ρ → Kd} {Ls : List Sl} {Js : J → List Sl} {B : Bd} {Bs : S → List Sl}
end
end Fw

namespace Fw
open PySem L2
/-! ### for a, b in [(x, y), (x', y')]: x, x' new lists, changed in the body -/
/-- the ground with what is still pending -/
def Wd.gr (W0 W : Wd) (S : List Addr) (le : Le W0 W) : Wd := ⟨W.G, fun a => if a ∈ S then W.H a else (W0.rb W le).H a, fun a o e => by
  show (if a ∈ S then W.H a else (W0.rb W le).H a) = some o
  by_cases h : a ∈ S
  · rw [if_pos h]; exact W.sub a o e
  · rw [if_neg h]; exact (W0.rb W le).sub a o e, fun a u h i => by
  have h : (if a ∈ S then W.H a else (W0.rb W le).H a) = some u := h
  by_cases z : a ∈ S
  · rw [if_pos z] at h; exact W.im a u h i
  · rw [if_neg z] at h; exact (W0.rb W le).im a u h i⟩
section
variable {W0 W : Wd} {S S' : List Addr} {le : Le W0 W}
theorem gr_in {a : Addr} (h : a ∈ S) : (W0.gr W S le).H a = W.H a := if_pos h
theorem gr_ni {a : Addr} (h : a ∉ S) : (W0.gr W S le).H a = (W0.rb W le).H a := if_neg h
theorem Le.gr1 : Le (W0.gr W S le) W := ⟨Inc.refl _, fun a o e => by
  by_cases h : a ∈ S
  · rw [gr_in h] at e; exact e
  · rw [gr_ni h] at e; exact (Le.rb1 le).h a o e, fun _ g _ => g⟩
theorem Le.grS (hs : ∀ a ∈ S', a ∈ S) : Le (W0.gr W S' le) (W0.gr W S le) := ⟨Inc.refl _, fun a o e => by
  have w := (Le.gr1 (S := S')).h a o e
  by_cases h : a ∈ S
  · rw [gr_in h]; exact w
  · rw [gr_ni h]
    rw [gr_ni (fun z => h (hs a z))] at e
    exact e, fun _ g _ => g⟩
end
section
variable {K : Frag} {W0 W W2 : Wd} {As : List Sl} {σ : St}
theorem At.take {α : Type} [Ob α] {x : α} {i : Nat} {p a : Addr} {S : List Addr} {le : Le W0 W2} (h : At K (W0.gr W2 (p :: a :: S) le) As σ W) (o : Ob.own K x (.ref a) [a] W2) (na : a ∉ p :: S) (a0 : W0.H a = none) : At K (W0.gr W2 (p :: S) le) (As.set i (.ow none x)) (σ.set i (some (.ref a))) W := by
  obtain ⟨l, lw, F, h1, h2, h3⟩ := h
  obtain ⟨ga, ha⟩ := Ob.foot o a (by simp)
  have ia : a ∈ p :: a :: S := by simp
  have hga : (W0.gr W2 (p :: a :: S) le).H a = W2.H a := gr_in ia
  have gW : W.G a = none := lw.o a ga (by rw [hga]; exact ha)
  have hW : W.H a = W2.H a := by
    cases q : W2.H a with
    | none => exact absurd q ha
    | some u => exact lw.h a u (by rw [hga, q])
  have nF : ∀ k b, b ∈ F k → b ≠ a := fun k b hb z => by
    have := (h3 k b hb).2.2
    rw [z, hga] at this
    exact ha this
  have sub : Le (W0.gr W2 (p :: S) le) (W0.gr W2 (p :: a :: S) le) := Le.grS fun b hb => by
    rcases List.mem_cons.mp hb with z | z
    · rw [z]; simp
    · exact List.mem_cons_of_mem _ (List.mem_cons_of_mem _ z)
  refine ⟨by simp [l], sub.trans lw, fun k => if k = i then [a] else F k, fun k B o' e1 e2 => ?_, fun k m b n hb hb2 => ?_, fun k b hb => ?_⟩
  · by_cases q : i = k
    · subst q
      rw [get_set_eq e1, get_set_eq e2]
      dsimp only
      rw [if_pos rfl]
      exact ⟨.ref a, rfl, Ob.keep o lw.g (fun d hd => by rw [List.mem_singleton.mp hd]; exact gW) (fun d hd => by rw [List.mem_singleton.mp hd]; exact hW), fun u e => nomatch e⟩
    · rw [get_set_ne q] at e1 e2
      dsimp only
      rw [if_neg (Ne.symm q)]
      exact h1 k B o' e1 e2
  · dsimp only at hb hb2
    by_cases q : k = i
    · rw [if_pos q] at hb
      by_cases q2 : m = i
      · exact n (q.trans q2.symm)
      · rw [if_neg q2] at hb2
        exact nF m b hb2 (List.mem_singleton.mp hb)
    · rw [if_neg q] at hb
      by_cases q2 : m = i
      · rw [if_pos q2] at hb2
        exact nF k b hb (List.mem_singleton.mp hb2)
      · rw [if_neg q2] at hb2
        exact h2 k m b n hb hb2
  · dsimp only at hb
    by_cases q : k = i
    · rw [if_pos q] at hb
      obtain rfl := List.mem_singleton.mp hb
      exact ⟨gW, by rw [hW]; exact ha, by rw [gr_ni na]; exact Wd.rb_none a0 ga⟩
    · rw [if_neg q] at hb
      obtain ⟨p1, p2, p3⟩ := h3 k b hb
      exact ⟨p1, p2, sub.h.nope p3⟩
end
section
variable {J S T ρ α β : Type} [Rp α] [Rp β] {c : Cn} {X : WX} {kr : ρ → Kd} {Ls : List Sl} {Js : J → List Sl} {B : Bd} {As : List Sl} {Bs : S → List Sl} {Cs : T → List Sl}
end
end Fw

namespace Fw
open PySem L2
/-! ### a pair of two own dicts, indexed by a number; upper -/
section
variable {α β : Type} {c : Cn} {W0 : Wd} {X : WX} {As : List Sl} {K : Frag}
end
section
variable {κ α β : Type} [DecidableEq κ] [Rp κ] [DKy κ] [Rp α] {c : Cn} {X : WX} {As : List Sl} {J S ρ : Type} {kr : ρ → Kd} {Ls : List Sl} {Js : J → List Sl} {B : Bd} {Bs : S → List Sl}
end
section
variable {κ α β : Type} [DecidableEq κ] [Rp κ] [PKy κ] [Rp α] {c : Cn} {X : WX} {As : List Sl} {J S ρ : Type} {kr : ρ → Kd} {Ls : List Sl} {Js : J → List Sl} {B : Bd} {Bs : S → List Sl}
end
end Fw

namespace Fw
open PySem L2
instance {α β : Type} [Rp α] [Rp β] [NN α] [NN β] : NN (α ⊕ β) := ⟨fun {K x v G} h => by
  cases x with
  | inl a => exact NN.nn (α := α) (K := K) (G := G) (x := a) h
  | inr b => exact NN.nn (α := β) (K := K) (G := G) (x := b) h⟩
section
variable {c : Cn} {W0 : Wd} {X : WX} {As : List Sl}
end
end Fw

namespace Fw
open PySem L2
/-! ### lists of unlike tuples; blocks that are never reached -/
section
variable {α β γ δ : Type} [Rp α] [Rp β] [Rp γ] [Rp δ] {K : Frag}
end
section
variable {J S ρ : Type} {c : Cn} {X : WX} {kr : ρ → Kd} {Ls : List Sl} {Js : J → List Sl} {B : Bd} {As : List Sl} {Bs : S → List Sl}
end
section
variable {α : Type} [Rp α] [NN α] {K : Frag}
end
section
variable {J S ρ : Type} {c : Cn} {X : WX} {kr : ρ → Kd} {Ls : List Sl} {Js : J → List Sl} {B : Bd} {As : List Sl} {Bs : S → List Sl}
end
section
variable {c : Cn} {X : WX} {As : List Sl} {J S ρ α : Type} {kr : ρ → Kd} {Ls : List Sl} {Js : J → List Sl} {B : Bd} {Bs : S → List Sl}
end
end Fw

namespace Fw
open PySem L2
/-! ### a def that changes what it is handed, and raises: at a raise the thing is as before -/
section
variable {c : Cn} {α τ τ' ρ : Type}
variable [Args τ] [Ob α] [Args τ'] {N : List Str} {n : Nat} {t : TS} {vs : List V} {H : Hp} {Q : VK} {E : XK}
end
section
variable {c : Cn} {X : WX} {As : List Sl} {J S ρ α : Type} {kr : ρ → Kd} {Ls : List Sl} {Js : J → List Sl} {B : Bd} {Bs : S → List Sl}
end
section
variable {J S ρ : Type} {c : Cn} {X : WX} {kr : ρ → Kd} {Ls Ls' : List Sl} {Js : J → List Sl} {B : Bd} {As : List Sl} {Bs : S → List Sl}
end
end Fw

/-! sorted(xs, key=lambda a: ..): a lambda with one parameter that captures a local, called by sorted -/
namespace LamK
open PySem PySem.Spec PyProof.Rows L2 LamX
/-- e tells the whole number n wherever the heap is h, and changes nothing -/
def GivesI (P : Program) (w : World) (A : Around) (env : Env) (h : Heap) (e : Expr) (n : Int) : Prop :=
  ∀ (s : Shared) (Q : Value → Shared → Prop) (E : Value → Shared → Prop), s.heap = h → (∀ t k, Q (.int n t) { s with toks := k }) → wpAny (model P w) A (eval e env) Q E s
section
variable {P : Program} {w : World} {A : Around} {env : Env} {h : Heap} {a b : Expr} {x y z n : Int} {pos : Pos}
theorem gi_int {i : Int} {j} : GivesI P w A env h (.Constant (.int i) j pos) i := fun s Q E e q => wpAny_Constant_int (q _ _)
theorem gi_op {op : Operator} (rule : ∀ (t u : Tok) (s : Shared) (Q : Value → Shared → Prop) (E : Value → Shared → Prop), Q (.int z s.toks) { s with toks := s.toks + 1 } → wpAny (model P w) A (binaryOp op (.int x t) (.int y u)) Q E s)
    (ha : GivesI P w A env h a x) (hb : GivesI P w A env h b y) : GivesI P w A env h (.BinOp a op b pos) z := fun s Q E e q =>
  wpAny_BinOp (ha s _ _ e fun t k => hb _ _ _ e fun u k2 => rule t u _ _ _ (q _ _))
theorem gi_add (ha : GivesI P w A env h a x) (hb : GivesI P w A env h b y) : GivesI P w A env h (.BinOp a .Add b pos) (x + y) := gi_op (fun _ _ _ _ _ q => add_int q) ha hb
theorem gi_mulW (hc : CMulW x y) (ha : GivesI P w A env h a x) (hb : GivesI P w A env h b y) : GivesI P w A env h (.BinOp a .Mult b pos) (x * y) := gi_op (fun _ _ _ _ _ q => mul_int q hc.ok) ha hb
theorem gi_mod (hy : 0 < y) (ha : GivesI P w A env h a x) (hb : GivesI P w A env h b y) : GivesI P w A env h (.BinOp a .Mod b pos) (x % y) := gi_op (fun _ _ _ _ _ q => mod_int' (by omega) (by rw [Int.fmod_eq_emod_of_nonneg x (by omega)]; exact q)) ha hb
theorem gi_pow (hc : CPow x y) (ha : GivesI P w A env h a x) (hb : GivesI P w A env h b y) : GivesI P w A env h (.BinOp a .Pow b pos) (x ^ y.toNat) := gi_op (fun _ _ _ _ _ q => pow_int_small hc.1 hc.2.1 hc.2.2 q) ha hb
theorem gi_loc {v : Str} {m} {t : Tok} (hk : env.scope.kind = .function) (hl : env.kindOf v = some .local) (hn : h.Ns env.locals m) (hv : m v = some (.int n t)) (hd : (v == ("__debug__" : Str)) = false := by decide) : GivesI P w A env h (.Name v pos) n := fun s Q E e q =>
  wpAny_Name (wpAny_loadName_local hk hl (by rw [e]; exact hn) hv (by have := q t s.toks; exact this)) hd
theorem gi_free {v : Str} {c : Addr} {t : Tok} (hk : env.scope.kind = .function) (hl : env.kindOf v = some .free) (hc : env.cells.lookup v = some c) (hv : h.IsCell c (some (.int n t))) (hd : (v == ("__debug__" : Str)) = false := by decide) (hcd : (v == ("__classdict__" : Str)) = false := by decide) : GivesI P w A env h (.Name v pos) n := fun s Q E e q =>
  wpAny_Name (wpAny_loadName_free hk hl hc (by rw [e]; exact hv) (by have := q t s.toks; exact this) hcd) hd
end
/-- a call of a lambda with one parameter: its key, the heap kept -/
theorem lam1 {P : Program} {w : World} {A : Around} {s : Shared} {f c' : Addr} {q par : Str} {params : Arguments} {body : Expr} {scope : Scope} {clos : List (Str × Addr)} {pm ctv v : Value} {n : Int}
    (hroom : A.depth < recursionLimit) (hf : s.heap.get? f = some (PySem.W.kla_obj "<lambda>" q params body scope clos pm c' ctv)) (hk : scope.kind = .function) (hco : scope.isCoroutine = false) (hgen : scope.isGenerator = false)
    (hcd : s.heap.CodeRec (.ref c') q) (lim : s.heap.NoLimit) (hbind : bindArgs (PySem.W.kla_fn "<lambda>" q params body scope clos pm (.ref c') ctv) ⟨[v], []⟩ = pure [(par, v)])
    (hcell : ∀ x ∈ scope.names, x.2 ≠ .cell) (hloc : scope.names.lookup par = some .local)
    (hb : ∀ h₁ : Heap, (∀ b o, s.heap.get? b = some o → h₁.get? b = some o) → h₁.Ns s.heap.objs.size (fun y => [(par, v)].reverse.lookup y) → GivesI P w (A.deeper (PySem.W.envX q scope s.heap.objs.size f (.ref c') clos)) (PySem.W.envX q scope s.heap.objs.size f (.ref c') clos) h₁ body n) :
    wpAny (model P w) A (call (.ref f) [v]) (PySem.W.KeyPure (.int n) s) (fun _ _ => False) s := by
  refine wpAny_call ?_
  refine PySem.W.kla_callFunE hroom hf rfl hco hgen rfl hcd ?_
  rw [hbind]
  refine wpAny_pure (wpAny_newFunctionEnv hcell (fun y hy => ?_) (fun h₁ hns hsb => ⟨lim.fresh _ hsb, ?_⟩) hk)
  · rw [List.mem_singleton] at hy
    rw [hy]
    exact hloc
  · show codeAny _ _ (.expr body (PySem.W.envX q scope s.heap.objs.size f (.ref c') clos)) _ _
    have kp : ∀ b o, s.heap.get? b = some o → h₁.get? b = some o := fun b o e => hsb.extBut b o (Nat.ne_of_lt (Heap.lt_size e)) (Heap.get?_push_of_some _ e)
    exact PySem.W.kla_codeExpr (hb h₁ kp hns _ _ _ rfl fun t k => ⟨h₁, k, rfl, kp, .int n t⟩)
/-- an empty table, the lambda's code object new -/
theorem lam_make0 {X : Cx} {pins : List (Addr × Obj)} {σ : L2.St} {H : Hp} {s : Shared} {c P : Addr} {params : Arguments} {body : Expr} {scope : Scope} {pos : Pos} {E : Value → Shared → Prop} {Q : Value → Shared → Prop} (I : Inv X pins σ H s) (TB : TabB X.base X.mg c P) (hcode : X.env.code = .ref c)
    (hP : H P = some (.tbl #[])) (hdef : defaultsOf params X.env = ([], [])) (hfree : ∀ y ∈ scope.names, y.2 = .free → ∃ c, X.env.cells.lookup y.1 = some c)
    (h : ∀ (f c' : Addr) (more : Array Value) (pm ctv : Value) (s' : Shared), H c' = none → f ≠ c' → Inv X pins σ (upd (upd H P (.tbl more)) c' (CodeO c' (X.env.qual ++ "<lambda>"))) s' →
      s'.heap.get? f = some (PySem.W.kla_obj "<lambda>" (X.env.qual ++ "<lambda>") params body scope (cloFrom X.env.cells scope.names []) pm c' ctv) → Q (.ref f) s') :
    wpAny (model X.prog X.w) X.A (eval (.Lambda params body scope pos) X.env) Q E s := by
  refine PySem.W.kla_eval hdef ?_
  have bP : s.heap.BuiltinsAt X.mg P := TB.bm.keeps I.bk
  have hP' : s.heap.get? P = some { cls := .none, data := .fields #[] } := I.hok P _ hP
  have hc : codeAmong pos (#[] : Array Value).toList = none := rfl
  refine PySem.W.kla_makeFunction (mg := X.mg) (c := c) (P := P) (ps := #[]) (closure_ok hfree) I.ok.glob (I.mod.glob.keeps I.bk) hcode (TB.code.keeps I.bk) hP' trivial hc TB.gP bP fun c' ctv h' tk hx hge hlt hrec htb => ?_
  obtain ⟨c2, oc, vs, t, e2, hoc, hd, hv⟩ := hrec
  cases e2
  have nC : H c' = none := I.hok.fresh hge
  have I1 := inv_table (t' := tk) (more := #[rawInt pos.line, rawInt pos.col, .ref c']) (h' := h'.push (PySem.W.kla_obj "<lambda>" (X.env.qual ++ "<lambda>") params body scope (cloFrom X.env.cells scope.names []) ((X.mg "__name__").getD .none) c' ctv)) I hP
    (fun b o hb e => Heap.get?_push_of_some _ (hx b o hb e)) (Heap.get?_push_of_some _ htb) hge ⟨oc, vs, t, Heap.get?_push_of_some _ hoc, hd, hv⟩
  exact h h'.objs.size c' _ ((X.mg "__name__").getD .none) ctv _ nC (Nat.ne_of_gt hlt) I1 (Heap.get?_push_size _ rfl)
/-- what sorted(xs, key=lambda) reads: a list of ints, the captured int in slot i, an empty table at P -/
def tSL (K : PySem.W.Frag) (te : TE) (P : Addr) (q : Str) (i : Nat) (C : Int → Int → Prop) (g : Int → Int → Int) : TE := fun σ H Q =>
  te σ H fun x H1 => ∃ (p : Addr) (xs : List Int) (n : Int), [x] = [V.ref p] ∧ SqL K H1 p (xs.map V.int) ∧ σ[i]? = some (some (.int n)) ∧ (∀ x ∈ xs, C n x) ∧ H1 P = some (.tbl #[]) ∧
    ∀ (a c' : Addr) (more : Array Value), H1 c' = none → upd (upd H1 P (.tbl more)) c' (CodeO c' q) a = none → Q (.ref a) (upd (upd (upd H1 P (.tbl more)) c' (CodeO c' q)) a (.lst ((xs.mergeSort (PySem.W.dataLe false fun x => PyData.int (g n x))).map V.int)))
theorem pe_sortlam {X : Cx} {x : Str} {p pos lpos kpos : Pos} {e body : Expr} {params : Arguments} {scope : Scope} {te : TE} {c P : Addr} {i k : Nat} {par cap : Str} {C : Int → Int → Prop} {g : Int → Int → Int}
    (hg : Gl X x) (hm : X.mg x = none) (hv : bootBuiltins x = some (.builtin "sorted")) (ha : PA X [e] (tCons te tNil)) (TB : TabB X.base X.mg c P) (hcode : X.env.code = .ref c) (hr : Room k X.A)
    (hk : scope.kind = .function) (hco : scope.isCoroutine = false) (hgen : scope.isGenerator = false) (hcell : ∀ y ∈ scope.names, y.2 ≠ .cell) (hloc : scope.names.lookup par = some .local) (hcapf : scope.names.lookup cap = some .free)
    {sc : Scope} (hsc : X.env.scope = sc) (hfr' : ∀ y ∈ scope.names, y.2 = .free → sc.names.lookup y.1 = some .cell) (hdef : defaultsOf params X.env = ([], []))
    (hN : X.N[i]? = some cap)
    (hbind : ∀ (q : Str) (cl : List (Str × Addr)) (pm cv ctv v : Value), bindArgs (PySem.W.kla_fn "<lambda>" q params body scope cl pm cv ctv) ⟨[v], []⟩ = pure [(par, v)])
    (hbody : ∀ (A : Around) (env : Env) (h : Heap) (m : Str → Option Value) (cc : Addr) (n x : Int) (t u : Tok), env.scope = scope → h.Ns env.locals m → m par = some (.int x t) → env.cells.lookup cap = some cc → h.IsCell cc (some (.int n u)) → C n x → GivesI X.prog X.w A env h body (g n x))
    (he : backTo pos (starEach [e] X.env) = (false, eval e X.env) :: backTo pos (starEach [] X.env) := by rfl) (hpl : (backTo pos (starEach [e] X.env)).any (·.1) = false := by rfl)
    (hdb : (x == ("__debug__" : Str)) = false := by decide) (hnm : x ≠ "__name__" := by decide) :
    PE X (.Call (.Name x p) [e] [⟨some "key", .Lambda params body scope lpos, kpos⟩] pos) (tSL X.K te P (X.env.qual ++ "<lambda>") i C g) := by
  have hfr : ∀ y ∈ scope.names, y.2 = .free → X.env.scope.names.lookup y.1 = some .cell := by rw [hsc]; exact hfr'
  refine ⟨fun pins s σ H Q I h => ?_⟩
  refine wpAny_Call_Name_kw (ld_blt I hg hm hv ?_ hnm hdb)
  refine PyProof.Rows.callWith_kw (thn (ha.run pos pins s σ H (fun vs H1 => ∃ (p : Addr) (xs : List Int) (n : Int), vs = [.ref p] ∧ SqL X.K H1 p (xs.map V.int) ∧ σ[i]? = some (some (.int n)) ∧ (∀ x ∈ xs, C n x) ∧ H1 P = some (.tbl #[]) ∧
    ∀ (a c' : Addr) (more : Array Value), H1 c' = none → upd (upd H1 P (.tbl more)) c' (CodeO c' (X.env.qual ++ "<lambda>")) a = none → Q (.ref a) (upd (upd (upd H1 P (.tbl more)) c' (CodeO c' (X.env.qual ++ "<lambda>"))) a (.lst ((xs.mergeSort (PySem.W.dataLe false fun x => PyData.int (g n x))).map V.int)))) I ?_) fun us s1 ⟨vs, H1, I1, r1, q1⟩ => ?_) he hpl (by rfl) (by rfl)
  · exact h
  · obtain ⟨p0, xs, n, rfl, hs, hn, hC, hP, hq⟩ := q1
    obtain ⟨u0, rfl, ru⟩ := r1.one
    obtain rfl : u0 = Value.ref p0 := ru
    have hfree : ∀ y ∈ scope.names, y.2 = .free → ∃ c, X.env.cells.lookup y.1 = some c := fun y hy e => I1.ok.has _ (.inl (hfr y hy e))
    show wpAny _ _ (evalAll ((do let v ← eval (.Lambda params body scope lpos) X.env; standAt pos; pure v) :: [])) _ _ s1
    refine wpAny_evalAll_cons (wpAny_bind (lam_make0 I1 TB hcode hP hdef hfree fun f c' more pm ctv s2 nC nfc I2 hf => wpAny_bind (wpAny_standAt (wpAny_pure (wpAny_evalAll_nil ?_)))))
    show wpAny _ _ (call (.builtin "sorted") [.ref p0] [(Str.ofString "key", .ref f)]) _ _ s2
    have hP2 : ∀ {b : Addr} {o : HO}, H1 b = some o → (∀ ps, o ≠ .tbl ps) → upd (upd H1 P (.tbl more)) c' (CodeO c' (X.env.qual ++ "<lambda>")) b = some o := fun {b o} e n => by
      rw [upd_ne (ne_of_none e nC), upd_ne (fun z => n #[] (Option.some.inj (e.symm.trans (by rw [z]; exact hP))))]
      exact e
    have hs2 : SqL X.K (upd (upd H1 P (.tbl more)) c' (CodeO c' (X.env.qual ++ "<lambda>"))) p0 (xs.map V.int) := by
      rcases hs with (h | ⟨o, h⟩) | h
      · exact .inl (.inl (hP2 h fun ps z => by cases z))
      · exact .inl (.inr ⟨o, hP2 h fun ps z => by cases z⟩)
      · exact .inr h
    generalize hH2 : upd (upd H1 P (.tbl more)) c' (CodeO c' (X.env.qual ++ "<lambda>")) = H2 at I2 hs2
    have hcO : H2 c' = some (CodeO c' (X.env.qual ++ "<lambda>")) := by rw [← hH2, upd_same]
    obtain ⟨its, rv, hl, hz⟩ := I2.list hs2
    have hlen : its.length = xs.length := by rw [← rv.length, List.length_map]
    -- the captured int, in its cell
    have hmem : (cap, NameKind.free) ∈ scope.names := PySem.mem_of_lookup hcapf
    have hkc : X.env.scope.names.lookup cap = some .cell := hfr _ hmem rfl
    obtain ⟨m, hns, hlk⟩ := I2.loc
    obtain ⟨u, ru, lk⟩ := hlk i cap (.int n) hN hn (.inr (.inl hkc))
    obtain ⟨tu, rfl⟩ := ru
    obtain ⟨cc, hcc, hcell'⟩ : ∃ cc, X.env.cells.lookup cap = some cc ∧ s2.heap.IsCell cc (some (.int n tu)) := by
      rcases lk with ⟨k1, _⟩ | ⟨_, c3, e3, z3⟩
      · have k1 : X.env.scope.names.lookup cap = some .local := k1
        rw [hkc] at k1
        cases k1
      · exact ⟨c3, e3, z3⟩
    have hclo : (cloFrom X.env.cells scope.names []).lookup cap = some cc := by
      obtain ⟨c2, h2⟩ := mem_lookup (cloFrom_has (cells := X.env.cells) (acc := []) hmem)
      rcases cloFrom_mem (PySem.mem_of_lookup h2) with z | ⟨h1, h3⟩
      · cases z
      · have e2 : c2 = cc := by rw [h3, hcc] <;> rfl
        rw [h2, e2]
    obtain ⟨⟨oc, vc, tc, hoc, hdc, hvc⟩, _, _⟩ := I2.hok c' _ hcO
    have each : PySem.W.EachIs (fun u (b : Int) => ∃ t, u = Value.int b t) its xs := Fw.each_of hlen fun j u b eu eb => by
      obtain ⟨u', eu', ru⟩ := rv.get (show (xs.map V.int)[j]? = some (.int b) by rw [List.getElem?_map, eb]; rfl)
      have : u' = u := by rw [eu] at eu'; exact (Option.some.inj eu').symm
      subst this
      exact ru
    have hL : xs.length ≤ sizeLine := by rw [List.length_map] at hz; exact hz
    refine PySem.W.sorted_key_data (b := false) (R := fun u (b : Int) => ∃ t, u = Value.int b t) (bs := xs) (fun x => PyData.int (g n x)) hl.isList each (PySem.W.AllAlike.of fun _ _ => by simp [PySem.W.alike]) (PySem.W.Sortable.others (enc := fun x => PyData.int (g n x)) fun _ => ⟨fun z => (nomatch z), fun _ z => (nomatch z)⟩) hL (fun x hx => ?_) (ksk_s1 _ _) (fun _ => ksk_l1 _ _) (fun _ => ksk_t1 _ _)
      (fun v x hv hx h tk kp => ?_) fun out c2 h' tk kp _ hD ho eo => ?_
    · have h1 := hr.un
      have : (PyData.int (g n x)).depth = 0 := by simp [PyData.depth]
      omega
    · obtain ⟨tv, rfl⟩ := hv
      refine lam1 (s := { s2 with heap := h, toks := tk }) hr.depth (kp _ _ hf) hk hco hgen ⟨c', oc, vc, tc, rfl, kp _ _ hoc, hdc, hvc⟩ (I2.nolimit.keeps kp) (hbind _ _ _ _ _ _) hcell hloc fun h₁ kp1 hns1 => ?_
      obtain ⟨ocell, hoc1, hoc2⟩ := hcell'
      exact hbody _ _ h₁ _ cc n x tv tu rfl hns1 (by simp [List.lookup]) hclo ⟨ocell, kp1 _ _ (kp _ _ hoc1), hoc2⟩ (hC x hx)
    · have vo : ∀ {ys : List Int} {out : List Value}, PySem.W.EachIs (fun u (b : Int) => ∃ t, u = Value.int b t) out ys → Vals (ys.map V.int) out := fun {ys out} e => by
        induction e with
        | nil => exact .nil
        | cons h t ih => exact .cons h ih
      have hlo : ((xs.mergeSort (PySem.W.dataLe false fun x => PyData.int (g n x))).map V.int).length ≤ sizeLine := by rw [List.length_map, List.length_mergeSort]; exact hL
      exact ⟨.ref _, upd H2 (s2.heap.objs.size + 1) (.lst ((xs.mergeSort (PySem.W.dataLe false fun x => PyData.int (g n x))).map V.int)), I2.laid (t' := tk) kp (Nat.le_succ _) ⟨hlo, _, c2, vo eo, hD⟩, rfl, by
        have := hq (s2.heap.objs.size + 1) c' more nC (by rw [hH2]; exact I2.hok.fresh (Nat.le_succ _))
        rw [hH2] at this
        exact this⟩
end LamK

/-! sorted(xs, key=lambda a: ..) in a law: the law's own empty table of code objects lives beside its script -/
namespace Fw
open PySem L2
/-- the script, and the address of the law's table, which is empty -/
structure SqT where
  s : Sq Int
  p : Addr
instance : Ob SqT where
  own K x v f W := Rp.rep K x.s v W.G ∧ f = [x.p] ∧ W.H x.p = some (.tbl #[]) ∧ W.G x.p = none
  keep := fun {K x v f W W'} ⟨r, e, h, g⟩ eg hg hh => by
    subst e
    exact ⟨Rp.mono eg r, rfl, by rw [hh x.p (List.mem_singleton.mpr rfl)]; exact h, hg x.p (List.mem_singleton.mpr rfl)⟩
  foot := fun {K x v f W} ⟨r, e, h, g⟩ a ha => by
    subst e
    rw [List.mem_singleton.mp ha]
    exact ⟨g, by rw [h]; simp⟩
section
variable {c : Cn} {W0 : Wd} {As : List Sl} {K : Frag}
theorem e_gh {s : Sq Int} {P : Addr} {pin : Option V} (i : Nat) (h : As[i]? = some (.ow pin (SqT.mk s P)) := by rfl) : Exp c W0 (tVar i) As (kFr c.K s) := fun σ W a W1 e Q q => by
  obtain ⟨v, f, hv, ⟨r, _⟩, _⟩ := a.varO h
  exact ⟨v, hv, q v W1 (Le.refl _) (Rp.mono e.g r)⟩
theorem At.tab {W W' : Wd} {σ : St} {x : SqT} {pin : Option V} {z : Nat} (a : At K W0 As σ W) (hz : As[z]? = some (.ow pin x)) (hg : Inc W.G W'.G) (hh : ∀ b u, b ≠ x.p → W.H b = some u → W'.H b = some u) (hn : ∀ b, W.H b ≠ none → W.G b = none → W'.G b = none) :
    At K W0 (As.set z (.fr x.s)) σ W' := by
  obtain ⟨l, le, F, h1, h2, h3⟩ := a
  have hl : z < σ.length := l ▸ (List.getElem?_eq_some_iff.mp hz).1
  obtain ⟨vz, ez, ⟨rz, fz, tz, gz⟩, _⟩ := h1 z _ _ hz (List.getElem?_eq_getElem hl)
  have w0P : W0.H x.p = none := (h3 z x.p (by rw [fz]; exact List.mem_singleton.mpr rfl)).2.2
  refine ⟨by simp [l], ⟨le.g.trans hg, fun b u e => ?_, fun b e1 e2 => ?_⟩, fun j => if j = z then [] else F j, fun j B o e1 e2 => ?_, fun i j b n hi hj => ?_, fun i b hb => ?_⟩
  · exact hh b u (fun q => by rw [q, w0P] at e; cases e) (le.h b u e)
  · exact hn b (fun q => e2 (le.h.nope q)) (le.o b e1 e2)
  · by_cases q : z = j
    · subst q
      rw [get_set_eq e1]
      have eo : σ[z] = o := by rw [List.getElem?_eq_getElem hl] at e2; exact Option.some.inj e2
      exact ⟨vz, by rw [← eo]; exact ez, Rp.mono hg rz⟩
    · rw [get_set_ne q] at e1
      dsimp only
      rw [if_neg (Ne.symm q)]
      have h1' := h1 j B o e1 e2
      cases B with
      | un => trivial
      | fr y => obtain ⟨v, e, r⟩ := h1'; exact ⟨v, e, Rp.mono hg r⟩
      | ow pn y =>
        obtain ⟨v, e, r, p⟩ := h1'
        refine ⟨v, e, Ob.keep r hg (fun b hb => hn b (h3 j b hb).2.1 (h3 j b hb).1) (fun b hb => ?_), p⟩
        have nb : b ≠ x.p := fun qb => h2 j z b (Ne.symm q) hb (by rw [fz, qb]; exact List.mem_singleton.mpr rfl)
        cases hq : W.H b with
        | none => exact absurd hq (h3 j b hb).2.1
        | some u => exact hh b u nb hq
  · dsimp only at hi hj
    split at hi
    · cases hi
    · split at hj
      · cases hj
      · exact h2 i j b n hi hj
  · dsimp only at hb
    split at hb
    · cases hb
    · rename_i ni
      have nb : b ≠ x.p := fun qb => h2 i z b ni hb (by rw [fz, qb]; exact List.mem_singleton.mpr rfl)
      obtain ⟨g1, g2, g3⟩ := h3 i b hb
      refine ⟨hn b g2 g1, ?_, g3⟩
      cases hq : W.H b with
      | none => exact absurd hq g2
      | some u => rw [hh b u nb hq]; exact fun z => by cases z
/-- sorted by keys that are whole numbers -/
def R.sortK (xs : List Int) (ok : Int → Bool) (f : Int → Int) : R (List Int) := if xs.all ok then .ok (xs.mergeSort (PySem.W.dataLe false fun x => PyData.int (f x))) else .no
theorem al_intsK {K : Frag} {G : Hp} {xs : List Int} {vs : List V} (h : Al (fun x v => Rp.rep K x v G) xs vs) : vs = xs.map V.int := by
  refine List.ext_getElem? fun i => ?_
  rw [List.getElem?_map]
  cases e : xs[i]? with
  | none => rw [List.getElem?_eq_none (by rw [← h.1]; exact List.getElem?_eq_none_iff.mp e)]; rfl
  | some x =>
    have hi : i < vs.length := by rw [← h.1]; exact (List.getElem?_eq_some_iff.mp e).1
    have hv := List.getElem?_eq_getElem hi
    have r : vs[i] = V.int x := h.2 i x _ e hv
    rw [hv, r]
    rfl
variable {J S T ρ : Type} {X : WX} {kr : ρ → Kd} {Ls : List Sl} {Js : J → List Sl} {B : Bd} {Bs : S → List Sl}
theorem d_sortL {te : TE} {u : TS} {xs : List Int} {n : Int} {k : List Int → Out S J ρ} {sq : Sq Int} {P : Addr} {pin : Option V} {q : Str} {C : Int → Int → Prop} {g : Int → Int → Int} {ok : Int → Bool} (z i j : Nat) (hz : As[z]? = some (.ow pin (SqT.mk sq P))) (hi : As[i]? = some (.fr n)) (hte : Exp c B.W0 te As (kSh c.K xs))
    (hok : ∀ x, ok x = true → C n x) (hk : ∀ y, Den c X kr Ls Js B u ((As.set z (.fr sq)).set j (.fr y)) (k y) Bs) :
    Den c X kr Ls Js B (tSeq (tAsg (LamK.tSL c.K te P q i C g) (gName j)) u) As ((R.sortK xs ok (g n)).to k) Bs := fun D σ W a f => by
  unfold R.sortK at f
  cases hall : xs.all ok with
  | false =>
    rw [hall] at f
    exact False.elim f
  | true =>
    rw [hall] at f
    refine hte σ W a W (Le.refl _) _ fun v W2 e ⟨p, vs, ev, hs, al, hl⟩ => ?_
    have a2 := a.mono e
    obtain ⟨vi, hvi, ri⟩ := a2.var hi
    obtain rfl : vi = V.int n := ri
    obtain ⟨vz, fz, _, ⟨_, efz, hP, gP⟩, _, _⟩ := a2.varO hz
    have evs := al_intsK al
    subst evs ev
    refine ⟨p, xs, n, rfl, hs, hvi, fun y hy => hok y (List.all_eq_true.mp hall y hy), hP, fun a' c' more nC nA => ?_⟩
    have nPc : P ≠ c' := fun q => by rw [q, nC] at hP; cases hP
    have nac : a' ≠ c' := fun q => by rw [q, upd_same] at nA; cases nA
    have naP : a' ≠ P := fun q => by rw [q, upd_ne nPc, upd_same] at nA; cases nA
    have naW : W2.H a' = none := by rw [upd_ne nac, upd_ne naP] at nA; exact nA
    let W3 : Wd := ⟨upd W2.G a' (.lst ((xs.mergeSort (PySem.W.dataLe false fun x => PyData.int (g n x))).map V.int)), upd (upd (upd W2.H P (.tbl more)) c' (LamX.CodeO c' q)) a' (.lst ((xs.mergeSort (PySem.W.dataLe false fun x => PyData.int (g n x))).map V.int)), fun b o eb => by
        by_cases qa : b = a'
        · rw [qa, upd_same] at eb ⊢; exact eb
        · rw [upd_ne qa] at eb ⊢
          have hb := W2.sub b o eb
          rw [upd_ne (fun qc => by rw [qc, nC] at hb; cases hb), upd_ne (fun qp => by rw [qp, gP] at eb; cases eb)]
          exact hb, fun b o eb hi => by
        by_cases qa : b = a'
        · rw [qa, upd_same] at eb ⊢; exact eb
        · rw [upd_ne qa] at eb ⊢
          by_cases qc : b = c'
          · rw [qc, upd_same] at eb
            cases eb
            cases hi
          · rw [upd_ne qc] at eb
            by_cases qp : b = P
            · rw [qp, upd_same] at eb
              cases eb
              cases hi
            · rw [upd_ne qp] at eb
              exact W2.im b o eb hi⟩
    have a3 : At c.K B.W0 (As.set z (.fr sq)) σ W3 := a2.tab hz (Inc.new (W2.sub.nope naW)) (fun b u nb eb => by
      show upd (upd (upd W2.H P (.tbl more)) c' (LamX.CodeO c' q)) a' _ b = some u
      rw [upd_ne (ne_of_none eb naW), upd_ne (ne_of_none eb nC), upd_ne nb]
      exact eb) (fun b nb gb => by
      show upd W2.G a' _ b = none
      rw [upd_ne fun q => nb (by rw [q]; exact naW)]
      exact gb)
    refine hk _ D _ W3 (a3.setF (x := xs.mergeSort (PySem.W.dataLe false fun x => PyData.int (g n x))) ⟨a', (xs.mergeSort (PySem.W.dataLe false fun x => PyData.int (g n x))).map V.int, rfl, ?_, ⟨by rw [List.length_map], fun i y v e1 e2 => ?_⟩, by rw [List.length_mergeSort]; exact hl⟩) f
    · show upd W2.G a' _ a' = _
      rw [upd_same]
    · rw [List.getElem?_map, e1] at e2
      exact (Option.some.inj e2).symm
/-- the law's promise: its table is empty -/
def spTab (c : Cn) (P : Addr) (f : Sq Int → R Bool) : Sp := fun vs H Q E => ∃ (W : Wd) (x : Sq Int) (v : V), W.H = H ∧ vs = [v] ∧ Rp.rep c.K x v W.G ∧ W.H P = some (.tbl #[]) ∧ W.G P = none ∧ f x = .ok true ∧ ∀ H', Q (.bl true) H'
theorem spTab_len {P : Addr} {f : Sq Int → R Bool} (vs : List V) (H : Hp) (Q : VK) (E : XK) (h : spTab c P f vs H Q E) : vs.length = 1 := by
  obtain ⟨_, _, _, _, e, _⟩ := h
  rw [e]
  rfl
def Wd.drop (W : Wd) (P : Addr) (g : W.G P = none) : Wd := ⟨W.G, fun b => if b = P then none else W.H b, fun b o e => by
  show (if b = P then none else W.H b) = some o
  rw [if_neg fun q => by rw [q, g] at e; cases e]
  exact W.sub b o e, fun b o e i => by
  have e : (if b = P then none else W.H b) = some o := e
  split at e
  · cases e
  · exact W.im b o e i⟩
theorem Le.drop {W : Wd} {P : Addr} {g : W.G P = none} : Le (W.drop P g) W := ⟨Inc.refl _, fun b o e => by
  have e : (if b = P then none else W.H b) = some o := e
  split at e
  · cases e
  · exact e, fun b e _ => e⟩
theorem fn_tab {P : Addr} {f : Sq Int → R Bool} {m : Sq Int → Out Unit Unit Bool} {N : List Str} {n : Nat} {t : TS} {vs : List V} {H : Hp} {Q : VK} {E : XK} {Bs : Unit → List Sl} (h : spTab c P f vs H Q E) (hN : N.length = 1 + n) (hm : ∀ x, f x = (m x).run)
    (hd : ∀ (W : Wd) x v, Den c (x0 E) (fun b : Bool => kFr c.K b) (uns N.length) (fun _ : Unit => []) (bd0 W) t (.ow (some v) (SqT.mk x P) :: uns n) (m x) Bs) : t { nx := fun _ H' => Q .non H', rt := Q } (start N vs) H := by
  obtain ⟨W, x, v, eh, ev, r, hP, gP, k, q⟩ := h
  subst eh ev
  have a0 : At c.K (W.drop P gP) (.ow (some v) (SqT.mk x P) :: uns n) (start N [v]) W := by
    have e : start N [v] = some v :: List.replicate n none := by
      unfold L2.start
      have h : N.length - [v].length = n := by rw [hN, List.length_singleton]; omega
      rw [h]
      rfl
    rw [e]
    exact ((at_uns n).re Le.drop).consO (noOw_uns n) (fp := [P]) (y := SqT.mk x P) ⟨r, rfl, hP, gP⟩ fun a ha => by
      rw [List.mem_singleton.mp ha]
      exact if_pos rfl
  refine hd (W.drop P gP) x v _ _ W a0 ?_
  rw [hm x] at k
  revert k
  generalize m x = o
  intro k
  cases o with
  | rt b =>
    intro v' W' l p
    have p : v' = V.bl b := p
    have e := R.ok.inj k
    subst p e
    exact q _
  | nx s => cases k
  | bk j => cases k
  | ct j => cases k
  | ex e => cases k
  | no => cases k
end
end Fw

/-! the end of a law that holds a lambda -/
namespace Fw
open PySem L2 PyProof.Rows PySem.Spec
theorem law_endT {K : Frag} {M : Str → Value} {f : Sq Int → R Bool} {P : Addr} (H : ∀ ns : List Int, ns.length ≤ 63 → f ⟨ns⟩ = .ok true) (Hh : Hp) (a : Addr) (ns : List Int) (hl : ns.length ≤ 63) (hP : Hh P = some (.tbl #[])) (hS : SqL K Hh a (ns.map V.int)) :
    spTab ⟨K, M⟩ P f [.ref a] Hh (fun v _ => v = .bl true) fun _ _ _ => False := by
  have hG : ∀ {b : Addr} {u : HO}, Hh b = some u → (∀ ps, u ≠ .tbl ps) → (fun b => if b = P then none else Hh b : Hp) b = some u := fun {b u} e n => by
    show (if b = P then none else Hh b) = some u
    rw [if_neg fun q => by rw [q, hP] at e; exact n #[] (Option.some.inj e).symm]
    exact e
  refine ⟨⟨fun b => if b = P then none else Hh b, Hh, fun b o e => ?_, fun b u e i => hG e fun ps z => by rw [z] at i; cases i⟩, ⟨ns⟩, .ref a, rfl, rfl, ⟨a, ns.map V.int, rfl, ?_, ⟨by simp, fun i x v h1 h2 => ?_⟩, Nat.le_trans hl (by decide)⟩, hP, if_pos rfl, H ns hl, fun H' => rfl⟩
  · have e : (if b = P then none else Hh b) = some o := e
    split at e
    · cases e
    · exact e
  · rcases hS with (h | ⟨o, h⟩) | h
    · exact .inl (.inl (hG h fun ps z => by cases z))
    · exact .inl (.inr ⟨o, hG h fun ps z => by cases z⟩)
    · exact .inr h
  · rw [List.getElem?_map] at h2
    have h1' : ns[i]? = some x := h1
    rw [h1'] at h2
    exact (Option.some.inj h2).symm
theorem codeHd_of {K : Frag} {h : Heap} {c P : Addr} {dd : Option Addr} {vs : Array Value} {sl : Array (Option Value)} {file : Str} {tf tg tt : Tok} {flags text : Int} {inF : Bool} (X : K.In h) (kc : K.lookup c = some ⟨.type "code", dd, .fields vs, sl⟩) (v11 : vs[11]? = some (.ref P)) (v18 : vs.getD 18 .none = .str file tf) (v7 : vs.getD 7 .none = .int flags tg) (v9 : vs.getD 9 .none = .bool inF) (v10 : vs.getD 10 .none = .int text tt) (ne : c ≠ P) : PySem.W.CodeHd h c P :=
  ⟨_, vs, file, tf, flags, tg, inF, text, tt, X _ _ kc, rfl, rfl, v11, by rw [Array.getD_eq_getD_getElem?, v11]; rfl, v18, v7, v9, v10, ne⟩
theorem walk_lawT {l : PySem.W.OpenLaw} {q : Program} {loose : List Str} {XP : (Str → Option Value) → Heap → Prop} {YP : World → Heap → Prop} {d : DefRec} {K : Params → PySem.W.Frag} {k : Nat} {x : Str}
    (hn : l.most = some 63) (hdf : d.params.defaults = []) (hr : Room k callerA) (hrec : ((recsOf q).any fun e => e.name == d.name) = true) (hY : ∀ (w : World) (h : Heap), YP w h → (K w.params).In h)
    (F : ∀ (w : World) (mg : Str → Option Value) (fa : Addr) (h : Heap), YP w h → (K w.params).In h → h.Ns mainGlobals mg → mg d.name = some (.ref fa) → LamX.OwnTab (K w.params) fa h → LamX.LawAtS l w (K w.params) (L2.CX l.prog w) k 63 x mg fa h) :
    PySem.W.WalkO q loose XP YP l.row.toRowW d [] (fun f vs => PySem.call f vs) :=
  LamX.walk_ofOwn (CX := fun w => L2.CX l.prog w) hn (by decide) hdf hr hrec hY F fun _ _ _ _ _ h => cx_never h
end Fw

namespace Mir
open PySem L2 Fw
noncomputable section
@[irreducible] def m_cell_at_b (v_script:(Sq Int)) (v_k:Int):Out Unit Unit Int:=
  (if (decide (v_k < (v_script.l.length:Int))) then Out.abs (R.to ((R.ok v_script.l).bind fun t1=>(R.ok v_k).bind fun t2=>(R.ix t1 t2)) .rt) else
  (.rt (0:Int)))
@[irreducible] def m_cell_at (v_script:(Sq Int)) (v_k:Int):R Int:=(m_cell_at_b v_script v_k).run
@[irreducible] def m_mixed_b (v_cell:Int) (v_k:Int):Out Unit Unit Int:=
  (R.to ((((((R.ok v_cell).bind fun t1=>(R.ok ((10:Int) ^ (Int.toNat (30:Int)))).bind fun t2=>(R.mod t1 t2)).bind fun t5=>((R.ok v_k).bind fun t3=>(R.ok v_k).bind fun t4=>(R.mul t3 t4)).bind fun t6=>(R.ok (t5 + t6))).bind fun t7=>(R.ok (1:Int)).bind fun t8=>(R.ok (t7 + t8))).bind fun t9=>(R.ok (314159265358979323846264338327:Int)).bind fun t10=>(R.mulW t9 t10)).bind fun t11=>(R.ok (((10:Int) ^ (Int.toNat (30:Int))) + (57:Int))).bind fun t12=>(R.mod t11 t12)) .rt)
@[irreducible] def m_mixed (v_cell:Int) (v_k:Int):R Int:=(m_mixed_b v_cell v_k).run
@[irreducible] def m_nested_b (v_script:(Sq Int)) (v_cells:Int):Out Unit Unit (List Int):=
  (R.to (((R.ok (1:Int)).bind fun t1=>(R.ok v_cells).bind fun t2=>(R.shl t1 t2)).bind fun t3=>(R.ok (1:Int)).bind fun t4=>(R.ok (t3 - t4))) fun (v_state_5:Int)=>
  (lt ([]:List Int) fun (v_nested_here_6:(List Int))=>
  (R.to ((R.ok (if (if ((v_script.l.length:Int) - (2:Int)) > (1:Int) then ((v_script.l.length:Int) - (2:Int)) else (1:Int)) < (40:Int) then (if ((v_script.l.length:Int) - (2:Int)) > (1:Int) then ((v_script.l.length:Int) - (2:Int)) else (1:Int)) else (40:Int))).bind fun t7=>R.rng 0 t7) fun l53=>Out.bind (forL l53 (v_state_5,v_nested_here_6) (fun (s8:(Int×(List Int))) (x9:Int)=>
   (R.to (((m_cell_at v_script ((2:Int) + x9)).bind fun t12=>((R.ok ((300:Int) + x9)).bind fun t10=>(R.ok ()).bind fun t11=>(R.ok (t10,t11))).bind fun t13=>(R.ok (t12,t13))).bind fun z14=>m_mixed z14.1 z14.2.1) fun (v_number_15:Int)=>
  (R.to (R.ok s8.1) fun t51=>R.to (R.app s8.2 t51) fun (v_nested_here_16:(List Int))=>
  (R.to (((R.ok v_cells).bind fun t17=>R.rng 0 t17).bind fun l24=>R.lc l24 (fun (x18:Int)=>((((R.ok s8.1).bind fun t19=>(R.ok x18).bind fun t20=>(R.shr t19 t20)).bind fun t21=>(R.ok (t21 % (2:Int)))).bind fun t22=>(R.ok (1:Int)).bind fun t23=>(R.ok (decide (t22 = t23))))) (fun (x18:Int)=>(R.ok x18))) fun (v_spots_25:(List Int))=>
  (if (decide (v_spots_25 = ([]:List Int))) then Out.abs (.rt v_nested_here_16) else
  (R.to ((R.ok ((1:Int) + ((v_number_15 / (100:Int)) % (3:Int)))).bind fun t26=>R.rng 0 t26) fun l49=>Out.bind (forL l49 s8.1 (fun (s27:Int) (x28:Int)=>
   (R.to ((R.ok v_spots_25).bind fun t33=>(((R.ok v_number_15).bind fun t29=>(R.ok ((7:Int) + x28)).bind fun t30=>(R.fdiv t29 t30)).bind fun t31=>(R.ok (v_spots_25.length:Int)).bind fun t32=>(R.mod t31 t32)).bind fun t34=>(R.ix t33 t34)) fun (v_at_35:Int)=>
  (R.to ((((R.ok s27).bind fun t36=>(R.ok v_at_35).bind fun t37=>(R.shr t36 t37)).bind fun t38=>(R.ok (t38 % (2:Int)))).bind fun t39=>(R.ok (1:Int)).bind fun t40=>(R.ok (decide (t39 = t40)))) fun b47=>Out.bind (if b47 then (R.to ((R.ok s27).bind fun t44=>((R.ok (1:Int)).bind fun t42=>(R.ok v_at_35).bind fun t43=>(R.shl t42 t43)).bind fun t45=>(R.ok (t44 - t45))) fun (v_state_46:Int)=>
  (.nx v_state_46)) else (.nx s27)) fun (s41:Int)=>
  (.nx s41))))) fun (s48:Int)=>
  (.nx (s48,v_nested_here_16))))))))) fun (s52:(Int×(List Int)))=>
  (.rt s52.2))))
@[irreducible] def m_nested (v_script:(Sq Int)) (v_cells:Int):R (List Int):=(m_nested_b v_script v_cells).run
@[irreducible] def m_within_b (v_one:Int) (v_other:Int):Out Unit Unit Bool:=
  (.rt (decide ((Builtin.bitAnd v_one v_other) = v_one)))
@[irreducible] def m_within (v_one:Int) (v_other:Int):R Bool:=(m_within_b v_one v_other).run
@[irreducible] def m_later_ones_b (v_states:(List Int)):Out Unit Unit (List (List Int)):=
  (lt ([]:List (List Int)) fun (v_told_1:(List (List Int)))=>
  (R.to ((R.ok (v_states.length:Int)).bind fun t2=>R.rng 0 t2) fun l21=>Out.bind (forL l21 v_told_1 (fun (s3:(List (List Int))) (x4:Int)=>
   (R.to (((R.ok (x4 + (1:Int))).bind fun t5=>(R.ok (v_states.length:Int)).bind fun t6=>R.rng t5 t6).bind fun l17=>R.lc l17 (fun (x7:Int)=>((((R.ok v_states).bind fun t8=>(R.ok x7).bind fun t9=>(R.ix t8 t9)).bind fun t14=>(((R.ok v_states).bind fun t10=>(R.ok x4).bind fun t11=>(R.ix t10 t11)).bind fun t12=>(R.ok ()).bind fun t13=>(R.ok (t12,t13))).bind fun t15=>(R.ok (t14,t15))).bind fun z16=>m_within z16.1 z16.2.1)) (fun (x7:Int)=>(R.ok x7))) fun t19=>R.to (R.app s3 t19) fun (v_told_18:(List (List Int)))=>
  (.nx v_told_18)))) fun (s20:(List (List Int)))=>
  (.rt s20)))
@[irreducible] def m_later_ones (v_states:(List Int)):R (List (List Int)):=(m_later_ones_b v_states).run
@[irreducible] def m_find_next_b (rec_:Int→(List (List Int))→(List (Option Int))→(Dk Int Bool)→R (Bool×((List (Option Int))×(Dk Int Bool)))) (v_one:Int) (v_later:(List (List Int))) (v_ahead:(List (Option Int))) (v_seen:(Dk Int Bool)):Out Empty Unit (Bool×((List (Option Int))×(Dk Int Bool))):=
  (R.to ((R.ok v_later).bind fun t1=>(R.ok v_one).bind fun t2=>(R.ix t1 t2)) fun l30=>Out.bind (forL l30 (v_ahead,v_seen) (fun (s3:((List (Option Int))×(Dk Int Bool))) (x4:Int)=>
   (Out.bind (if (!(dval s3.2.l x4).isSome) then (R.to (R.ok true) fun t26=>R.to (R.ok x4) fun t27=>R.to (R.dput s3.2 t27 t26) fun (v_seen_6:(Dk Int Bool))=>
  (R.to (((R.ok s3.1).bind fun t7=>(R.ok x4).bind fun t8=>(R.ix t7 t8)).bind fun t9=>(R.ok ()).bind fun t10=>(R.ok t9.isNone)) fun b24=>R.to (if b24 then R.ok (true,(s3.1,v_seen_6)) else ((((R.ok s3.1).bind fun t11=>(R.ok x4).bind fun t12=>(R.ix t11 t12)).bind R.opt).bind fun t15=>((R.ok v_later).bind fun t13=>(R.ok ()).bind fun t14=>(R.ok (t13,t14))).bind fun t16=>(R.ok (t15,t16))).bind fun a25=>R.np (rec_ a25.1 a25.2.1 s3.1 v_seen_6)) fun r19=>if r19.1 then Out.abs (R.to (R.ok (some v_one)) fun t22=>R.to (R.ok x4) fun t23=>R.to (R.set r19.2.1 t23 t22) fun (v_ahead_20:(List (Option Int)))=>
  (R.to (R.ok true) fun r21=>.rt (r21,(v_ahead_20,r19.2.2)))) else
  (.nx (r19.2.1,r19.2.2)))) else (.nx (s3.1,s3.2))) fun (s5:((List (Option Int))×(Dk Int Bool)))=>
  (.nx (s5.1,s5.2))))) fun (s28:((List (Option Int))×(Dk Int Bool)))=>
  (R.to (R.ok false) fun r29=>.rt (r29,(s28.1,s28.2))))
def m_find_next:Nat→Int→(List (List Int))→(List (Option Int))→(Dk Int Bool)→R (Bool×((List (Option Int))×(Dk Int Bool)))
  | 0,_,_,_,_=>.no
  | n_ + 1,v_one,v_later,v_ahead,v_seen=>ioR (m_find_next_b (m_find_next n_) v_one v_later v_ahead v_seen)
@[irreducible] def m_chain_from_b (v_first:Int) (v_nexts:(Dk Int Int)):Out Unit Unit (List Int):=
  (lt [v_first] fun (v_chain_1:(List Int))=>
  (Out.bind (whileF 1000 v_chain_1 (fun (s2:(List Int))=>(((R.ok s2).bind fun t3=>(R.ok (-(1:Int))).bind fun t4=>(R.ix t3 t4)).bind fun t5=>(R.ok v_nexts).bind fun t6=>(R.ok ((dval t6.l t5).isSome)))) (fun (s2:(List Int))=>
   (R.to ((R.ok v_nexts).bind fun t9=>((R.ok s2).bind fun t7=>(R.ok (-(1:Int))).bind fun t8=>(R.ix t7 t8)).bind fun t10=>(R.dget t9 t10)) fun t12=>R.to (R.app s2 t12) fun (v_chain_11:(List Int))=>
  (.nx v_chain_11)))) fun (s13:(List Int))=>
  (.rt s13)))
@[irreducible] def m_chain_from (v_first:Int) (v_nexts:(Dk Int Int)):R (List Int):=(m_chain_from_b v_first v_nexts).run
@[irreducible] def m_reached_from_b (v_free:(List Int)) (v_later:(List (List Int))) (v_ahead:(List (Option Int))):Out Unit Unit ((Dk Int Bool)×(Dk Int Bool)):=
  (lt (Dk.mk ([]:List (Int×Bool))) fun (v_firsts_1:(Dk Int Bool))=>
  (lt (Dk.mk ([]:List (Int×Bool))) fun (v_passed_2:(Dk Int Bool))=>
  (lt v_free fun (v_todo_3:(List Int))=>
  (Out.bind (whileF 1000 (v_firsts_1,v_passed_2,v_todo_3) (fun (s4:((Dk Int Bool)×(Dk Int Bool)×(List Int)))=>(R.ok (!decide (s4.2.2 = ([]:List Int))))) (fun (s4:((Dk Int Bool)×(Dk Int Bool)×(List Int)))=>
   (R.to (R.pop s4.2.2) fun r7=>(fun (v_one_5:Int) (v_todo_6:(List Int))=>
  (R.to (R.ok true) fun t30=>R.to (R.ok v_one_5) fun t31=>R.to (R.dput s4.1 t31 t30) fun (v_firsts_8:(Dk Int Bool))=>
  (R.to ((R.ok v_later).bind fun t9=>(R.ok v_one_5).bind fun t10=>(R.ix t9 t10)) fun l28=>Out.bind (forL l28 (s4.2.1,v_todo_6) (fun (s11:((Dk Int Bool)×(List Int))) (x12:Int)=>
   (Out.bind (if (!(dval s11.1.l x12).isSome) then (R.to (R.ok true) fun t25=>R.to (R.ok x12) fun t26=>R.to (R.dput s11.1 t26 t25) fun (v_passed_14:(Dk Int Bool))=>
  (R.to ((((R.ok v_ahead).bind fun t15=>(R.ok x12).bind fun t16=>(R.ix t15 t16)).bind R.opt).bind fun t17=>(R.ok v_firsts_8).bind fun t18=>(R.ok (!(dval t18.l t17).isSome))) fun b24=>Out.bind (if b24 then (R.to (((R.ok v_ahead).bind fun t20=>(R.ok x12).bind fun t21=>(R.ix t20 t21)).bind R.opt) fun t23=>R.to (R.app s11.2 t23) fun (v_todo_22:(List Int))=>
  (.nx v_todo_22)) else (.nx s11.2)) fun (s19:(List Int))=>
  (.nx (v_passed_14,s19)))) else (.nx (s11.1,s11.2))) fun (s13:((Dk Int Bool)×(List Int)))=>
  (.nx (s13.1,s13.2))))) fun (s27:((Dk Int Bool)×(List Int)))=>
  (.nx (v_firsts_8,s27.1,s27.2))))) r7.1 r7.2))) fun (s32:((Dk Int Bool)×(Dk Int Bool)×(List Int)))=>
  (.rt (s32.1,s32.2.1))))))
@[irreducible] def m_reached_from (v_free:(List Int)) (v_later:(List (List Int))) (v_ahead:(List (Option Int))):R ((Dk Int Bool)×(Dk Int Bool)):=(m_reached_from_b v_free v_later v_ahead).run
@[irreducible] def m_fewest_blocks_b (v_states:(List Int)):Out Unit Unit ((List (List Int))×(List Int)):=
  (R.to (m_later_ones v_states) fun (v_later_1:(List (List Int)))=>
  (R.to ((R.ok [(none:(Option Int))]).bind fun t2=>(R.ok (v_states.length:Int)).bind fun t3=>(R.rep t2 t3)) fun (v_ahead_4:(List (Option Int)))=>
  (R.to ((R.ok (v_states.length:Int)).bind fun t5=>R.rng 0 t5) fun l62=>Out.bind (forL l62 v_ahead_4 (fun (s6:(List (Option Int))) (x7:Int)=>
   (R.to (((R.ok (some x7)).bind R.opt).bind fun t10=>((R.ok v_later_1).bind fun t8=>(R.ok ()).bind fun t9=>(R.ok (t8,t9))).bind fun t11=>(R.ok (t10,t11))) fun z12=>R.to (R.np ((m_find_next 70) z12.1 z12.2.1 s6 (Dk.mk ([]:List (Int×Bool))))) fun r13=>(fun (v_ahead_14:(List (Option Int)))=>
  (.nx v_ahead_14)) r13.2.1))) fun (s15:(List (Option Int)))=>
  (lt (Dk.mk ([]:List (Int×Int))) fun (v_nexts_16:(Dk Int Int))=>
  (R.to ((R.ok s15).bind fun t17=>(R.ok (enum t17))) fun l60=>Out.bind (forL l60 v_nexts_16 (fun (s18:(Dk Int Int)) (x19:(Int×(Option Int)))=>
   (Out.bind (if x19.2.isSome then (R.to (R.ok x19.1) fun t22=>R.to ((R.ok x19.2).bind R.opt) fun t23=>R.to (R.dput s18 t23 t22) fun (v_nexts_21:(Dk Int Int))=>
  (.nx v_nexts_21)) else (.nx s18)) fun (s20:(Dk Int Int))=>
  (.nx s20)))) fun (s24:(Dk Int Int))=>
  (R.to (((R.ok (v_states.length:Int)).bind fun t31=>R.rng 0 t31).bind fun l37=>R.lc l37 (fun (x32:Int)=>(((R.ok s15).bind fun t33=>(R.ok x32).bind fun t34=>(R.ix t33 t34)).bind fun t35=>(R.ok ()).bind fun t36=>(R.ok t35.isNone))) (fun (x32:Int)=>(m_chain_from x32 s24))) fun (v_chains_38:(List (List Int)))=>
  (R.to2 (((((R.ok (v_states.length:Int)).bind fun t39=>R.rng 0 t39).bind fun l41=>R.lcT l41 (fun (x40:Int)=>(!(dval s24.l x40).isSome)) (fun (x40:Int)=>x40)).bind fun t46=>((R.ok v_later_1).bind fun t44=>((R.ok s15).bind fun t42=>(R.ok ()).bind fun t43=>(R.ok (t42,t43))).bind fun t45=>(R.ok (t44,t45))).bind fun t47=>(R.ok (t46,t47))).bind fun z48=>m_reached_from z48.1 z48.2.1 z48.2.2.1) fun (v_firsts_49:(Dk Int Bool)) (v_passed_50:(Dk Int Bool))=>
  (R.to (((R.ok v_chains_38).bind fun t56=>((((R.ok (v_states.length:Int)).bind fun t51=>R.rng 0 t51).bind fun l53=>R.lcT l53 (fun (x52:Int)=>(((dval v_firsts_49.l x52).isSome) && (!(dval v_passed_50.l x52).isSome))) (fun (x52:Int)=>x52)).bind fun t54=>(R.ok ()).bind fun t55=>(R.ok (t54,t55))).bind fun t57=>(R.ok (t56,t57))).bind fun z58=>(R.ok (z58.1,z58.2.1))) .rt))))))))
@[irreducible] def m_fewest_blocks (v_states:(List Int)):R ((List (List Int))×(List Int)):=(m_fewest_blocks_b v_states).run
@[irreducible] def m_growing_b (v_states:(List Int)):Out Unit Unit Int:=
  (lt ([]:List Int) fun (v_best_1:(List Int))=>
  (R.to ((R.ok (v_states.length:Int)).bind fun t2=>R.rng 0 t2) fun l39=>Out.bind (forL l39 v_best_1 (fun (s3:(List Int)) (x4:Int)=>
   (lt (1:Int) fun (v_here_5:Int)=>
  (R.to ((R.ok x4).bind fun t6=>R.rng 0 t6) fun l33=>Out.bind (forL l33 v_here_5 (fun (s7:Int) (x8:Int)=>
   (R.to (R.and ((((R.ok v_states).bind fun t9=>(R.ok x8).bind fun t10=>(R.ix t9 t10)).bind fun t13=>((R.ok v_states).bind fun t11=>(R.ok x4).bind fun t12=>(R.ix t11 t12)).bind fun t14=>(R.ok (Builtin.bitOr t13 t14))).bind fun t17=>((R.ok v_states).bind fun t15=>(R.ok x8).bind fun t16=>(R.ix t15 t16)).bind fun t18=>(R.ok (!decide (t17 = t18)))) (((R.ok s3).bind fun t19=>(R.ok x8).bind fun t20=>(R.ix t19 t20)).bind fun t21=>(R.ok s7).bind fun t22=>(R.ok (decide (t22 ≤ t21))))) fun b29=>Out.bind (if b29 then (R.to (((R.ok s3).bind fun t24=>(R.ok x8).bind fun t25=>(R.ix t24 t25)).bind fun t26=>(R.ok (1:Int)).bind fun t27=>(R.ok (t26 + t27))) fun (v_here_28:Int)=>
  (.nx v_here_28)) else (.nx s7)) fun (s23:Int)=>
  (.nx s23)))) fun (s30:Int)=>
  (R.to (R.ok s30) fun t32=>R.to (R.app s3 t32) fun (v_best_31:(List Int))=>
  (.nx v_best_31)))))) fun (s35:(List Int))=>
  (R.to (((R.ok s35).bind fun t36=>(R.ok ()).bind fun t37=>(R.ok (t36,t37))).bind fun z38=>(R.maxL z38.1)) .rt)))
@[irreducible] def m_growing (v_states:(List Int)):R Int:=(m_growing_b v_states).run
@[irreducible] def m_law_b (v_script:(Sq Int)):Out Unit Unit Bool:=
  (R.to (((((R.ok (1:Int)).bind fun t3=>(((m_cell_at v_script (0:Int)).bind fun t1=>(R.ok (t1 / (8:Int)))).bind fun t2=>(R.ok (t2 % (9:Int)))).bind fun t4=>(R.ok (t3 + t4))).bind fun t11=>((R.ok (576:Int)).bind fun t9=>((R.ok (24:Int)).bind fun t7=>((R.ok (40:Int)).bind fun t5=>(R.ok ()).bind fun t6=>(R.ok (t5,t6))).bind fun t8=>(R.ok (t7,t8))).bind fun t10=>(R.ok (t9,t10))).bind fun t12=>(R.ok (t11,t12))).bind fun z13=>(R.ok [z13.1,z13.2.1,z13.2.2.1,z13.2.2.2.1])).bind fun t15=>((m_cell_at v_script (0:Int)).bind fun t14=>(R.ok (t14 % (4:Int)))).bind fun t16=>(R.ix t15 t16)) fun (v_cells_17:Int)=>
  (R.to (m_nested v_script v_cells_17) fun (v_nested_here_18:(List Int))=>
  (R.to (((m_cell_at v_script (1:Int)).bind fun t21=>((R.ok (7:Int)).bind fun t19=>(R.ok ()).bind fun t20=>(R.ok (t19,t20))).bind fun t22=>(R.ok (t21,t22))).bind fun z23=>m_mixed z23.1 z23.2.1) fun (v_number_24:Int)=>
  (Out.bind (if (decide ((v_number_24 % (3:Int)) = (0:Int))) then (R.to ((R.ok (v_number_24 / (10:Int))).bind fun t57=>(R.ok (v_nested_here_18.length:Int)).bind fun t58=>(R.mod t57 t58)) fun t64=>R.to ((R.ok v_nested_here_18).bind fun t61=>((R.ok (v_number_24 / (10:Int))).bind fun t59=>(R.ok (v_nested_here_18.length:Int)).bind fun t60=>(R.mod t59 t60)).bind fun t62=>(R.ix t61 t62)) fun t65=>R.to (R.ins v_nested_here_18 t64 t65) fun (v_nested_here_63:(List Int))=>
  (.nx v_nested_here_63)) else (.nx v_nested_here_18)) fun (s25:(List Int))=>
  (R.to2 (m_fewest_blocks s25) fun (v_chains_26:(List (List Int))) (v_apart_27:(List Int))=>
  (R.to (R.or ((R.ok v_chains_26).bind fun t32=>((((R.ok (s25.length:Int)).bind fun t28=>R.rng 0 t28).bind fun t29=>(R.ok ()).bind fun t30=>(R.ok (t29,t30))).bind fun z31=>(R.ok [z31.1])).bind fun t33=>(R.ok (!decide (t32 = t33)))) (R.ok (!decide ((v_apart_27.length:Int) = (1:Int))))) fun b55=>if b55 then Out.abs (.rt false) else
  (R.to ((R.ok s25).bind fun t34=>(R.ok none).bind fun t35=>(R.ok none).bind fun t36=>((R.ok (-(1:Int))).bind fun t37=>(R.ok (some t37))).bind fun t38=>R.pickv t34 t35 t36 t38) fun (v_rising_39:(List Int))=>
  (R.to2 (m_fewest_blocks v_rising_39) fun (v_chains_40:(List (List Int))) (v_apart_41:(List Int))=>
  (R.to (R.or ((R.ok (v_chains_40.length:Int)).bind fun t45=>(((R.ok v_rising_39).bind fun t42=>(R.ok ()).bind fun t43=>(R.ok (t42,t43))).bind fun z44=>(R.lenSetI z44.1)).bind fun t46=>(R.ok (!decide (t45 = t46)))) (R.ok (!decide ((v_apart_41.length:Int) = (v_chains_40.length:Int))))) fun b53=>if b53 then Out.abs (.rt false) else
  (R.to (R.sortK s25 (fun a=>decide (CMulW (a + (1:Int)) v_number_24)) (fun a=>(((a + (1:Int)) * v_number_24) % (((10:Int) ^ Int.toNat (30:Int)) + (57:Int))))) fun (v_drawn_47:(List Int))=>
  (R.to2 (m_fewest_blocks v_drawn_47) fun (v_chains_48:(List (List Int))) (v_apart_49:(List Int))=>
  (R.to (R.and ((R.ok (v_chains_48.length:Int)).bind fun t50=>(m_growing v_drawn_47).bind fun t51=>(R.ok (decide (t50 = t51)))) (R.ok (decide ((v_apart_49.length:Int) = (v_chains_48.length:Int))))) .rt))))))))))))
@[irreducible] def m_law (v_script:(Sq Int)):R Bool:=(m_law_b v_script).run
end
end Mir

namespace Mt
open PySem L2 Fw
variable {α β γ S T J ρ : Type}
theorem sl_eq : sizeLine = 16777216 := sizeLine_eq
/-! ### loops of the mirrors -/
/-- a loop that goes on to its end: an invariant by the turn -/
theorem forL_ind {f : S → α → Out S S ρ} (P : Nat → S → Prop) : ∀ (xs : List α) (s : S) (n : Nat), P n s → (∀ i x s, xs[i]? = some x → P (n + i) s → ∃ s', (f s x = .nx s' ∨ f s x = .ct s') ∧ P (n + i + 1) s') →
    ∃ s', (forL xs s f : Out S J ρ) = .nx s' ∧ P (n + xs.length) s'
  | [], s, n, h0, _ => ⟨s, rfl, h0⟩
  | x :: xs, s, n, h0, hs => by
    obtain ⟨s1, h1, p1⟩ := hs 0 x s rfl h0
    obtain ⟨s2, h2, p2⟩ := forL_ind P xs s1 (n + 1) p1 fun i y s hi p => by
      have := hs (i + 1) y s (by simpa using hi) (by rw [show n + (i + 1) = n + 1 + i by omega]; exact p)
      rw [show n + (i + 1) + 1 = n + 1 + i + 1 by omega] at this
      exact this
    refine ⟨s2, ?_, by rw [List.length_cons, show n + (xs.length + 1) = n + 1 + xs.length by omega]; exact p2⟩
    unfold forL
    rcases h1 with h1 | h1 <;> rw [h1] <;> exact h2
/-- from the first turn on -/
theorem forL_inv {f : S → α → Out S S ρ} {xs : List α} {s : S} (P : Nat → S → Prop) (h0 : P 0 s) (hs : ∀ i x s, xs[i]? = some x → P i s → ∃ s', f s x = .nx s' ∧ P (i + 1) s') :
    ∃ s', (forL xs s f : Out S J ρ) = .nx s' ∧ P xs.length s' := by
  obtain ⟨s', h, p⟩ := forL_ind (J := J) P xs s 0 h0 fun i x s hi p => by
    rw [Nat.zero_add] at p
    obtain ⟨s', h, q⟩ := hs i x s hi p
    exact ⟨s', .inl h, by rw [Nat.zero_add]; exact q⟩
  exact ⟨s', h, by rw [Nat.zero_add] at p; exact p⟩
/-! ### what holds of what comes out -/
def RS (Q : α → Prop) (m : R α) : Prop := ∃ x, m = .ok x ∧ Q x
def OS (N : S → Prop) (B C : J → Prop) (Z : ρ → Prop) (m : Out S J ρ) : Prop := match m with
  | .nx s => N s
  | .rt r => Z r
  | .bk j => B j
  | .ct j => C j
  | .ex _ => False
  | .no => False
theorem rs_imp {P Q : α → Prop} {m : R α} (h : RS P m) (k : ∀ x, P x → Q x) : RS Q m := by
  obtain ⟨x, e, p⟩ := h
  exact ⟨x, e, k x p⟩
section
variable {N N' : S → Prop} {B C : J → Prop} {Z : ρ → Prop}
theorem os_nx {s : S} (h : N s) : OS N B C Z (.nx s) := h
theorem os_rt {r : ρ} (h : Z r) : OS N B C Z (.rt r) := h
theorem os_lt {x : α} {k : α → Out S J ρ} (h : OS N B C Z (k x)) : OS N B C Z (lt x k) := h
theorem os_bind {M : T → Prop} {m : Out T J ρ} {k : T → Out S J ρ} (h : OS M B C Z m) (hk : ∀ x, M x → OS N B C Z (k x)) : OS N B C Z (m.bind k) := by
  cases m with
  | nx s => exact hk s h
  | rt r => exact h
  | bk j => exact h
  | ct j => exact h
  | ex e => exact h
  | no => exact h
theorem os_abs {m : Out Empty J ρ} (h : OS (fun _ => True) B C Z m) : OS N B C Z (m.abs : Out S J ρ) := by
  cases m with
  | nx s => exact s.elim
  | rt r => exact h
  | bk j => exact h
  | ct j => exact h
  | ex e => exact h
  | no => exact h
theorem os_for {f : S → α → Out S S ρ} {xs : List α} {s : S} (P : Nat → S → Prop) (h0 : P 0 s) (hs : ∀ i x s, xs[i]? = some x → P i s → OS (P (i + 1)) N (P (i + 1)) Z (f s x)) (hd : ∀ s, P xs.length s → N s) : OS N B C Z (forL xs s f) := by
  have main : ∀ (ys : List α) (n : Nat) (s : S), P n s → (∀ i x s, ys[i]? = some x → P (n + i) s → OS (P (n + i + 1)) N (P (n + i + 1)) Z (f s x)) → (∀ s, P (n + ys.length) s → N s) → OS N B C Z (forL ys s f) := by
    intro ys
    induction ys with
    | nil => exact fun n s p _ hd => hd s p
    | cons x ys ih =>
      intro n s p hs hd
      have h1 := hs 0 x s rfl p
      have hs' : ∀ i y s, ys[i]? = some y → P (n + 1 + i) s → OS (P (n + 1 + i + 1)) N (P (n + 1 + i + 1)) Z (f s y) := fun i y s hi p => by
        have := hs (i + 1) y s (by simpa using hi) (by rw [show n + (i + 1) = n + 1 + i by omega]; exact p)
        rw [show n + (i + 1) + 1 = n + 1 + i + 1 by omega] at this
        exact this
      have hd' : ∀ s, P (n + 1 + ys.length) s → N s := fun s q => hd s (by rw [List.length_cons, show n + (ys.length + 1) = n + 1 + ys.length by omega]; exact q)
      show OS N B C Z (match f s x with | .nx s' => forL ys s' f | .ct s' => forL ys s' f | .bk s' => .nx s' | .rt r => .rt r | .ex e => .ex e | .no => .no)
      revert h1
      generalize f s x = o
      intro h1
      cases o with
      | nx s' => exact ih (n + 1) s' h1 hs' hd'
      | ct s' => exact ih (n + 1) s' h1 hs' hd'
      | bk s' => exact h1
      | rt r => exact h1
      | ex e => exact h1
      | no => exact h1
  exact main xs 0 s h0 (fun i x s hi p => by rw [Nat.zero_add] at p ⊢; exact hs i x s hi p) fun s p => hd s (by rw [Nat.zero_add] at p; exact p)
theorem os_if {c : Bool} {a b : Out S J ρ} (h1 : c = true → OS N B C Z a) (h2 : c = false → OS N B C Z b) : OS N B C Z (if c then a else b) := by
  cases c with
  | true => exact h1 rfl
  | false => exact h2 rfl
end
theorem run_of {Z : ρ → Prop} {m : Out Unit Unit ρ} (h : OS (fun _ => False) (fun _ => False) (fun _ => False) Z m) : RS Z m.run := by
  cases m with
  | rt r => exact ⟨r, rfl, h⟩
  | nx s => exact h.elim
  | bk j => exact h.elim
  | ct j => exact h.elim
  | ex e => exact h.elim
  | no => exact h.elim
/-! ### reading lists -/
theorem atI_ok {xs : List α} {i : Int} (h0 : 0 ≤ i) (h : i.toNat < xs.length) : atI xs i = some (xs[i.toNat]'h) := by
  unfold atI ixN
  rw [if_pos h0, if_pos (by omega)]
  exact List.getElem?_eq_getElem h
theorem ix_ok {xs : List α} {i : Int} (h0 : 0 ≤ i) (h : i.toNat < xs.length) : R.ix xs i = .ok (xs[i.toNat]'h) := by
  unfold R.ix
  rw [atI_ok h0 h]
  rfl
theorem ix_nat {xs : List α} {i : Nat} (h : i < xs.length) : R.ix xs (i : Int) = .ok (xs[i]'h) := ix_ok (i := (i : Int)) (by omega) (by simpa using h)
theorem mod_ok {x y : Int} (h : 0 < y) : R.mod x y = .ok (x % y) := by unfold R.mod; exact if_pos h
theorem fdiv_ok {x y : Int} (h : 0 < y) (h2 : y < 1073741824) : R.fdiv x y = .ok (x / y) := by unfold R.fdiv; exact if_pos ⟨h, h2⟩
theorem mul_okl {x y : Int} (h : -(2 ^ 64) < x) (h2 : x < 2 ^ 64) : R.mul x y = .ok (x * y) := by unfold R.mul; exact if_pos (.inl ⟨h, h2⟩)
theorem apd_ok {xs : List α} {x : α} (h : xs.length < 16777216) : R.app xs x = .ok (xs ++ [x]) := by unfold R.app; exact if_pos (by rw [sl_eq]; exact h)
theorem rng_ok {lo hi : Int} (h1 : -16777216 ≤ lo) (h2 : lo ≤ 16777216) (h3 : -16777216 ≤ hi) (h4 : hi ≤ 16777216) : R.rng lo hi = .ok (rng lo hi) := by unfold R.rng; exact if_pos ⟨h1, h2, h3, h4⟩
theorem lcT_ok {xs : List α} {p : α → Bool} {f : α → β} (h : xs.length ≤ 16777216) : R.lcT xs p f = .ok ((xs.filter p).map f) := by unfold R.lcT; exact if_pos (by rw [sl_eq]; exact h)
/-- a comprehension each of whose items is known -/
theorem lc_ok {xs : List α} {p : α → R Bool} {f : α → R β} {p' : α → Bool} {f' : α → β} (hl : xs.length ≤ 16777216) (hp : ∀ x, x ∈ xs → p x = .ok (p' x)) (hf : ∀ x, x ∈ xs → p' x = true → f x = .ok (f' x)) : R.lc xs p f = .ok ((xs.filter p').map f') := by
  unfold R.lc
  rw [if_pos (by rw [sl_eq]; exact hl)]
  clear hl
  induction xs with
  | nil => rfl
  | cons x xs ih =>
    unfold lcGo
    rw [hp x (by simp), ih (fun y hy => hp y (List.mem_cons_of_mem _ hy)) fun y hy => hf y (List.mem_cons_of_mem _ hy)]
    cases h : p' x with
    | true =>
      dsimp only
      rw [hf x (by simp) h]
      simp [List.filter_cons, h]
    | false => simp [List.filter_cons, h]
/-! ### slices -/
theorem rng_mem {lo hi x : Int} (h : x ∈ rng lo hi) : lo ≤ x ∧ x < hi := by
  unfold rng at h
  rw [List.mem_map] at h
  obtain ⟨i, hi', e⟩ := h
  rw [List.mem_range] at hi'
  omega
theorem rng_get' {lo hi : Int} {i : Nat} (h : i < (hi - lo).toNat) : (rng lo hi)[i]? = some (lo + (i : Nat)) := by
  unfold rng
  rw [List.getElem?_map, List.getElem?_range h]
  rfl
/-! ### texts -/
end Mt

namespace Ma
open PySem L2 Fw Mir Mt
/-! ### chains: the search for a next one -/
theorem io_of {ρ α : Type} {Z : ρ × α → Prop} {m : Out Empty Unit (ρ × α)} (h : OS (fun _ => False) (fun _ => False) (fun _ => False) Z m) : RS Z (ioR m) := by
  cases m with
  | rt r => exact ⟨r, rfl, h⟩
  | nx s => exact s.elim
  | bk j => exact h.elim
  | ct j => exact h.elim
  | ex e => exact h.elim
  | no => exact h.elim
theorem nodup_leG {α : Type} [DecidableEq α] : ∀ {l cs : List α}, l.Nodup → (∀ x ∈ l, x ∈ cs) → l.length ≤ cs.length
  | [], _, _, _ => Nat.zero_le _
  | a :: l, cs, hn, hs => by
    obtain ⟨h1, h2⟩ := List.nodup_cons.mp hn
    have ha : a ∈ cs := hs a (by simp)
    have := nodup_leG (cs := cs.erase a) h2 fun x hx => (List.mem_erase_of_ne (a := x) (b := a) fun e => h1 (by rw [e] at hx; exact hx)).mpr (hs x (by simp [hx]))
    rw [List.length_erase_of_mem ha] at this
    have := List.length_pos_of_mem ha
    rw [List.length_cons]
    omega
theorem setI_ok {α : Type} {xs : List α} {j : Nat} {y : α} (h : j < xs.length) : R.set xs (j : Int) y = .ok (xs.set j y) := by
  unfold R.set ixN
  rw [if_pos (by omega), if_pos (by omega)]
  rfl
def ks {α : Type} (d : Dk Int α) : List Int := d.l.map (·.1)
theorem isSome_ks {α : Type} {k : Int} : ∀ {l : List (Int × α)}, (dval l k).isSome = decide (k ∈ l.map (·.1))
  | [] => by simp [dval]
  | p :: l => by
    unfold dval
    by_cases h : p.1 = k
    · rw [if_pos h]; simp [h]
    · rw [if_neg h, isSome_ks (l := l)]
      have : ¬ k = p.1 := fun e => h e.symm
      simp [this]
theorem isS {α : Type} {d : Dk Int α} {k : Int} (h : k ∈ ks d) : (dval d.l k).isSome = true := by rw [isSome_ks]; exact decide_eq_true h
theorem isN {α : Type} {d : Dk Int α} {k : Int} (h : k ∉ ks d) : (dval d.l k).isSome = false := by rw [isSome_ks]; exact decide_eq_false h
theorem dput_new {α : Type} {l : List (Int × α)} {k : Int} {v : α} (h : k ∉ l.map (·.1)) : Fw.dput l k v = l ++ [(k, v)] := by
  unfold Fw.dput
  rw [isSome_ks, decide_eq_false h]
  rfl
theorem dputI_ok {α : Type} {d : Dk Int α} {k : Int} {v : α} (h : d.l.length < 1000) (hk : k ∉ ks d) : R.dput d k v = .ok ⟨d.l ++ [(k, v)]⟩ := by
  unfold R.dput
  rw [if_pos (by rw [sl_eq]; omega), dput_new hk]
theorem ks_app {α : Type} {d : Dk Int α} {k x : Int} {v : α} : x ∈ ks (⟨d.l ++ [(k, v)]⟩ : Dk Int α) ↔ x ∈ ks d ∨ x = k := by
  unfold ks
  simp
structure SK {α : Type} (n : Nat) (d : Dk Int α) : Prop where
  nd : (ks d).Nodup
  lt : ∀ x ∈ ks d, 0 ≤ x ∧ x < (n : Int)
theorem SK.len {α : Type} {n : Nat} {d : Dk Int α} (h : SK n d) : d.l.length ≤ n := by
  have := nodup_leG (cs := (List.range n).map fun (i : Nat) => (i : Int)) h.nd fun x hx => by
    obtain ⟨a, b⟩ := h.lt x hx
    exact List.mem_map.mpr ⟨x.toNat, List.mem_range.mpr (by omega), by omega⟩
  unfold ks at this
  simp at this
  exact this
theorem SK.put {α : Type} {n : Nat} {d : Dk Int α} (h : SK n d) {j : Nat} (hj : j < n) {v : α} (hk : (j : Int) ∉ ks d) : SK n (⟨d.l ++ [((j : Int), v)]⟩ : Dk Int α) where
  nd := by
    have e : ks (⟨d.l ++ [((j : Int), v)]⟩ : Dk Int α) = ks d ++ [(j : Int)] := by simp [ks]
    rw [e, List.nodup_append]
    exact ⟨h.nd, by simp, fun a ha b hb e => hk (by rw [List.mem_singleton.mp hb] at e; exact e ▸ ha)⟩
  lt := fun x hx => by
    rcases ks_app.mp hx with q | q
    · exact h.lt x q
    · omega
theorem SK.le {α : Type} {n : Nat} {d e : Dk Int α} (h : SK n d) (hs : ∀ x ∈ ks d, x ∈ ks e) : d.l.length ≤ e.l.length := by
  have := nodup_leG h.nd hs
  unfold ks at this
  simp at this
  exact this
structure PR (n : Nat) (E : Nat → Nat → Prop) (a : List (Option Int)) : Prop where
  len : a.length = n
  ed : ∀ (j : Nat) (i : Int), a[j]? = some (some i) → ∃ i' : Nat, i = (i' : Int) ∧ E i' j
structure LT (n : Nat) (E : Nat → Nat → Prop) (later : List (List Int)) : Prop where
  n1 : n ≤ 69
  hE : ∀ i j, E i j → i < j ∧ j < n
  len : later.length = n
  get : ∀ i, i < n → ∃ l : List Nat, later[i]? = some (l.map fun (j : Nat) => (j : Int)) ∧ ∀ j, j ∈ l ↔ E i j
/-- all that is met from there is met, and taken -/
def CL (E : Nat → Nat → Prop) (a : List (Option Int)) (S0 S : List Int) : Prop := ∀ j : Nat, (j : Int) ∈ S → (j : Int) ∉ S0 → ∃ i : Nat, a[j]? = some (some (i : Int)) ∧ ∀ j', E i j' → (j' : Int) ∈ S
def Dead (E : Nat → Nat → Prop) (a : List (Option Int)) (D : Nat → Prop) : Prop := ∀ j, D j → ∃ i : Nat, a[j]? = some (some (i : Int)) ∧ ∀ j', E i j' → D j'
structure Post (n : Nat) (E : Nat → Nat → Prop) (one : Nat) (a : List (Option Int)) (d : Dk Int Bool) (r : Bool × (List (Option Int) × Dk Int Bool)) : Prop where
  pr : PR n E r.2.1
  sk : SK n r.2.2
  sub : ∀ x ∈ ks d, x ∈ ks r.2.2
  no : r.1 = false → r.2.1 = a ∧ (∀ j, E one j → (j : Int) ∈ ks r.2.2) ∧ CL E a (ks d) (ks r.2.2)
  cnt : r.1 = true → ∀ i : Int, r.2.1.count (some i) = a.count (some i) + if i = (one : Int) then 1 else 0
  same : r.1 = true → ∀ j : Nat, (j : Int) ∈ ks d → r.2.1[j]? = a[j]?
  dead : r.1 = true → ∀ D, Dead E a D → (¬ ∀ j, E one j → D j) ∧ ∀ j, D j → r.2.1[j]? = a[j]?
theorem find_ok {n : Nat} {E : Nat → Nat → Prop} {later : List (List Int)} (L : LT n E later) : ∀ (fuel one : Nat) (a : List (Option Int)) (d : Dk Int Bool), one < n → PR n E a → SK n d → n + 1 ≤ fuel + d.l.length → RS (Post n E one a d) (m_find_next fuel (one : Int) later a d)
  | 0, one, a, d, _, _, sd, hf => absurd sd.len (by omega)
  | fuel + 1, one, a, d, ho, pa, sd, hf => by
    obtain ⟨l, el, hl⟩ := L.get one ho
    have n1 := L.n1
    have e1 : R.ix later (one : Int) = .ok (l.map fun (j : Nat) => (j : Int)) := by
      have h : one < later.length := by rw [L.len]; exact ho
      rw [ix_nat h]
      rw [List.getElem?_eq_getElem h] at el
      exact congrArg R.ok (Option.some.inj el)
    show RS _ (ioR (m_find_next_b (m_find_next fuel) (one : Int) later a d))
    refine io_of ?_
    unfold m_find_next_b
    simp (config := { implicitDefEqProofs := false }) only [R.bind_ok, e1, R.to_ok]
    refine os_bind (M := fun s : List (Option Int) × Dk Int Bool => s.1 = a ∧ SK n s.2 ∧ (∀ x ∈ ks d, x ∈ ks s.2) ∧ (∀ j ∈ l, ((j : Nat) : Int) ∈ ks s.2) ∧ CL E a (ks d) (ks s.2))
      (os_for (fun k s => s.1 = a ∧ SK n s.2 ∧ (∀ x ∈ ks d, x ∈ ks s.2) ∧ (∀ j ∈ l.take k, ((j : Nat) : Int) ∈ ks s.2) ∧ CL E a (ks d) (ks s.2)) ⟨rfl, sd, fun _ h => h, by simp, fun j h h2 => absurd h h2⟩ (fun k x s hx p => ?_) fun s p => by
        rw [List.length_map, List.take_length] at p; exact p) fun s p => ?_
    rotate_left
    · obtain ⟨p1, p2, p3, p4, p5⟩ := p
      refine os_rt ⟨by dsimp only; rw [p1]; exact pa, p2, p3, fun _ => ⟨p1, fun j hj => p4 j ((hl j).mpr hj), p5⟩, fun h => ?_, fun h => ?_, fun h => ?_⟩ <;> cases h
    obtain ⟨s1, s2⟩ := s
    obtain ⟨p1, p2, p3, p4, p5⟩ := p
    dsimp only at p1 p2 p3 p4 p5 ⊢
    subst p1
    rw [List.getElem?_map] at hx
    obtain ⟨j, hj, ex⟩ : ∃ j, l[k]? = some j ∧ x = (j : Int) := by
      cases e : l[k]? with
      | none => rw [e] at hx; cases hx
      | some j => rw [e] at hx; exact ⟨j, rfl, (Option.some.inj hx).symm⟩
    subst ex
    have hEj : E one j := (hl j).mp (List.mem_of_getElem? hj)
    obtain ⟨hoj, hjn⟩ := L.hE _ _ hEj
    have hal : j < s1.length := by rw [pa.len]; exact hjn
    have tk : ∀ {S : List Int}, (∀ j ∈ l.take k, ((j : Nat) : Int) ∈ S) → (j : Int) ∈ S → ∀ j ∈ l.take (k + 1), ((j : Nat) : Int) ∈ S := fun {S} h h2 j' hj' => by
      rw [List.take_add_one, hj] at hj'
      rcases List.mem_append.mp hj' with q | q
      · exact h j' q
      · rw [List.mem_singleton.mp q]; exact h2
    refine os_bind (M := fun s : List (Option Int) × Dk Int Bool => s.1 = s1 ∧ SK n s.2 ∧ (∀ x ∈ ks d, x ∈ ks s.2) ∧ (∀ j ∈ l.take (k + 1), ((j : Nat) : Int) ∈ ks s.2) ∧ CL E s1 (ks d) (ks s.2)) ?_ fun s p => os_nx p
    by_cases hin : (j : Int) ∈ ks s2
    · rw [isS hin]
      exact os_nx ⟨rfl, p2, p3, tk p4 hin, p5⟩
    rw [isN hin]
    simp (config := { implicitDefEqProofs := false }) only [Bool.not_false, if_true]
    have hlen := p2.len
    rw [dputI_ok (by omega) hin]
    simp (config := { implicitDefEqProofs := false }) only [R.to_ok, R.bind_ok, ix_nat hal]
    have sk1 := p2.put (v := true) hjn hin
    have hjd : (j : Int) ∉ ks d := fun h => hin (p3 _ h)
    generalize hd1 : (⟨s2.l ++ [((j : Int), true)]⟩ : Dk Int Bool) = d1 at sk1 ⊢
    have k1 : ∀ x, x ∈ ks d1 ↔ x ∈ ks s2 ∨ x = (j : Int) := fun x => by rw [← hd1]; exact ks_app
    have hd1l : d1.l.length = s2.l.length + 1 := by rw [← hd1]; simp
    have hdle : d.l.length ≤ s2.l.length := sd.le p3
    -- what stands there
    cases ea : s1[j] with
    | none =>
      have ej : s1[j]? = some none := by rw [List.getElem?_eq_getElem hal, ea]
      simp (config := { implicitDefEqProofs := false }) only [Option.isNone_none, if_true, R.to_ok]
      refine os_abs ?_
      rw [setI_ok hal]
      simp (config := { implicitDefEqProofs := false }) only [R.to_ok]
      refine os_rt ⟨⟨by dsimp only; rw [List.length_set]; exact pa.len, fun j' i h => ?_⟩, sk1, fun x hx => (k1 x).mpr (.inl (p3 x hx)), (fun h => nomatch h), fun _ i => ?_, fun _ j' hj' => ?_, fun _ D hD => ?_⟩
      · dsimp only at h
        rw [List.getElem?_set] at h
        by_cases q : j = j'
        · subst q
          rw [if_pos rfl, if_pos hal] at h
          cases h
          exact ⟨one, rfl, hEj⟩
        · rw [if_neg q] at h
          exact pa.ed j' i h
      · dsimp only
        rw [List.count_set hal, ea]
        by_cases q : i = (one : Int)
        · subst q; simp
        · have q2 : ¬ (one : Int) = i := fun e => q e.symm
          simp [q, q2]
      · dsimp only
        rw [List.getElem?_set, if_neg (fun q => hjd (by rw [q]; exact hj'))]
      · have nD : ¬ D j := fun h => by
          obtain ⟨i, e, _⟩ := hD j h
          rw [ej] at e
          cases e
        refine ⟨fun h => nD (h j hEj), fun j' hj' => ?_⟩
        dsimp only
        rw [List.getElem?_set, if_neg (fun q : j = j' => nD (by rw [q]; exact hj'))]
    | some x =>
      have ej : s1[j]? = some (some x) := by rw [List.getElem?_eq_getElem hal, ea]
      obtain ⟨i, ei, hEi⟩ := pa.ed j x ej
      subst ei
      obtain ⟨hij, _⟩ := L.hE _ _ hEi
      obtain ⟨r, er, hr⟩ := find_ok L fuel i s1 d1 (by omega) pa sk1 (by omega)
      simp (config := { implicitDefEqProofs := false }) only [Option.isNone_some, Bool.false_eq_true, if_false, R.opt, R.bind_ok, er, R.np, R.to_ok]
      obtain ⟨b, a2, d2⟩ := r
      cases b with
      | true =>
        simp (config := { implicitDefEqProofs := false }) only [if_true]
        refine os_abs ?_
        have hal2 : j < a2.length := by have := hr.pr.len; dsimp only at this; rw [this]; exact hjn
        rw [setI_ok hal2]
        simp (config := { implicitDefEqProofs := false }) only [R.to_ok]
        have same := hr.same rfl
        have cnt := hr.cnt rfl
        have dead := hr.dead rfl
        dsimp only at same cnt dead
        have e2j : a2[j]? = some (some (i : Int)) := by rw [same j ((k1 _).mpr (.inr rfl))]; exact ej
        have e2 : a2[j] = some (i : Int) := by rw [List.getElem?_eq_getElem hal2] at e2j; exact Option.some.inj e2j
        have hsub := hr.sub
        dsimp only at hsub
        refine os_rt ⟨⟨by dsimp only; rw [List.length_set]; exact hr.pr.len, fun j' i' h => ?_⟩, hr.sk, fun x hx => hsub x ((k1 x).mpr (.inl (p3 x hx))), (fun h => nomatch h), fun _ i' => ?_, fun _ j' hj' => ?_, fun _ D hD => ?_⟩
        · dsimp only at h
          rw [List.getElem?_set] at h
          by_cases q : j = j'
          · subst q
            rw [if_pos rfl, if_pos hal2] at h
            cases h
            exact ⟨one, rfl, hEj⟩
          · rw [if_neg q] at h
            exact hr.pr.ed j' i' h
        · dsimp only
          rw [List.count_set hal2, e2, cnt i']
          by_cases q : i' = (one : Int)
          · subst q
            by_cases q2 : (one : Int) = (i : Int)
            · rw [q2]; simp
            · have q3 : ¬ (i : Int) = (one : Int) := fun e => q2 e.symm
              simp [q2, q3]
          · have q4 : ¬ (one : Int) = i' := fun e => q e.symm
            by_cases q2 : i' = (i : Int)
            · subst q2; simp [q, q4]
            · have q3 : ¬ (i : Int) = i' := fun e => q2 e.symm
              simp [q, q4, q2, q3]
        · dsimp only
          rw [List.getElem?_set, if_neg (fun q => hjd (by rw [q]; exact hj'))]
          exact same j' ((k1 _).mpr (.inl (p3 _ hj')))
        · obtain ⟨n1', n2⟩ := dead D hD
          have nD : ¬ D j := fun h => by
            obtain ⟨i0, e, h2⟩ := hD j h
            rw [ej] at e
            have : i = i0 := by simp at e; omega
            subst this
            exact n1' h2
          refine ⟨fun h => nD (h j hEj), fun j' hj' => ?_⟩
          dsimp only
          rw [List.getElem?_set, if_neg (fun q : j = j' => nD (by rw [q]; exact hj'))]
          exact n2 j' hj'
      | false =>
        simp (config := { implicitDefEqProofs := false }) only [Bool.false_eq_true, if_false]
        obtain ⟨h1, h2, h3⟩ := hr.no rfl
        have hsub := hr.sub
        have hsk := hr.sk
        dsimp only at h1 h2 h3 hsub hsk ⊢
        have h2s : ∀ x, x ∈ ks s2 → x ∈ ks d2 := fun x hx => hsub x ((k1 x).mpr (.inl hx))
        refine os_nx ⟨h1, hsk, fun x hx => h2s x (p3 x hx), tk (fun j hj => h2s _ (p4 j hj)) (hsub _ ((k1 _).mpr (.inr rfl))), fun j' hj' hn' => ?_⟩
        by_cases q : (j' : Int) ∈ ks d1
        · rcases (k1 _).mp q with q | q
          · obtain ⟨i', e, hh⟩ := p5 j' q hn'
            exact ⟨i', e, fun j'' hj'' => h2s _ (hh j'' hj'')⟩
          · have : j' = j := by omega
            subst this
            exact ⟨i, ej, h2⟩
        · exact h3 j' hj' q

/-! ### the later ones -/
def wi (states : List Int) (i j : Nat) : Bool := decide (Builtin.bitAnd (states.getD j 0) (states.getD i 0) = states.getD j 0)
def EE (states : List Int) (i j : Nat) : Prop := i < j ∧ j < states.length ∧ wi states i j = true
theorem mem_rng {lo hi x : Int} : x ∈ rng lo hi ↔ lo ≤ x ∧ x < hi := by
  refine ⟨rng_mem, fun ⟨h1, h2⟩ => ?_⟩
  have := rng_get' (lo := lo) (hi := hi) (i := (x - lo).toNat) (by omega)
  rw [show lo + ((x - lo).toNat : Int) = x by omega] at this
  exact List.mem_of_getElem? this
theorem rng_natK {w i : Nat} {x : Int} (h : (rng 0 (w : Int))[i]? = some x) : x = (i : Int) ∧ i < w := by
  have h1 := (List.getElem?_eq_some_iff.mp h).1
  rw [rng_len] at h1
  rw [rng_get' (by omega)] at h
  have h2 : (0 : Int) + (i : Nat) = x := Option.some.inj h
  exact ⟨by omega, by omega⟩
theorem lc_fl {α : Type} {xs : List α} {p : α → R Bool} {p' : α → Bool} (hl : xs.length ≤ 16777216) (hp : ∀ x, x ∈ xs → p x = .ok (p' x)) : R.lc xs p (fun x => R.ok x) = .ok (xs.filter p') := by
  rw [lc_ok (p' := p') (f' := fun x => x) hl hp fun x _ _ => rfl, List.map_id']
theorem coe_toNat {l : List Int} (h : ∀ x ∈ l, 0 ≤ x) : (l.map Int.toNat).map (fun (j : Nat) => (j : Int)) = l := by
  rw [List.map_map]
  conv => rhs; rw [← List.map_id l]
  refine List.map_congr_left fun x hx => ?_
  have := h x hx
  show ((x.toNat : Nat) : Int) = id x
  simp only [id]
  omega
theorem getD_ix {states : List Int} {j : Nat} (h : j < states.length) : R.ix states (j : Int) = .ok (states.getD j 0) := by
  rw [ix_nat h, List.getD_eq_getElem?_getD, List.getElem?_eq_getElem h]
  rfl
theorem later_ok {states : List Int} (hn : states.length ≤ 69) : RS (LT states.length (EE states)) (m_later_ones states) := by
  unfold m_later_ones
  refine run_of ?_
  unfold m_later_ones_b
  simp (config := { implicitDefEqProofs := false }) only [lt, R.bind_ok, R.to_ok, rng_ok (show (-16777216 : Int) ≤ 0 by decide) (by decide) (show -16777216 ≤ (states.length : Int) by omega) (by omega)]
  refine os_bind (M := LT states.length (EE states)) (os_for (fun k told => told.length = k ∧ ∀ i, i < k → ∃ l : List Nat, told[i]? = some (l.map fun (j : Nat) => (j : Int)) ∧ ∀ j, j ∈ l ↔ EE states i j) ⟨rfl, fun i h => absurd h (by omega)⟩ (fun k x told hx p => ?_) fun told p => ?_) fun told p => os_rt p
  · obtain ⟨ex, hk⟩ := rng_natK hx
    subst ex
    obtain ⟨p1, p2⟩ := p
    have e1 : R.lc (rng ((k : Int) + 1) (states.length : Int)) (fun x7 : Int => (((R.ok states).bind fun t8 => (R.ok x7).bind fun t9 => (R.ix t8 t9)).bind fun t14 => (((R.ok states).bind fun t10 => (R.ok (k : Int)).bind fun t11 => (R.ix t10 t11)).bind fun t12 => (R.ok ()).bind fun t13 => (R.ok (t12, t13))).bind fun t15 => (R.ok (t14, t15))).bind fun z16 => m_within z16.1 z16.2.1) (fun x => R.ok x) = .ok ((rng ((k : Int) + 1) (states.length : Int)).filter fun x => wi states k x.toNat) := by
      refine lc_fl (by rw [rng_len]; omega) fun x hx => ?_
      obtain ⟨h1, h2⟩ := rng_mem hx
      obtain ⟨j, rfl⟩ := Int.eq_ofNat_of_zero_le (show 0 ≤ x by omega)
      have hj : j < states.length := by omega
      simp (config := { implicitDefEqProofs := false }) only [R.bind_ok, getD_ix hj, getD_ix hk]
      unfold m_within m_within_b wi
      rfl
    simp (config := { implicitDefEqProofs := false }) only [R.bind_ok] at e1
    rw [rng_ok (by omega) (by omega) (by omega) (by omega)]
    simp (config := { implicitDefEqProofs := false }) only [R.bind_ok, e1, R.to_ok]
    rw [apd_ok (by omega)]
    refine os_nx ⟨by simp [p1], fun i hi => ?_⟩
    by_cases q : i < k
    · obtain ⟨l, e, hl⟩ := p2 i q
      exact ⟨l, by rw [List.getElem?_append_left (by omega)]; exact e, hl⟩
    · have : i = k := by omega
      subst this
      have pos : ∀ x ∈ (rng ((i : Int) + 1) (states.length : Int)).filter (fun x => wi states i x.toNat), 0 ≤ x := fun x hx => by
        have := (rng_mem (List.mem_filter.mp hx).1).1
        omega
      refine ⟨((rng ((i : Int) + 1) (states.length : Int)).filter fun x => wi states i x.toNat).map Int.toNat, ?_, fun j => ?_⟩
      · rw [coe_toNat pos, ← p1]
        simp
      · rw [List.mem_map]
        constructor
        · rintro ⟨x, hx, e⟩
          obtain ⟨h1, h2⟩ := List.mem_filter.mp hx
          obtain ⟨h3, h4⟩ := rng_mem h1
          exact ⟨by omega, by omega, e ▸ h2⟩
        · rintro ⟨h1, h2, h3⟩
          exact ⟨(j : Int), List.mem_filter.mpr ⟨mem_rng.mpr ⟨by omega, by omega⟩, by simpa using h3⟩, by simp⟩
  · obtain ⟨p1, p2⟩ := p
    rw [rng_len] at p1 p2
    exact ⟨hn, fun i j h => ⟨h.1, h.2.1⟩, by omega, fun i hi => p2 i (by omega)⟩
/-! ### within is handed on -/
theorem band {x y : Int} (hx : 0 ≤ x) (hy : 0 ≤ y) : Builtin.bitAnd x y = x ↔ ∀ k, x.toNat.testBit k = true → y.toNat.testBit k = true := by
  unfold Builtin.bitAnd
  rw [decide_eq_true hx, decide_eq_true hy]
  show (((x.toNat &&& y.toNat : Nat) : Int) = x) ↔ _
  constructor
  · intro h k hk
    have e : x.toNat &&& y.toNat = x.toNat := by omega
    rw [← e, Nat.testBit_and] at hk
    simp at hk
    exact hk.2
  · intro h
    have e : x.toNat &&& y.toNat = x.toNat := by
      refine Nat.eq_of_testBit_eq fun k => ?_
      rw [Nat.testBit_and]
      cases q : x.toNat.testBit k with
      | false => rfl
      | true => rw [h k q]; rfl
    rw [e]
    omega
theorem EE_trans {states : List Int} (hp : ∀ x ∈ states, 0 ≤ x) {i j k : Nat} (h1 : EE states i j) (h2 : EE states j k) : EE states i k := by
  obtain ⟨a1, a2, a3⟩ := h1
  obtain ⟨b1, b2, b3⟩ := h2
  have pos : ∀ i, 0 ≤ states.getD i 0 := fun i => by
    rw [List.getD_eq_getElem?_getD]
    cases e : states[i]? with
    | none => exact Int.le_refl 0
    | some x => exact hp x (List.mem_of_getElem? e)
  refine ⟨by omega, b2, ?_⟩
  unfold wi at *
  rw [decide_eq_true_eq] at *
  rw [band (pos _) (pos _)] at *
  exact fun b hb => a3 b (b3 b hb)
/-! ### who follows whom -/
structure FIN (n : Nat) (E : Nat → Nat → Prop) (a : List (Option Int)) : Prop where
  pr : PR n E a
  one : ∀ i : Int, a.count (some i) ≤ 1
  dead : ∃ D, Dead E a D ∧ ∀ i, i < n → a.count (some (i : Int)) = 1 ∨ ∀ j, E i j → D j
theorem cnt_inj {x : Option Int} : ∀ {l : List (Option Int)} {i j : Nat}, l.count x ≤ 1 → l[i]? = some x → l[j]? = some x → i = j
  | [], i, j, _, h, _ => by simp at h
  | y :: l, 0, 0, _, _, _ => rfl
  | y :: l, 0, j + 1, hc, h1, h2 => by
    have e : y = x := by simpa using h1
    have m : x ∈ l := by rw [List.getElem?_cons_succ] at h2; exact List.mem_of_getElem? h2
    have := List.count_pos_iff.mpr m
    rw [e, List.count_cons_self] at hc
    omega
  | y :: l, i + 1, 0, hc, h1, h2 => by
    have e : y = x := by simpa using h2
    have m : x ∈ l := by rw [List.getElem?_cons_succ] at h1; exact List.mem_of_getElem? h1
    have := List.count_pos_iff.mpr m
    rw [e, List.count_cons_self] at hc
    omega
  | y :: l, i + 1, j + 1, hc, h1, h2 => by
    rw [List.getElem?_cons_succ] at h1 h2
    have := List.count_le_count_cons (a := x) (b := y) (l := l)
    exact congrArg (· + 1) (cnt_inj (by omega) h1 h2)
theorem FIN.inj {n : Nat} {E : Nat → Nat → Prop} {a : List (Option Int)} (h : FIN n E a) {i : Int} {j k : Nat} (h1 : a[j]? = some (some i)) (h2 : a[k]? = some (some i)) : j = k := cnt_inj (h.one i) h1 h2
/-- the turn of all -/
structure TU (n : Nat) (E : Nat → Nat → Prop) (k : Nat) (a : List (Option Int)) : Prop where
  pr : PR n E a
  one : ∀ i : Int, a.count (some i) ≤ 1
  new : ∀ i : Nat, k ≤ i → a.count (some (i : Int)) = 0
  dead : ∃ D, Dead E a D ∧ ∀ i, i < k → a.count (some (i : Int)) = 1 ∨ ∀ j, E i j → D j
theorem TU.start {n : Nat} {E : Nat → Nat → Prop} : TU n E 0 (List.replicate n none) where
  pr := ⟨by simp, fun j i h => by
    have := List.mem_of_getElem? h
    rw [List.mem_replicate] at this
    exact absurd this.2 (by simp)⟩
  one := fun i => by rw [List.count_replicate]; simp
  new := fun i _ => by rw [List.count_replicate]; simp
  dead := ⟨fun _ => False, fun j h => h.elim, fun i h => absurd h (by omega)⟩
theorem TU.step {n : Nat} {E : Nat → Nat → Prop} {later : List (List Int)} (L : LT n E later) {k : Nat} (hk : k < n) {a : List (Option Int)} (h : TU n E k a) : RS (fun r => TU n E (k + 1) r.2.1) (m_find_next 70 (k : Int) later a ⟨[]⟩) := by
  have n1 := L.n1
  obtain ⟨r, er, hr⟩ := find_ok L 70 k a ⟨[]⟩ hk h.pr ⟨by simp [ks], fun x hx => by simp [ks] at hx⟩ (by simp; omega)
  refine ⟨r, er, ?_⟩
  obtain ⟨D, hD, hd⟩ := h.dead
  obtain ⟨b, a2, d2⟩ := r
  cases b with
  | true =>
    have cnt := hr.cnt rfl
    obtain ⟨_, same⟩ := hr.dead rfl D hD
    dsimp only at cnt same ⊢
    refine ⟨hr.pr, fun i => ?_, fun i hi => ?_, D, fun j hj => ?_, fun i hi => ?_⟩
    · rw [cnt i]
      by_cases q : i = (k : Int)
      · rw [if_pos q, q, h.new k (Nat.le_refl _)]; exact Nat.le_refl _
      · rw [if_neg q]; exact h.one i
    · rw [cnt, h.new i (by omega), if_neg (by omega)]
    · obtain ⟨i, e, q⟩ := hD j hj
      exact ⟨i, by rw [same j hj]; exact e, q⟩
    · by_cases q : i = k
      · subst q
        exact .inl (by rw [cnt, h.new i (Nat.le_refl _), if_pos rfl])
      · rcases hd i (by omega) with z | z
        · exact .inl (by rw [cnt, z, if_neg (by omega)])
        · exact .inr z
  | false =>
    obtain ⟨e1, e2, e3⟩ := hr.no rfl
    dsimp only at e1 e2 e3 ⊢
    subst e1
    refine ⟨h.pr, h.one, fun i hi => h.new i (by omega), fun j => D j ∨ (j : Int) ∈ ks d2, fun j hj => ?_, fun i hi => ?_⟩
    · rcases hj with z | z
      · obtain ⟨i, e, q⟩ := hD j z
        exact ⟨i, e, fun j' hj' => .inl (q j' hj')⟩
      · obtain ⟨i, e, q⟩ := e3 j z (by simp [ks])
        exact ⟨i, e, fun j' hj' => .inr (q j' hj')⟩
    · by_cases q : i = k
      · subst q
        exact .inr fun j hj => .inr (e2 j hj)
      · rcases hd i (by omega) with z | z
        · exact .inl z
        · exact .inr fun j hj => .inl (z j hj)
theorem TU.fin {n : Nat} {E : Nat → Nat → Prop} {a : List (Option Int)} (h : TU n E n a) : FIN n E a := ⟨h.pr, h.one, h.dead⟩

/-! ### the dict of next ones -/
structure NX (n : Nat) (a : List (Option Int)) (k : Nat) (d : Dk Int Int) : Prop where
  sk : SK n d
  get : ∀ i j : Int, dval d.l i = some j ↔ ∃ j' : Nat, j' < k ∧ j = (j' : Int) ∧ a[j']? = some (some i)
theorem dval_app {α : Type} {k x : Int} {v : α} : ∀ {l : List (Int × α)}, k ∉ l.map (·.1) → dval (l ++ [(k, v)]) x = if x = k then some v else dval l x
  | [], _ => by
    show (if k = x then some v else none) = _
    by_cases h : x = k
    · rw [if_pos h, if_pos h.symm]
    · rw [if_neg h, if_neg fun e => h e.symm]; rfl
  | p :: l, h => by
    have h1 : ¬ k = p.1 := fun e => h (by simp [e])
    have h2 : k ∉ l.map (·.1) := fun e => h (by simp only [List.map_cons, List.mem_cons]; exact .inr e)
    show (if p.1 = x then some p.2 else dval (l ++ [(k, v)]) x) = if x = k then some v else (if p.1 = x then some p.2 else dval l x)
    rw [dval_app h2]
    by_cases e : p.1 = x
    · rw [if_pos e, if_pos e, if_neg fun z => h1 (by rw [e, z])]
    · rw [if_neg e, if_neg e]
theorem NX.start {n : Nat} {a : List (Option Int)} : NX n a 0 ⟨[]⟩ where
  sk := ⟨by simp [ks], fun x hx => by simp [ks] at hx⟩
  get := fun i j => ⟨(fun h => nomatch h), fun ⟨j', h, _⟩ => absurd h (by omega)⟩
theorem NX.mem {n : Nat} {a : List (Option Int)} {k : Nat} {d : Dk Int Int} (h : NX n a k d) {i : Int} : i ∈ ks d ↔ ∃ j' : Nat, j' < k ∧ a[j']? = some (some i) := by
  have e := isSome_ks (l := d.l) (k := i)
  constructor
  · intro hi
    rw [isS hi] at e
    have e2 := isS hi
    obtain ⟨j, hj⟩ := Option.isSome_iff_exists.mp e2
    obtain ⟨j', h1, _, h2⟩ := (h.get i j).mp hj
    exact ⟨j', h1, h2⟩
  · rintro ⟨j', h1, h2⟩
    have := (h.get i j').mpr ⟨j', h1, rfl, h2⟩
    by_cases q : i ∈ ks d
    · exact q
    · have e3 := isN q
      rw [this] at e3
      cases e3
theorem enum_getK {α : Type} {xs : List α} {k : Nat} {x : Int × α} (h : (enum xs)[k]? = some x) : x.1 = (k : Int) ∧ xs[k]? = some x.2 := by
  unfold enum at h
  rw [List.getElem?_zipWith] at h
  cases e2 : xs[k]? with
  | none =>
    rw [e2] at h
    cases e : (List.range xs.length)[k]? <;> rw [e] at h <;> cases h
  | some y =>
    have hk : k < xs.length := (List.getElem?_eq_some_iff.mp e2).1
    rw [e2, List.getElem?_range hk] at h
    cases h
    exact ⟨rfl, rfl⟩
/-! ### a chain -/
/-- a chain from x on, to its end -/
def Pth (a : List (Option Int)) : Nat → List Nat → Prop
  | x, [] => ∀ j : Nat, a[j]? ≠ some (some (x : Int))
  | x, y :: r => a[y]? = some (some (x : Int)) ∧ Pth a y r
abbrev cI (l : List Nat) : List Int := l.map fun (j : Nat) => (j : Int)
theorem ix_last {l : List Int} {x : Int} : R.ix (l ++ [x]) (-1) = .ok x := by
  have hl : (l ++ [x]).length = l.length + 1 := by simp
  unfold R.ix atI ixN
  rw [if_neg (by decide), if_pos (by omega), hl]
  have e : ((-1 : Int) + ((l.length + 1 : Nat) : Int)).toNat = l.length := by omega
  rw [e]
  show R.opt ((l ++ [x])[l.length]?) = .ok x
  rw [List.getElem?_append_right (Nat.le_refl _), Nat.sub_self]
  rfl
theorem chain_while {n : Nat} {E : Nat → Nat → Prop} {a : List (Option Int)} (hE : ∀ i j, E i j → i < j ∧ j < n) (n1 : n ≤ 69) (F : FIN n E a) {d : Dk Int Int} (N : NX n a n d) {J : Type} : ∀ (fuel : Nat) (pre : List Nat) (x : Nat), x < n → pre.length ≤ x → n + 1 ≤ fuel + x →
    ∃ r, (whileF fuel (cI pre ++ [(x : Int)]) (fun s2 : List Int => (R.ix s2 (-1)).bind fun t5 => R.ok (dval d.l t5).isSome) (fun s2 => (((R.ix s2 (-1)).bind fun t10 => R.dget d t10).to fun t12 => (R.app s2 t12).to fun v : List Int => Out.nx v)) : Out (List Int) J (List Int)) = .nx (cI (pre ++ x :: r)) ∧ Pth a x r
  | 0, pre, x, hx, _, hf => absurd hf (by omega)
  | fuel + 1, pre, x, hx, hp, hf => by
    unfold whileF
    simp (config := { implicitDefEqProofs := false }) only [ix_last, R.bind_ok]
    by_cases q : ∃ j : Nat, a[j]? = some (some (x : Int))
    · obtain ⟨j, hj⟩ := q
      have hjn : j < n := by rw [← F.pr.len]; exact (List.getElem?_eq_some_iff.mp hj).1
      have ed := F.pr.ed j _ hj
      obtain ⟨i', ei, hEi⟩ := ed
      have : x = i' := by omega
      subst this
      have hxj := (hE _ _ hEi).1
      have eg := (N.get (x : Int) (j : Int)).mpr ⟨j, hjn, rfl, hj⟩
      have e1 : R.dget d (x : Int) = .ok (j : Int) := by unfold R.dget; rw [eg]
      rw [eg]
      simp (config := { implicitDefEqProofs := false }) only [Option.isSome_some, e1, R.to_ok]
      rw [apd_ok (by simp; omega)]
      simp (config := { implicitDefEqProofs := false }) only [R.to_ok]
      obtain ⟨r, er, hr⟩ := chain_while hE n1 F N fuel (pre ++ [x]) j hjn (by simp; omega) (by omega) (J := J)
      refine ⟨j :: r, ?_, hj, hr⟩
      have e2 : cI (pre ++ [x]) = cI pre ++ [(x : Int)] := by simp [cI]
      rw [e2] at er
      rw [er]
      simp
    · have e0 : dval d.l (x : Int) = none := by
        cases e : dval d.l (x : Int) with
        | none => rfl
        | some j =>
          obtain ⟨j', _, _, h⟩ := (N.get _ _).mp e
          exact absurd ⟨j', h⟩ q
      rw [e0]
      refine ⟨[], ?_, fun j h => q ⟨j, h⟩⟩
      simp [cI]
theorem chain_ok {n : Nat} {E : Nat → Nat → Prop} {a : List (Option Int)} (hE : ∀ i j, E i j → i < j ∧ j < n) (n1 : n ≤ 69) (F : FIN n E a) {d : Dk Int Int} (N : NX n a n d) {x : Nat} (hx : x < n) : RS (fun c => ∃ r, c = cI (x :: r) ∧ Pth a x r) (m_chain_from (x : Int) d) := by
  obtain ⟨r, er, hr⟩ := chain_while hE n1 F N (J := Unit) 1000 [] x hx (by simp) (by omega)
  refine ⟨cI (x :: r), ?_, r, rfl, hr⟩
  unfold m_chain_from m_chain_from_b
  simp (config := { implicitDefEqProofs := false }) only [lt, R.bind_ok]
  have e2 : cI [] ++ [(x : Int)] = [(x : Int)] := rfl
  rw [e2] at er
  rw [er]
  rfl
/-! ### what is come to -/
theorem dputB_ok {n : Nat} {d : Dk Int Bool} (h : SK n d) (n1 : n ≤ 69) {k : Nat} (hk : k < n) {v : Bool} : ∃ d', R.dput d (k : Int) v = .ok d' ∧ SK n d' ∧ ∀ x, x ∈ ks d' ↔ x ∈ ks d ∨ x = (k : Int) := by
  have hl := h.len
  by_cases q : (k : Int) ∈ ks d
  · refine ⟨⟨Fw.dput d.l k v⟩, ?_, ?_⟩
    · unfold R.dput
      rw [if_pos (by rw [sl_eq]; omega)]
    have e : ks (⟨Fw.dput d.l (k : Int) v⟩ : Dk Int Bool) = ks d := by
      unfold ks Fw.dput
      rw [isS q]
      simp only [if_true]
      rw [List.map_map]
      refine List.map_congr_left fun p _ => ?_
      show (if p.1 = (k : Int) then (p.1, v) else p).1 = p.1
      split <;> rfl
    refine ⟨⟨by rw [e]; exact h.nd, fun x hx => h.lt x (by rw [e] at hx; exact hx)⟩, fun x => ?_⟩
    rw [e]
    exact ⟨.inl, fun z => z.elim id fun z => z ▸ q⟩
  · exact ⟨_, dputI_ok (by omega) q, h.put hk q, fun x => ks_app⟩
structure RF (n : Nat) (E : Nat → Nat → Prop) (a : List (Option Int)) (free : List Int) (D : Nat → Prop) (Fs T Ps : List Int) : Prop where
  t : ∀ x ∈ T, 0 ≤ x ∧ x < (n : Int)
  fr : ∀ x ∈ free, x ∈ Fs ∨ x ∈ T
  up : ∀ j : Nat, (j : Int) ∈ Ps → ∃ i : Int, a[j]? = some (some i) ∧ (i ∈ Fs ∨ i ∈ T)
  bk : ∀ i : Int, (i ∈ Fs ∨ i ∈ T) → i ∈ free ∨ ∃ j : Nat, (j : Int) ∈ Ps ∧ a[j]? = some (some i)
  dd : ∀ j : Nat, (j : Int) ∈ Ps → D j
  de : ∀ i : Nat, ((i : Int) ∈ Fs ∨ (i : Int) ∈ T) → ∀ j, E i j → D j
theorem pop_ok {l : List Int} {x : Int} : R.pop (l ++ [x]) = .ok (x, l) := by
  unfold R.pop
  have : (l ++ [x])[(l ++ [x]).length - 1]? = some x := by simp
  rw [this]
  simp
theorem while_ind {S J ρ : Type} {c : S → R Bool} {f : S → Out S S ρ} (P : S → Prop) (μ : S → Nat) (hc : ∀ s, P s → c s = .ok false ∨ (c s = .ok true ∧ ∃ s', f s = .nx s' ∧ P s' ∧ μ s' < μ s)) : ∀ (fuel : Nat) (s : S), P s → μ s < fuel → ∃ s', (whileF fuel s c f : Out S J ρ) = .nx s' ∧ P s' ∧ c s' = .ok false
  | 0, s, _, h => absurd h (by omega)
  | fuel + 1, s, hp, hm => by
    unfold whileF
    rcases hc s hp with h | ⟨h, s', e, p, m⟩
    · rw [h]
      exact ⟨s, rfl, hp, h⟩
    · rw [h]
      dsimp only
      rw [e]
      exact while_ind P μ hc fuel s' p (by omega)
theorem reached_ok {n : Nat} {E : Nat → Nat → Prop} {later : List (List Int)} (L : LT n E later) {a : List (Option Int)} (hA : PR n E a) {free : List Int} (h0 : ∀ x ∈ free, 0 ≤ x ∧ x < (n : Int)) (hl : free.length ≤ n) {D : Nat → Prop} (hD : Dead E a D) (hf : ∀ i : Nat, (i : Int) ∈ free → ∀ j, E i j → D j) :
    RS (fun r => SK n r.1 ∧ SK n r.2 ∧ RF n E a free D (ks r.1) [] (ks r.2) ∧ ∀ i : Nat, (i : Int) ∈ ks r.1 → ∀ j, E i j → (j : Int) ∈ ks r.2) (m_reached_from free later a) := by
  have n1 := L.n1
  unfold m_reached_from
  refine run_of ?_
  unfold m_reached_from_b
  simp (config := { implicitDefEqProofs := false }) only [lt, R.bind_ok]
  have key := while_ind (J := Unit) (ρ := Dk Int Bool × Dk Int Bool) (c := fun s4 : Dk Int Bool × Dk Int Bool × List Int => R.ok (!decide (s4.2.2 = ([] : List Int))))
    (f := fun s4 => (R.to (R.pop s4.2.2) fun r7 => (fun (v_one_5 : Int) (v_todo_6 : (List Int)) =>
  (R.to (R.ok true) fun t30 => R.to (R.ok v_one_5) fun t31 => R.to (R.dput s4.1 t31 t30) fun (v_firsts_8 : (Dk Int Bool)) =>
  (R.to ((R.ok later).bind fun t9 => (R.ok v_one_5).bind fun t10 => (R.ix t9 t10)) fun l28 => Out.bind (forL l28 (s4.2.1, v_todo_6) (fun (s11 : ((Dk Int Bool) × (List Int))) (x12 : Int) =>
   (Out.bind (if (!(dval s11.1.l x12).isSome) then (R.to (R.ok true) fun t25 => R.to (R.ok x12) fun t26 => R.to (R.dput s11.1 t26 t25) fun (v_passed_14 : (Dk Int Bool)) =>
  (R.to ((((R.ok a).bind fun t15 => (R.ok x12).bind fun t16 => (R.ix t15 t16)).bind R.opt).bind fun t17 => (R.ok v_firsts_8).bind fun t18 => (R.ok (!(dval t18.l t17).isSome))) fun b24 => Out.bind (if b24 then (R.to (((R.ok a).bind fun t20 => (R.ok x12).bind fun t21 => (R.ix t20 t21)).bind R.opt) fun t23 => R.to (R.app s11.2 t23) fun (v_todo_22 : (List Int)) =>
  (.nx v_todo_22)) else (.nx s11.2)) fun (s19 : (List Int)) =>
  (.nx (v_passed_14, s19)))) else (.nx (s11.1, s11.2))) fun (s13 : ((Dk Int Bool) × (List Int))) =>
  (.nx (s13.1, s13.2))))) fun (s27 : ((Dk Int Bool) × (List Int))) =>
  (.nx (v_firsts_8, s27.1, s27.2))))) r7.1 r7.2))
    (fun s => SK n s.1 ∧ SK n s.2.1 ∧ RF n E a free D (ks s.1) s.2.2 (ks s.2.1) ∧ (∀ i : Nat, (i : Int) ∈ ks s.1 → ∀ j, E i j → (j : Int) ∈ ks s.2.1) ∧ s.2.2.length + (n - s.2.1.l.length) ≤ 2 * n) (fun s => s.2.2.length + (n - s.2.1.l.length)) (fun s p => ?_) 1000 (⟨[]⟩, ⟨[]⟩, free)
    ⟨⟨by simp [ks], fun x hx => by simp [ks] at hx⟩, ⟨by simp [ks], fun x hx => by simp [ks] at hx⟩, ⟨h0, fun x hx => .inr hx, fun j h => by simp [ks] at h, fun i h => .inl (h.elim (fun h => by simp [ks] at h) id), fun j h => by simp [ks] at h, fun i h j e => hf i (h.elim (fun h => by simp [ks] at h) id) j e⟩, fun i h => by simp [ks] at h, by dsimp only; simp; omega⟩ (by dsimp only; simp; omega)
  · obtain ⟨⟨s1, s2, s3⟩, e, ⟨p1, p2, p3, p4, _⟩, hc⟩ := key
    simp (config := { implicitDefEqProofs := false }) only [R.bind_ok] at e
    rw [e]
    have e3 : s3 = [] := by
      have := R.ok.inj hc
      simpa using this
    subst e3
    exact os_rt ⟨p1, p2, p3, p4⟩
  obtain ⟨s1, s2, s3⟩ := s
  dsimp only at p ⊢
  obtain ⟨p1, p2, p3, p4, p5⟩ := p
  by_cases q : s3 = []
  · left
    rw [decide_eq_true q]; rfl
  right
  refine ⟨by rw [decide_eq_false q]; rfl, ?_⟩
  obtain ⟨T, x, rfl⟩ : ∃ T x, s3 = T ++ [x] := ⟨s3.dropLast, s3.getLast q, (List.dropLast_concat_getLast q).symm⟩
  obtain ⟨x0, x1⟩ := p3.t x (by simp)
  obtain ⟨i, rfl⟩ := Int.eq_ofNat_of_zero_le x0
  have hi : i < n := by omega
  obtain ⟨d1, ed, sd, hd⟩ := dputB_ok p1 n1 hi (v := true)
  obtain ⟨l, el, hl⟩ := L.get i hi
  have e1 : R.ix later (i : Int) = .ok (cI l) := by
    have h : i < later.length := by rw [L.len]; exact hi
    rw [ix_nat h]
    rw [List.getElem?_eq_getElem h] at el
    exact congrArg R.ok (Option.some.inj el)
  rw [pop_ok]
  simp (config := { implicitDefEqProofs := false }) only [R.to_ok, R.bind_ok, ed, e1]
  have start : RF n E a free D (ks d1) T (ks s2) := ⟨fun x hx => p3.t x (by simp [hx]), fun x hx => by
      rcases p3.fr x hx with z | z
      · exact .inl ((hd x).mpr (.inl z))
      · rcases List.mem_append.mp z with z | z
        · exact .inr z
        · exact .inl ((hd x).mpr (.inr (List.mem_singleton.mp z))), fun j hj => by
      obtain ⟨y, e, z⟩ := p3.up j hj
      refine ⟨y, e, ?_⟩
      rcases z with z | z
      · exact .inl ((hd y).mpr (.inl z))
      · rcases List.mem_append.mp z with z | z
        · exact .inr z
        · exact .inl ((hd y).mpr (.inr (List.mem_singleton.mp z))), fun y hy => p3.bk y (by
      rcases hy with z | z
      · rcases (hd y).mp z with z | z
        · exact .inl z
        · exact .inr (by rw [z]; simp)
      · exact .inr (by simp [z])), p3.dd, fun y hy => p3.de y (by
      rcases hy with z | z
      · rcases (hd y).mp z with z | z
        · exact .inl z
        · exact .inr (by rw [z]; simp)
      · exact .inr (by simp [z]))⟩
  have hiD : ∀ j, E i j → D j := fun j e => p3.de i (.inr (by simp)) j e
  have key2 := forL_inv (J := Dk Int Bool × Dk Int Bool × List Int) (ρ := Dk Int Bool × Dk Int Bool) (xs := cI l) (s := (s2, T)) (f := fun (s11 : ((Dk Int Bool) × (List Int))) (x12 : Int) =>
   (Out.bind (if (!(dval s11.1.l x12).isSome) then (R.to (R.dput s11.1 x12 true) fun (v_passed_14 : (Dk Int Bool)) =>
  (R.to (((R.ix a x12).bind R.opt).bind fun t17 => (R.ok (!(dval d1.l t17).isSome))) fun b24 => Out.bind (if b24 then (R.to ((R.ix a x12).bind R.opt) fun t23 => R.to (R.app s11.2 t23) fun (v_todo_22 : (List Int)) =>
  (.nx v_todo_22)) else (.nx s11.2)) fun (s19 : (List Int)) =>
  (.nx (v_passed_14, s19)))) else (.nx (s11.1, s11.2))) fun (s13 : ((Dk Int Bool) × (List Int))) =>
  (.nx (s13.1, s13.2))))
    (fun k s => SK n s.1 ∧ RF n E a free D (ks d1) s.2 (ks s.1) ∧ (∀ x ∈ ks s2, x ∈ ks s.1) ∧ (∀ j ∈ l.take k, ((j : Nat) : Int) ∈ ks s.1) ∧ s.2.length + (n - s.1.l.length) ≤ T.length + (n - s2.l.length)) ⟨p2, start, fun _ h => h, by simp, Nat.le_refl _⟩ (fun k x s hx p => ?_)
  · obtain ⟨⟨s2', T'⟩, es, f1, f2, f3, f4, f5⟩ := key2
    rw [es]
    refine ⟨_, rfl, ⟨sd, f1, f2, fun i' hi' j e => ?_, ?_⟩, ?_⟩
    · rcases (hd _).mp hi' with z | z
      · exact f3 _ (p4 i' z j e)
      · have : i' = i := by omega
        subst this
        refine f4 j ?_
        have : (cI l).length = l.length := by simp [cI]
        rw [this, List.take_length]
        exact (hl j).mpr e
    · dsimp only at f5 ⊢
      simp at p5
      have := p2.len
      omega
    · dsimp only at f5 ⊢
      simp
      omega
  obtain ⟨s1', T1⟩ := s
  dsimp only at p ⊢
  obtain ⟨g1, g2, g3, g4, g5⟩ := p
  rw [List.getElem?_map] at hx
  obtain ⟨j, hj, ex⟩ : ∃ j, l[k]? = some j ∧ x = (j : Int) := by
    cases e : l[k]? with
    | none => rw [e] at hx; cases hx
    | some j => rw [e] at hx; exact ⟨j, rfl, (Option.some.inj hx).symm⟩
  subst ex
  have hEj : E i j := (hl j).mp (List.mem_of_getElem? hj)
  have hjn := (L.hE _ _ hEj).2
  have tk : ∀ {S : List Int}, (∀ j ∈ l.take k, ((j : Nat) : Int) ∈ S) → (j : Int) ∈ S → ∀ j ∈ l.take (k + 1), ((j : Nat) : Int) ∈ S := fun {S} h h2 j' hj' => by
    rw [List.take_add_one, hj] at hj'
    rcases List.mem_append.mp hj' with q | q
    · exact h j' q
    · rw [List.mem_singleton.mp q]; exact h2
  by_cases hin : (j : Int) ∈ ks s1'
  · rw [isS hin]
    exact ⟨_, rfl, g1, g2, g3, tk g4 hin, g5⟩
  rw [isN hin]
  simp (config := { implicitDefEqProofs := false }) only [Bool.not_false, if_true]
  have hlen := g1.len
  rw [dputI_ok (by omega) hin]
  obtain ⟨y, ey, hy⟩ := hD j (hiD j hEj)
  have hal : j < a.length := by rw [hA.len]; exact hjn
  have ea : R.ix a (j : Int) = .ok (some (y : Int)) := by
    rw [ix_nat hal]
    rw [List.getElem?_eq_getElem hal] at ey
    exact congrArg R.ok (Option.some.inj ey)
  simp (config := { implicitDefEqProofs := false }) only [R.to_ok, R.bind_ok, ea, R.opt]
  have sk1 := g1.put (v := true) hjn hin
  generalize hd2 : (⟨s1'.l ++ [((j : Int), true)]⟩ : Dk Int Bool) = d2 at sk1 ⊢
  have k2 : ∀ x, x ∈ ks d2 ↔ x ∈ ks s1' ∨ x = (j : Int) := fun x => by rw [← hd2]; exact ks_app
  have hd2l : d2.l.length = s1'.l.length + 1 := by rw [← hd2]; simp
  have hd2n := sk1.len
  obtain ⟨i0, ei0, hEi0⟩ := hA.ed j _ ey
  have : y = i0 := by omega
  subst this
  have hyj := (L.hE _ _ hEi0).1
  have up1 : ∀ {S : List Int} {T2 : List Int}, (∀ z, z ∈ T1 → z ∈ T2) → ((y : Int) ∈ ks d1 ∨ (y : Int) ∈ T2) → ∀ j' : Nat, (j' : Int) ∈ ks d2 → ∃ i : Int, a[j']? = some (some i) ∧ (i ∈ ks d1 ∨ i ∈ T2) := fun {S T2} h1 h2 j' hj' => by
    rcases (k2 _).mp hj' with z | z
    · obtain ⟨i, e, q⟩ := g2.up j' z
      exact ⟨i, e, q.imp id (h1 i)⟩
    · have : j' = j := by omega
      subst this
      exact ⟨_, ey, h2⟩
  by_cases hf1 : (y : Int) ∈ ks d1
  · rw [isS hf1]
    refine ⟨_, rfl, sk1, ⟨g2.t, g2.fr, up1 (S := []) (fun _ h => h) (.inl hf1), fun i' hi' => ?_, fun j' hj' => ?_, g2.de⟩, fun x hx => (k2 x).mpr (.inl (g3 x hx)), tk (fun j hj => (k2 _).mpr (.inl (g4 j hj))) ((k2 _).mpr (.inr rfl)), by dsimp only; omega⟩
    · rcases g2.bk i' hi' with z | ⟨j', z1, z2⟩
      · exact .inl z
      · exact .inr ⟨j', (k2 _).mpr (.inl z1), z2⟩
    · rcases (k2 _).mp hj' with z | z
      · exact g2.dd j' z
      · have : j' = j := by omega
        subst this
        exact hiD _ hEj
  · rw [isN hf1]
    simp (config := { implicitDefEqProofs := false }) only [Bool.not_false, if_true]
    rw [apd_ok (by simp at p5; omega)]
    refine ⟨_, rfl, sk1, ⟨fun x hx => ?_, fun x hx => (g2.fr x hx).imp id fun z => by simp [z], up1 (S := []) (fun z h => by simp [h]) (.inr (by simp)), fun i' hi' => ?_, fun j' hj' => ?_, fun i' hi' j' e => ?_⟩, fun x hx => (k2 x).mpr (.inl (g3 x hx)), tk (fun j hj => (k2 _).mpr (.inl (g4 j hj))) ((k2 _).mpr (.inr rfl)), by dsimp only; simp; omega⟩
    · rcases List.mem_append.mp hx with z | z
      · exact g2.t x z
      · rw [List.mem_singleton.mp z]; omega
    · rcases hi' with z | z
      · rcases g2.bk i' (.inl z) with z | ⟨j', z1, z2⟩
        · exact .inl z
        · exact .inr ⟨j', (k2 _).mpr (.inl z1), z2⟩
      · rcases List.mem_append.mp z with z | z
        · rcases g2.bk i' (.inr z) with z | ⟨j', z1, z2⟩
          · exact .inl z
          · exact .inr ⟨j', (k2 _).mpr (.inl z1), z2⟩
        · rw [List.mem_singleton.mp z]
          exact .inr ⟨j, (k2 _).mpr (.inr rfl), ey⟩
    · rcases (k2 _).mp hj' with z | z
      · exact g2.dd j' z
      · have : j' = j := by omega
        subst this
        exact hiD _ hEj
    · rcases hi' with z | z
      · exact g2.de i' (.inl z) j' e
      · rcases List.mem_append.mp z with z | z
        · exact g2.de i' (.inr z) j' e
        · have : i' = y := by have := List.mem_singleton.mp z; omega
          subst this
          exact hy j' e

/-! ### ancestors, heads -/
inductive Anc (a : List (Option Int)) : Nat → Nat → Prop
  | one {x y : Nat} : a[y]? = some (some (x : Int)) → Anc a x y
  | step {x z y : Nat} : Anc a x z → a[y]? = some (some (z : Int)) → Anc a x y
theorem Anc.E {n : Nat} {E : Nat → Nat → Prop} {a : List (Option Int)} (h : PR n E a) (tr : ∀ i j k, E i j → E j k → E i k) {x y : Nat} (q : Anc a x y) : E x y := by
  induction q with
  | one e =>
    obtain ⟨i', ei, hE⟩ := h.ed _ _ e
    have := Int.ofNat.inj ei
    exact this ▸ hE
  | step _ e ih =>
    obtain ⟨i', ei, hE⟩ := h.ed _ _ e
    have := Int.ofNat.inj ei
    exact tr _ _ _ ih (this ▸ hE)
theorem Anc.nxt {n : Nat} {E : Nat → Nat → Prop} {a : List (Option Int)} (h : FIN n E a) {i z : Nat} (q : Anc a i z) {x : Nat} (hx : a[x]? = some (some (i : Int))) : x = z ∨ Anc a x z := by
  induction q with
  | one e => exact .inl (h.inj hx e)
  | step _ e ih =>
    rcases ih with z | z
    · exact .inr (.one (z ▸ e))
    · exact .inr (.step z e)
def prev (a : List (Option Int)) (x : Nat) : Option Nat := match a[x]? with
  | some (some i) => some i.toNat
  | _ => none
theorem prev_some {n : Nat} {E : Nat → Nat → Prop} {a : List (Option Int)} (h : PR n E a) {x i : Nat} (q : prev a x = some i) : a[x]? = some (some (i : Int)) ∧ E i x := by
  unfold prev at q
  cases e : a[x]? with
  | none => rw [e] at q; cases q
  | some o =>
    rw [e] at q
    cases o with
    | none => cases q
    | some y =>
      obtain ⟨i', ei, hE⟩ := h.ed _ _ e
      subst ei
      have : i' = i := by simpa using q
      subst this
      exact ⟨rfl, hE⟩
theorem prev_none {n : Nat} {E : Nat → Nat → Prop} {a : List (Option Int)} (h : PR n E a) {x : Nat} (hx : x < n) (q : prev a x = none) : a[x]? = some none := by
  unfold prev at q
  cases e : a[x]? with
  | none =>
    rw [List.getElem?_eq_none_iff, h.len] at e
    omega
  | some o =>
    rw [e] at q
    cases o with
    | none => rfl
    | some y => cases q
def up (a : List (Option Int)) : Nat → Nat → Nat
  | 0, x => x
  | k + 1, x => match prev a x with
    | some i => up a k i
    | none => x
theorem up_anc {n : Nat} {E : Nat → Nat → Prop} {a : List (Option Int)} (h : PR n E a) : ∀ k z : Nat, up a k z = z ∨ Anc a (up a k z) z
  | 0, z => .inl rfl
  | k + 1, z => by
    unfold up
    cases e : prev a z with
    | none => exact .inl rfl
    | some i =>
      dsimp only
      have ei := (prev_some h e).1
      rcases up_anc h k i with q | q
      · rw [q]; exact .inr (.one ei)
      · exact .inr (.step q ei)
theorem up_same {n : Nat} {E : Nat → Nat → Prop} {a : List (Option Int)} (h : FIN n E a) : ∀ k x y : Nat, up a k x = up a k y → x = y ∨ Anc a x y ∨ Anc a y x
  | 0, x, y, q => .inl q
  | k + 1, x, y, q => by
    unfold up at q
    cases ex : prev a x with
    | none =>
      cases ey : prev a y with
      | none => rw [ex, ey] at q; exact .inl q
      | some i' =>
        rw [ex, ey] at q
        dsimp only at q
        have e2 := (prev_some h.pr ey).1
        rcases up_anc h.pr k i' with z | z
        · rw [z] at q; subst q; exact .inr (.inl (.one e2))
        · rw [← q] at z; exact .inr (.inl (.step z e2))
    | some i =>
      have e1 := (prev_some h.pr ex).1
      cases ey : prev a y with
      | none =>
        rw [ex, ey] at q
        dsimp only at q
        rcases up_anc h.pr k i with z | z
        · rw [z] at q; subst q; exact .inr (.inr (.one e1))
        · rw [q] at z; exact .inr (.inr (.step z e1))
      | some i' =>
        rw [ex, ey] at q
        dsimp only at q
        have e2 := (prev_some h.pr ey).1
        rcases up_same h k i i' q with z | z | z
        · subst z; exact .inl (h.inj e1 e2)
        · rcases z.nxt h e1 with w | w
          · subst w; exact .inr (.inl (.one e2))
          · exact .inr (.inl (.step w e2))
        · rcases z.nxt h e2 with w | w
          · subst w; exact .inr (.inr (.one e1))
          · exact .inr (.inr (.step w e1))
theorem up_head {n : Nat} {E : Nat → Nat → Prop} {a : List (Option Int)} (hE : ∀ i j, E i j → i < j ∧ j < n) (h : PR n E a) : ∀ k x : Nat, x < n → x ≤ k → a[up a k x]? = some none ∧ up a k x < n
  | 0, x, hx, hk => by
    have : x = 0 := by omega
    subst this
    show a[0]? = some none ∧ 0 < n
    cases e : prev a 0 with
    | none => exact ⟨prev_none h hx e, hx⟩
    | some i => exact absurd (hE _ _ (prev_some h e).2).1 (by omega)
  | k + 1, x, hx, hk => by
    unfold up
    cases e : prev a x with
    | none => exact ⟨prev_none h hx e, hx⟩
    | some i =>
      dsimp only
      have := (hE _ _ (prev_some h e).2).1
      exact up_head hE h k i (by omega) (by omega)
/-- those without one ahead -/
def hd (n : Nat) (a : List (Option Int)) : List Nat := (List.range n).filter fun j => (a.getD j none).isNone
theorem nodup_map_on {α β : Type} {f : α → β} : ∀ {l : List α}, l.Nodup → (∀ x ∈ l, ∀ y ∈ l, f x = f y → x = y) → (l.map f).Nodup
  | [], _, _ => List.nodup_nil
  | x :: l, h, hf => by
    obtain ⟨h1, h2⟩ := List.nodup_cons.mp h
    rw [List.map_cons]
    refine List.nodup_cons.mpr ⟨fun z => ?_, nodup_map_on h2 fun a ha b hb => hf a (by simp [ha]) b (by simp [hb])⟩
    obtain ⟨y, hy, e⟩ := List.mem_map.mp z
    have := hf y (by simp [hy]) x (by simp) e
    exact h1 (this ▸ hy)
def Anti (n : Nat) (E : Nat → Nat → Prop) (A : List Nat) : Prop := A.Nodup ∧ (∀ x ∈ A, x < n) ∧ ∀ x ∈ A, ∀ y ∈ A, ¬ E x y
theorem anti_le {n : Nat} {E : Nat → Nat → Prop} {a : List (Option Int)} (hE : ∀ i j, E i j → i < j ∧ j < n) (tr : ∀ i j k, E i j → E j k → E i k) (h : FIN n E a) {A : List Nat} (hA : Anti n E A) : A.length ≤ (hd n a).length := by
  obtain ⟨h1, h2, h3⟩ := hA
  have nd : (A.map (up a n)).Nodup := nodup_map_on h1 fun x hx y hy e => by
    rcases up_same h n x y e with q | q | q
    · exact q
    · exact absurd (q.E h.pr tr) (h3 x hx y hy)
    · exact absurd (q.E h.pr tr) (h3 y hy x hx)
  have := nodup_leG nd (cs := hd n a) fun z hz => by
    obtain ⟨x, hx, e⟩ := List.mem_map.mp hz
    obtain ⟨q1, q2⟩ := up_head hE h.pr n x (h2 x hx) (by have := h2 x hx; omega)
    rw [e] at q1 q2
    refine List.mem_filter.mpr ⟨List.mem_range.mpr q2, ?_⟩
    rw [List.getD_eq_getElem?_getD, q1]
    rfl
  rw [List.length_map] at this
  exact this
/-! ### counts -/
theorem cnt_fm {i : Int} : ∀ l : List (Option Int), (l.filterMap id).count i = l.count (some i)
  | [] => rfl
  | none :: l => by
    have e : (none :: l).filterMap id = l.filterMap id := rfl
    rw [e, cnt_fm l, List.count_cons_of_ne (by simp)]
  | some x :: l => by
    have e : (some x :: l).filterMap id = x :: l.filterMap id := rfl
    rw [e, List.count_cons, List.count_cons, cnt_fm l]
    simp
theorem len_fm : ∀ l : List (Option Int), l.length = (l.filterMap id).length + l.countP Option.isNone
  | [] => rfl
  | none :: l => by
    have e : (none :: l).filterMap id = l.filterMap id := rfl
    rw [e, List.length_cons, len_fm l, List.countP_cons_of_pos (by rfl)]
    omega
  | some x :: l => by
    have e : (some x :: l).filterMap id = x :: l.filterMap id := rfl
    rw [e, List.length_cons, List.length_cons, List.countP_cons_of_neg (by simp)]
    have := len_fm l
    omega
theorem list_getDO (l : List (Option Int)) : l = (List.range l.length).map fun i => l.getD i none := by
  refine List.ext_getElem? fun i => ?_
  rw [List.getElem?_map]
  by_cases h : i < l.length
  · rw [List.getElem?_range h, List.getElem?_eq_getElem h]
    show some l[i] = some (l.getD i none)
    rw [List.getD_eq_getElem?_getD, List.getElem?_eq_getElem h]
    rfl
  · rw [List.getElem?_eq_none (by omega), List.getElem?_eq_none (by simp; omega)]
    rfl
theorem hd_len {n : Nat} {a : List (Option Int)} (h : a.length = n) : (hd n a).length + (a.filterMap id).length = n := by
  have e := len_fm a
  have e2 : a.countP Option.isNone = (hd n a).length := by
    have := congrArg (List.countP Option.isNone) (list_getDO a)
    rw [this, List.countP_map, h]
    unfold hd
    rw [List.countP_eq_length_filter]
    rfl
  omega
theorem flt_len {α : Type} (p : α → Bool) : ∀ l : List α, (l.filter p).length + (l.filter fun x => !p x).length = l.length
  | [] => rfl
  | x :: l => by
    have := flt_len p l
    cases h : p x <;> simp [h] <;> omega
theorem rng_cI (n : Nat) : rng 0 (n : Int) = cI (List.range n) := by
  unfold rng cI
  have : ((n : Int) - 0).toNat = n := by omega
  rw [this]
  refine List.map_congr_left fun i _ => ?_
  omega
theorem cI_nodup {l : List Nat} (h : l.Nodup) : (cI l).Nodup := nodup_map_on h fun x _ y _ e => by omega
theorem rng_nodup (n : Nat) : (rng 0 (n : Int)).Nodup := by
  rw [rng_cI]
  exact cI_nodup List.nodup_range
structure FB (n : Nat) (E : Nat → Nat → Prop) (a : List (Option Int)) (r : List (List Int) × List Int) : Prop where
  fin : FIN n E a
  len : r.1.length = (hd n a).length
  ch : ∀ (k x : Nat), (hd n a)[k]? = some x → ∃ rr : List Nat, r.1[k]? = some (cI (x :: rr)) ∧ Pth a x rr
  ap : ∃ A : List Nat, r.2 = cI A ∧ Anti n E A
  eq : r.1.length = r.2.length
  max : ∀ A, Anti n E A → A.length ≤ r.1.length
theorem blocks_ok {states : List Int} (hn : states.length ≤ 69) (hp : ∀ x ∈ states, 0 ≤ x) : RS (fun r => ∃ a, FB states.length (EE states) a r) (m_fewest_blocks states) := by
  obtain ⟨later, el, L⟩ := later_ok hn
  generalize hN : states.length = n at *
  generalize hEE : EE states = E at *
  have tr : ∀ i j k, E i j → E j k → E i k := by rw [← hEE]; exact fun i j k h1 h2 => EE_trans hp h1 h2
  have hE := L.hE
  have er : R.rep [(none : Option Int)] (n : Int) = .ok (List.replicate n none) := by
    unfold R.rep
    rw [if_pos ⟨by omega, by omega, by rw [sl_eq]; simp; omega⟩]
    congr 1
    simp
  have eg : R.rng 0 (n : Int) = .ok (rng 0 n) := rng_ok (by decide) (by decide) (by omega) (by omega)
  unfold m_fewest_blocks
  refine run_of ?_
  unfold m_fewest_blocks_b
  simp (config := { implicitDefEqProofs := false }) only [lt, hN, el, er, eg, R.opt, R.bind_ok, R.to_ok]
  refine os_bind (M := FIN n E) (os_for (fun k a => TU n E k a) TU.start (fun k x a hx p => ?_) fun a p => by rw [rng_len] at p; have e : ((n : Int) - 0).toNat = n := (by omega); rw [e] at p; exact p.fin) fun a F => ?_
  · obtain ⟨ex, hk⟩ := rng_natK hx
    subst ex
    obtain ⟨r, er, hr⟩ := p.step L hk
    rw [er]
    exact os_nx hr
  have la := F.pr.len
  refine os_bind (M := NX n a n) (os_for (fun k d => NX n a k d) NX.start (fun k x d hx p => ?_) fun d p => by rw [enum_len, la] at p; exact p) fun d N => ?_
  · obtain ⟨e1, e2⟩ := enum_getK hx
    obtain ⟨x1, x2⟩ := x
    dsimp only at e1 e2 ⊢
    subst e1
    have hk : k < n := by rw [← la]; exact (List.getElem?_eq_some_iff.mp e2).1
    cases x2 with
    | none =>
      refine os_nx ⟨p.sk, fun i j => ?_⟩
      rw [p.get]
      constructor
      · rintro ⟨j', h1, h2, h3⟩
        exact ⟨j', by omega, h2, h3⟩
      · rintro ⟨j', h1, h2, h3⟩
        refine ⟨j', ?_, h2, h3⟩
        by_cases q : j' = k
        · subst q; rw [e2] at h3; cases h3
        · omega
    | some y =>
      simp (config := { implicitDefEqProofs := false }) only [Option.isSome_some, if_true, R.to_ok]
      obtain ⟨i', ei, hEi⟩ := F.pr.ed k y e2
      subst ei
      have hi := hE _ _ hEi
      have hnew : (i' : Int) ∉ ks d := fun h => by
        obtain ⟨j', h1, h2⟩ := p.mem.mp h
        have := F.inj e2 h2
        omega
      have dl := p.sk.len
      rw [dputI_ok (by omega) hnew]
      refine os_nx ⟨p.sk.put (by omega) hnew, fun i j => ?_⟩
      rw [dval_app (v := (k : Int)) hnew]
      by_cases q : i = (i' : Int)
      · rw [if_pos q]
        constructor
        · intro h
          exact ⟨k, by omega, (Option.some.inj h).symm, by rw [q]; exact e2⟩
        · rintro ⟨j', h1, h2, h3⟩
          rw [q] at h3
          rw [h2, F.inj e2 h3]
      · rw [if_neg q, p.get]
        constructor
        · rintro ⟨j', h1, h2, h3⟩
          exact ⟨j', by omega, h2, h3⟩
        · rintro ⟨j', h1, h2, h3⟩
          refine ⟨j', ?_, h2, h3⟩
          by_cases z : j' = k
          · subst z
            rw [e2] at h3
            exact absurd (Option.some.inj (Option.some.inj h3)).symm q
          · omega
  -- the chains
  have ea : ∀ {x : Int}, x ∈ rng 0 (n : Int) → R.ix a x = .ok (a.getD x.toNat none) := fun {x} hx => by
    obtain ⟨h1, h2⟩ := rng_mem hx
    obtain ⟨j, rfl⟩ := Int.eq_ofNat_of_zero_le h1
    have hj : j < a.length := by omega
    rw [ix_nat hj, List.getD_eq_getElem?_getD]
    simp [hj]
  have ec : R.lc (rng 0 (n : Int)) (fun x32 : Int => (R.ix a x32).bind fun t35 => R.ok t35.isNone) (fun x32 : Int => m_chain_from x32 d) = .ok (((rng 0 (n : Int)).filter fun x => (a.getD x.toNat none).isNone).map fun x => match m_chain_from x d with
      | .ok c => c
      | _ => []) := by
    refine lc_ok (by rw [rng_len]; omega) (fun x hx => by rw [ea hx]; rfl) fun x hx _ => ?_
    obtain ⟨h1, h2⟩ := rng_mem hx
    obtain ⟨j, rfl⟩ := Int.eq_ofNat_of_zero_le h1
    obtain ⟨c, e, _⟩ := chain_ok hE hn F N (x := j) (by omega)
    rw [e]
  have eh : ((rng 0 (n : Int)).filter fun x => (a.getD x.toNat none).isNone) = cI (hd n a) := by
    rw [rng_cI]
    unfold cI hd
    rw [List.filter_map]
    rfl
  rw [eh] at ec
  generalize hg : (fun x : Int => match m_chain_from x d with
      | .ok c => c
      | _ => []) = g at ec
  have hch : ∀ (k x : Nat), (hd n a)[k]? = some x → ∃ rr : List Nat, ((cI (hd n a)).map g)[k]? = some (cI (x :: rr)) ∧ Pth a x rr := fun k x hx => by
    have hxn : x < n := List.mem_range.mp (List.mem_filter.mp (List.mem_of_getElem? hx)).1
    obtain ⟨c, e, rr, e2, hp⟩ := chain_ok hE hn F N hxn
    refine ⟨rr, ?_, hp⟩
    unfold cI
    rw [List.getElem?_map, List.getElem?_map, hx]
    show some (g (x : Int)) = _
    rw [← hg]
    dsimp only
    rw [e, e2]
  have hm : ∀ {x : Int}, x ∈ (a.filterMap id) ↔ ∃ j : Nat, a[j]? = some (some x) := fun {x} => by
    rw [List.mem_filterMap]
    constructor
    · rintro ⟨o, ho, e⟩
      obtain ⟨j, hj⟩ := List.getElem?_of_mem ho
      exact ⟨j, by rw [hj]; exact congrArg some e⟩
    · rintro ⟨j, hj⟩
      exact ⟨some x, List.mem_of_getElem? hj, rfl⟩
  have hkd : ∀ {x : Int}, x ∈ ks d ↔ ∃ j : Nat, a[j]? = some (some x) := fun {x} => by
    rw [N.mem]
    constructor
    · rintro ⟨j, _, h⟩; exact ⟨j, h⟩
    · rintro ⟨j, h⟩; exact ⟨j, by rw [← la]; exact (List.getElem?_eq_some_iff.mp h).1, h⟩
  have nfm : (a.filterMap id).Nodup := List.nodup_iff_count.mpr fun i => by rw [cnt_fm]; exact F.one i
  -- those free
  generalize hfr : (rng 0 (n : Int)).filter (fun x => !(dval d.l x).isSome) = free
  have hfm : ∀ {x : Int}, x ∈ free ↔ (0 ≤ x ∧ x < (n : Int)) ∧ x ∉ ks d := fun {x} => by
    rw [← hfr, List.mem_filter, mem_rng, isSome_ks]
    unfold ks
    simp
  have nfr : free.Nodup := by rw [← hfr]; exact (rng_nodup n).filter _
  have lfr : free.length + (a.filterMap id).length = n := by
    have h1 := flt_len (fun x => (dval d.l x).isSome) (rng 0 (n : Int))
    have h2 : ((rng 0 (n : Int)).filter fun x => (dval d.l x).isSome).length = (a.filterMap id).length := by
      refine (nodup_perm ((rng_nodup n).filter _) nfm fun x => ?_).length_eq
      rw [List.mem_filter, mem_rng, isSome_ks, hm, ← hkd]
      unfold ks
      simp only [decide_eq_true_eq]
      refine ⟨fun h => h.2, fun h => ⟨N.sk.lt x h, h⟩⟩
    rw [hfr, h2, rng_len] at h1
    omega
  have hlen := hd_len la
  obtain ⟨D, hD, hdd⟩ := F.dead
  obtain ⟨⟨Fd, Pd⟩, eR, k1, k2, k3, k4⟩ := reached_ok L F.pr (free := free) (fun x hx => (hfm.mp hx).1) (by omega) hD fun i hi j e => by
    rcases hdd i (by have := (hfm.mp hi).1; omega) with z | z
    · have : (some (i : Int)) ∈ a := List.count_pos_iff.mp (by omega)
      obtain ⟨j', hj'⟩ := List.getElem?_of_mem this
      exact absurd (hkd.mpr ⟨j', hj'⟩) (hfm.mp hi).2
    · exact z j e
  dsimp only at k1 k2 k3 k4
  rw [ec, lcT_ok (by rw [rng_len]; omega), List.map_id', hfr]
  simp (config := { implicitDefEqProofs := false }) only [R.bind_ok, R.to_ok, eR, R.to2]
  rw [lcT_ok (by rw [rng_len]; omega), List.map_id']
  simp (config := { implicitDefEqProofs := false }) only [R.bind_ok, R.to_ok]
  generalize hap : (rng 0 (n : Int)).filter (fun x => (dval Fd.l x).isSome && !(dval Pd.l x).isSome) = apart
  have ham : ∀ {x : Int}, x ∈ apart ↔ x ∈ ks Fd ∧ x ∉ ks Pd := fun {x} => by
    rw [← hap, List.mem_filter, mem_rng, isSome_ks, isSome_ks]
    show (0 ≤ x ∧ x < (n : Int)) ∧ (decide (x ∈ ks Fd) && !decide (x ∈ ks Pd)) = true ↔ _
    simp only [Bool.and_eq_true, decide_eq_true_eq, Bool.not_eq_true', decide_eq_false_iff_not]
    exact ⟨fun h => h.2, fun h => ⟨k1.lt x h.1, h⟩⟩
  have nap : apart.Nodup := by rw [← hap]; exact (rng_nodup n).filter _
  -- as many at least
  have hval : ∀ x ∈ ks Pd, ∃ i : Int, a[x.toNat]? = some (some i) ∧ i ∈ ks Fd := fun x hx => by
    obtain ⟨j, rfl⟩ := Int.eq_ofNat_of_zero_le (k2.lt x hx).1
    obtain ⟨i, e, q⟩ := k3.up j hx
    exact ⟨i, e, q.elim id fun h => by simp at h⟩
  have hPa : ((ks Pd).map fun x => ((a[x.toNat]?).join).getD 0).Nodup := nodup_map_on k2.nd fun x hx y hy e => by
    obtain ⟨i, e1, _⟩ := hval x hx
    obtain ⟨i', e2, _⟩ := hval y hy
    rw [e1, e2] at e
    have : i = i' := e
    subst this
    have := F.inj e1 e2
    have h1 := (k2.lt x hx).1
    have h2 := (k2.lt y hy).1
    omega
  have hsum : free.length + (ks Pd).length ≤ (ks Fd).length := by
    have := nodup_leG (l := free ++ (ks Pd).map fun x => ((a[x.toNat]?).join).getD 0) (cs := ks Fd) (List.nodup_append.mpr ⟨nfr, hPa, fun x hx y hy e => ?_⟩) fun x hx => ?_
    · rw [List.length_append, List.length_map] at this
      exact this
    · subst e
      obtain ⟨z, hz, ez⟩ := List.mem_map.mp hy
      obtain ⟨i, e1, _⟩ := hval z hz
      rw [e1] at ez
      have : i = x := ez
      subst this
      exact (hfm.mp hx).2 (hkd.mpr ⟨_, e1⟩)
    · rcases List.mem_append.mp hx with z | z
      · exact (k3.fr x z).elim id fun h => by simp at h
      · obtain ⟨y, hy, ey⟩ := List.mem_map.mp z
        obtain ⟨i, e1, q⟩ := hval y hy
        rw [e1] at ey
        have : i = x := ey
        exact this ▸ q
  have hge : free.length ≤ apart.length := by
    have := nodup_leG k1.nd (cs := apart ++ ks Pd) fun x hx => by
      by_cases q : x ∈ ks Pd
      · exact List.mem_append.mpr (.inr q)
      · exact List.mem_append.mpr (.inl (ham.mpr ⟨hx, q⟩))
    rw [List.length_append] at this
    omega
  have pos : ∀ x ∈ apart, 0 ≤ x := fun x hx => (k1.lt x (ham.mp hx).1).1
  have hA : Anti n E (apart.map Int.toNat) := by
    refine ⟨nodup_map_on nap fun x hx y hy e => by have := pos x hx; have := pos y hy; omega, fun x hx => ?_, fun x hx y hy e => ?_⟩
    · obtain ⟨z, hz, ez⟩ := List.mem_map.mp hx
      have := k1.lt z (ham.mp hz).1
      omega
    · obtain ⟨z, hz, ez⟩ := List.mem_map.mp hx
      obtain ⟨z2, hz2, ez2⟩ := List.mem_map.mp hy
      have h1 := ham.mp hz
      have h2 := ham.mp hz2
      have p1 := pos z hz
      have p2 := pos z2 hz2
      refine h2.2 ?_
      have := k4 x (by rw [show (x : Int) = z by omega]; exact h1.1) y e
      rw [show z2 = (y : Int) by omega]
      exact this
  have hle := anti_le hE tr F hA
  rw [List.length_map] at hle
  refine os_rt ⟨a, F, by dsimp only; simp [cI], hch, ⟨apart.map Int.toNat, (coe_toNat pos).symm, hA⟩, by dsimp only; simp [cI]; omega, fun A hA => by dsimp only; simp only [List.length_map]; exact anti_le hE tr F hA⟩

/-! ### benches of the laws about stacks -/
theorem cell_at_ok (s : Sq Int) (k : Int) (h0 : 0 ≤ k) : RS (fun _ => True) (m_cell_at s k) := by
  unfold m_cell_at
  refine run_of ?_
  unfold m_cell_at_b
  simp only [R.bind_ok]
  refine os_if (fun hc => os_abs ?_) fun _ => trivial
  rw [ix_ok h0 (by have := of_decide_eq_true hc; omega)]
  trivial
theorem log2_lt {x : Int} (h0 : 0 ≤ x) (h1 : x < 2 ^ 200) : x.natAbs.log2 < 200 := by
  have hx : x.natAbs < 2 ^ 200 := by omega
  by_cases h : x.natAbs = 0
  · rw [h]; decide
  · exact (Nat.log2_lt h).mpr hx
theorem mulW_ok {x y : Int} (h0 : 0 ≤ x) (h1 : x < 2 ^ 200) (hy : y.natAbs.log2 < 200) : R.mulW x y = .ok (x * y) := by
  unfold R.mulW
  have := log2_lt h0 h1
  exact if_pos (by omega)
theorem mixed_ok (c k : Int) (h0 : 0 ≤ k) (h1 : k ≤ 100000) : RS (fun v => 0 ≤ v ∧ v < 10 ^ 30 + 57) (m_mixed c k) := by
  have k0 : 0 ≤ k * k := Int.mul_nonneg h0 h0
  have k1 : k * k ≤ 100000 * 100000 := Int.mul_le_mul h1 h1 h0 (by decide)
  unfold m_mixed
  refine run_of ?_
  unfold m_mixed_b
  simp only [R.bind_ok]
  rw [mod_ok (show (0 : Int) < 10 ^ Int.toNat 30 by decide), mul_okl (by omega) (by omega)]
  simp only [R.bind_ok]
  have e1 := Int.emod_nonneg c (show (10 : Int) ^ Int.toNat 30 ≠ 0 by decide)
  have e2 := Int.emod_lt_of_pos c (show (0 : Int) < 10 ^ Int.toNat 30 by decide)
  have e3 : (10 : Int) ^ Int.toNat 30 = 1000000000000000000000000000000 := by decide
  rw [e3] at e1 e2 ⊢
  rw [mulW_ok (by omega) (by omega) (by decide)]
  simp only [R.bind_ok]
  rw [mod_ok (by decide)]
  exact os_rt ⟨Int.emod_nonneg _ (by decide), Int.emod_lt_of_pos _ (by decide)⟩

/-! ### how broad states are -/
def Wid (st : List Int) (w : Nat) : Prop := (∃ A, Anti st.length (EE st) A ∧ A.length = w) ∧ ∀ A, Anti st.length (EE st) A → A.length ≤ w
theorem FB.wid {st : List Int} {a : List (Option Int)} {r : List (List Int) × List Int} (h : FB st.length (EE st) a r) : Wid st r.1.length := by
  obtain ⟨A, e, hA⟩ := h.ap
  refine ⟨⟨A, hA, ?_⟩, h.max⟩
  rw [h.eq, e]
  simp
theorem Wid.uniq {st : List Int} {w w' : Nat} (h : Wid st w) (h' : Wid st w') : w = w' := by
  obtain ⟨⟨A, hA, e⟩, m⟩ := h
  obtain ⟨⟨A', hA', e'⟩, m'⟩ := h'
  have := m A' hA'
  have := m' A hA
  omega
theorem nodup_one {A : List Nat} {k : Nat} (nd : A.Nodup) (h : ∀ x ∈ A, x = k) : A.length ≤ 1 := by
  have := nodup_leG nd (cs := [k]) fun x hx => by rw [h x hx]; simp
  exact this

/-! families and chains -/
def fst_ (t : Nat → Nat) (k : Nat) : Bool := (List.range k).all fun i => decide (t i ≠ t k)
def fam (t : Nat → Nat) (n x : Nat) : List Nat := (List.range n).filter fun k => decide (t k = t x)
theorem fst_iff {t : Nat → Nat} {k : Nat} : fst_ t k = true ↔ ∀ i, i < k → t i ≠ t k := by
  unfold fst_
  rw [List.all_eq_true]
  constructor
  · intro h i hi
    exact of_decide_eq_true (h i (List.mem_range.mpr hi))
  · intro h i hi
    exact decide_eq_true (h i (List.mem_range.mp hi))
theorem fst_ex {t : Nat → Nat} : ∀ k : Nat, ∃ f, f ≤ k ∧ fst_ t f = true ∧ t f = t k := by
  intro k
  induction k using Nat.strongRecOn with
  | ind k ih =>
    by_cases h : fst_ t k = true
    · exact ⟨k, Nat.le_refl _, h, rfl⟩
    · rw [fst_iff] at h
      have : ∃ i, i < k ∧ t i = t k := Classical.byContradiction fun c => h fun i hi e => c ⟨i, hi, e⟩
      obtain ⟨i, hi, e⟩ := this
      obtain ⟨f, h1, h2, h3⟩ := ih i hi
      exact ⟨f, by omega, h2, h3.trans e⟩
theorem flt_eq {α : Type} {p q : α → Bool} : ∀ {l : List α}, (∀ x ∈ l, p x = true → q x = true) → (l.filter q).length ≤ (l.filter p).length → l.filter p = l.filter q
  | [], _, _ => rfl
  | x :: l, h, hl => by
    have hx := h x (by simp)
    have h' : ∀ y ∈ l, p y = true → q y = true := fun y hy => h y (by simp [hy])
    have le : (l.filter p).length ≤ (l.filter q).length := by
      rw [← List.countP_eq_length_filter, ← List.countP_eq_length_filter]
      exact List.countP_mono_left h'
    cases ep : p x with
    | true =>
      have eq := hx ep
      rw [List.filter_cons_of_pos ep, List.filter_cons_of_pos eq] at hl ⊢
      rw [flt_eq h' (by simpa using hl)]
    | false =>
      cases eq : q x with
      | true =>
        rw [List.filter_cons_of_neg (p := p) (by simp [ep]), List.filter_cons_of_pos eq, List.length_cons] at hl
        omega
      | false =>
        rw [List.filter_cons_of_neg (p := p) (by simp [ep]), List.filter_cons_of_neg (p := q) (by simp [eq])] at hl ⊢
        exact flt_eq h' hl
section
variable {n : Nat} {E : Nat → Nat → Prop} {a : List (Option Int)} {r : List (List Int) × List Int} {t : Nat → Nat}
theorem hd_fst (h : FB n E a r) (hE : ∀ i j, E i j ↔ i < j ∧ j < n ∧ t i = t j) : hd n a = (List.range n).filter (fst_ t) := by
  symm
  unfold hd
  refine flt_eq (fun x hx hf => ?_) ?_
  · rw [fst_iff] at hf
    have hxn := List.mem_range.mp hx
    rw [List.getD_eq_getElem?_getD]
    have hla : x < a.length := by rw [h.fin.pr.len]; exact hxn
    cases e : a[x]? with
    | none => rfl
    | some o =>
      cases o with
      | none => rfl
      | some i =>
        obtain ⟨i', _, hi⟩ := h.fin.pr.ed x i e
        obtain ⟨h1, _, h3⟩ := (hE _ _).mp hi
        exact absurd h3 (hf i' h1)
  · obtain ⟨A, e, h1, h2, h3⟩ := h.ap
    have el : A.length = (hd n a).length := by
      have := h.eq
      rw [e, h.len] at this
      simp at this
      exact this.symm
    have nd : (A.map t).Nodup := nodup_map_on h1 fun x hx y hy q => by
      by_cases z : x < y
      · exact absurd ((hE _ _).mpr ⟨z, h2 y hy, q⟩) (h3 x hx y hy)
      · by_cases z2 : y < x
        · exact absurd ((hE _ _).mpr ⟨z2, h2 x hx, q.symm⟩) (h3 y hy x hx)
        · omega
    have := nodup_leG nd (cs := ((List.range n).filter (fst_ t)).map t) fun z hz => by
      obtain ⟨x, hx, ex⟩ := List.mem_map.mp hz
      obtain ⟨f, f1, f2, f3⟩ := fst_ex (t := t) x
      have := h2 x hx
      exact List.mem_map.mpr ⟨f, List.mem_filter.mpr ⟨List.mem_range.mpr (by omega), f2⟩, f3.trans ex⟩
    rw [List.length_map, List.length_map, el] at this
    exact this
theorem pth_mem (F : FIN n E a) : ∀ (r : List Nat) (x : Nat), Pth a x r → ∀ y, Anc a x y → y ∈ r := by
  intro r x hp y hy
  have step : ∀ (r : List Nat) (x : Nat), Pth a x r → ∀ z y, z ∈ x :: r → a[y]? = some (some (z : Int)) → y ∈ r := by
    intro r
    induction r with
    | nil =>
      intro x hp z y hz e
      rw [List.mem_singleton.mp hz] at e
      exact absurd e (hp y)
    | cons w r ih =>
      intro x hp z y hz e
      obtain ⟨p1, p2⟩ := hp
      rcases List.mem_cons.mp hz with q | q
      · rw [q] at e
        rw [F.inj e p1]
        simp
      · exact List.mem_cons_of_mem _ (ih w p2 z y q e)
  induction hy with
  | one e => exact step r _ hp _ _ (by simp) e
  | step _ e ih => exact step r _ hp _ _ (List.mem_cons_of_mem _ ih) e
theorem pth_all (h : PR n E a) (hE : ∀ i j, E i j ↔ i < j ∧ j < n ∧ t i = t j) : ∀ (r : List Nat) (x : Nat), Pth a x r → (x :: r).Pairwise (· < ·) ∧ ∀ y ∈ r, y < n ∧ t y = t x
  | [], x, _ => ⟨List.pairwise_singleton _ _, by simp⟩
  | y :: r, x, ⟨p1, p2⟩ => by
    obtain ⟨i', ei, hi⟩ := h.ed _ _ p1
    have : x = i' := by omega
    subst this
    obtain ⟨e1, e2, e3⟩ := (hE _ _).mp hi
    obtain ⟨q1, q2⟩ := pth_all h hE r y p2
    refine ⟨List.pairwise_cons.mpr ⟨fun z hz => ?_, q1⟩, fun z hz => ?_⟩
    · rcases List.mem_cons.mp hz with q | q
      · rw [q]; exact e1
      · exact Nat.lt_trans e1 ((List.pairwise_cons.mp q1).1 z q)
    · rcases List.mem_cons.mp hz with q | q
      · rw [q]; exact ⟨e2, e3.symm⟩
      · exact ⟨(q2 z q).1, (q2 z q).2.trans e3.symm⟩
theorem chain_fam (h : FB n E a r) (hE : ∀ i j, E i j ↔ i < j ∧ j < n ∧ t i = t j) {x : Nat} (hx : x ∈ hd n a) {rr : List Nat} (hp : Pth a x rr) : x :: rr = fam t n x := by
  have tr : ∀ i j k, E i j → E j k → E i k := fun i j k h1 h2 => by
    obtain ⟨a1, a2, a3⟩ := (hE _ _).mp h1
    obtain ⟨b1, b2, b3⟩ := (hE _ _).mp h2
    exact (hE _ _).mpr ⟨by omega, b2, a3.trans b3⟩
  have hE2 : ∀ i j, E i j → i < j ∧ j < n := fun i j q => ⟨((hE _ _).mp q).1, ((hE _ _).mp q).2.1⟩
  obtain ⟨q1, q2⟩ := pth_all h.fin.pr hE rr x hp
  have hxn : x < n := List.mem_range.mp (List.mem_filter.mp hx).1
  have hfx : fst_ t x = true := by rw [hd_fst h hE] at hx; exact (List.mem_filter.mp hx).2
  have pw : (fam t n x).Pairwise (· < ·) := List.pairwise_lt_range.filter _
  have nd1 : (x :: rr).Nodup := q1.imp fun h => by omega
  have nd2 : (fam t n x).Nodup := pw.imp fun h => by omega
  refine sorted_uniq (le := (· ≤ ·)) (fun a b h k => Nat.le_antisymm h k) (nodup_perm nd1 nd2 fun y => ?_) (q1.imp fun h => by omega) (pw.imp fun h => by omega)
  unfold fam
  rw [List.mem_filter, List.mem_range, decide_eq_true_eq]
  constructor
  · intro hy
    rcases List.mem_cons.mp hy with q | q
    · rw [q]; exact ⟨hxn, rfl⟩
    · exact q2 y q
  · rintro ⟨hyn, e⟩
    obtain ⟨u1, u2⟩ := up_head hE2 h.fin.pr n y hyn (by omega)
    have hh : up a n y ∈ hd n a := List.mem_filter.mpr ⟨List.mem_range.mpr u2, by rw [List.getD_eq_getElem?_getD, u1]; rfl⟩
    rw [hd_fst h hE] at hh
    have hf := (List.mem_filter.mp hh).2
    rcases up_anc h.fin.pr n y with q | q
    · rw [q] at hf
      rw [fst_iff] at hf hfx
      by_cases z : x < y
      · exact absurd e.symm (hf x z)
      · by_cases z2 : y < x
        · exact absurd e (hfx y z2)
        · have : y = x := by omega
          rw [this]; simp
    · have e2 := ((hE _ _).mp (q.E h.fin.pr tr)).2.2
      rw [fst_iff] at hf hfx
      have : up a n y = x := by
        by_cases z : x < up a n y
        · exact absurd (e2.trans e).symm (hf x z)
        · by_cases z2 : up a n y < x
          · exact absurd (e2.trans e) (hfx _ z2)
          · omega
      rw [this] at q
      exact List.mem_cons_of_mem _ (pth_mem h.fin rr x hp y q)
theorem chains_fam (h : FB n E a r) (hE : ∀ i j, E i j ↔ i < j ∧ j < n ∧ t i = t j) : r.1 = ((List.range n).filter (fst_ t)).map fun x => cI (fam t n x) := by
  rw [← hd_fst h hE]
  refine List.ext_getElem? fun k => ?_
  rw [List.getElem?_map]
  cases e : (hd n a)[k]? with
  | none =>
    rw [List.getElem?_eq_none_iff] at e
    rw [List.getElem?_eq_none (by rw [h.len]; exact e)]
    rfl
  | some x =>
    obtain ⟨rr, e1, e2⟩ := h.ch k x e
    rw [e1, chain_fam h hE (List.mem_of_getElem? e) e2]
    rfl
end

theorem fm_congr {α β : Type} {f g : α → Option β} : ∀ {l : List α}, (∀ x ∈ l, f x = g x) → l.filterMap f = l.filterMap g
  | [], _ => rfl
  | a :: l, h => by
    rw [List.filterMap_cons, List.filterMap_cons, h a List.mem_cons_self, fm_congr fun x hx => h x (List.mem_cons_of_mem _ hx)]
theorem fm_self {α : Type} : ∀ l : List α, (List.range l.length).filterMap (fun k => l[k]?) = l
  | [] => rfl
  | a :: l => by
    rw [List.length_cons, List.range_succ_eq_map, List.filterMap_cons, List.filterMap_map]
    show a :: _ = _
    congr 1
    exact fm_self l
theorem pick_rev {α : Type} {l : List α} (h : l.length ≤ 16777216) : R.pickv l none none (some (-1)) = .ok l.reverse := by
  have e : pickL l none none (-1) = l.reverse := by
    unfold pickL
    have hb : sliceBounds none none (some (-1)) l.length = ((l.length : Int) - 1, -1, -1) := by
      unfold sliceBounds
      simp
    rw [hb]
    unfold sliceRange
    have hc : (if (-1 : Int) > 0 then if (l.length : Int) - 1 < -1 then (-1 - ((l.length : Int) - 1) + -1 - 1) / -1 else 0 else if (l.length : Int) - 1 > -1 then ((l.length : Int) - 1 - -1 - -1 - 1) / -(-1) else 0) = (l.length : Int) := by
      rw [if_neg (by decide)]
      split
      · rw [show (-(-1) : Int) = 1 by decide, Int.ediv_one]; omega
      · omega
    dsimp only
    rw [hc, Int.toNat_natCast, List.filterMap_map]
    have := fm_self l.reverse
    rw [List.length_reverse] at this
    rw [← this]
    refine fm_congr fun k hk => ?_
    rw [List.mem_range] at hk
    show l[((l.length : Int) - 1 + -1 * (k : Int)).toNat]? = _
    rw [List.getElem?_reverse hk]
    congr 1
    omega
  unfold R.pickv
  dsimp only
  rw [if_pos (by decide)]
  unfold R.pick
  rw [e]
  exact if_pos (by rw [sl_eq, List.length_reverse]; exact h)

/-! ### states each within the one ahead -/
def SUB (x y : Int) : Prop := ∀ k, x.toNat.testBit k = true → y.toNat.testBit k = true
theorem SUB.refl (x : Int) : SUB x x := fun _ h => h
theorem SUB.trans {x y z : Int} (h : SUB x y) (k : SUB y z) : SUB x z := fun b hb => k b (h b hb)
theorem SUB.le {x y : Int} (hx : 0 ≤ x) (hy : 0 ≤ y) (h : SUB x y) : x ≤ y := by
  have e : x.toNat &&& y.toNat = x.toNat := Nat.eq_of_testBit_eq fun k => by
    rw [Nat.testBit_and]
    cases q : x.toNat.testBit k with
    | false => rfl
    | true => rw [h k q]; rfl
  have : x.toNat &&& y.toNat ≤ y.toNat := Nat.and_le_right
  omega
theorem bit_sub {u k : Nat} (h : u.testBit k = true) (j : Nat) (hj : (u - 2 ^ k).testBit j = true) : u.testBit j = true := by
  have hb := h
  rw [Nat.testBit_eq_decide_div_mod_eq, decide_eq_true_eq] at hb
  have p : 0 < 2 ^ k := Nat.pos_of_ne_zero (by simp)
  generalize hq : u / 2 ^ k = q at hb
  generalize hr : u % 2 ^ k = r
  have hrl : r < 2 ^ k := by rw [← hr]; exact Nat.mod_lt _ p
  have eu : u = 2 ^ k * q + r := by rw [← hq, ← hr]; exact (Nat.div_add_mod u (2 ^ k)).symm
  obtain ⟨m, rfl⟩ : ∃ m, q = 2 * m + 1 := ⟨q / 2, by omega⟩
  have es : u - 2 ^ k = 2 ^ k * (2 * m) + r := by
    rw [eu, Nat.mul_add, Nat.mul_one]
    omega
  rw [es, Nat.testBit_two_pow_mul_add _ hrl] at hj
  rw [eu, Nat.testBit_two_pow_mul_add _ hrl]
  split at hj
  · rename_i c; rw [if_pos c]; exact hj
  · rename_i c
    rw [if_neg c]
    cases e : j - k with
    | zero => rw [Nat.testBit_zero]; simp
    | succ i =>
      rw [e] at hj
      rw [Nat.testBit_succ] at hj ⊢
      have e1 : (2 * m + 1) / 2 = m := by omega
      have e2 : (2 * m) / 2 = m := by omega
      rw [e1]; rw [e2] at hj; exact hj
/-- a state: a nat below 2^577 -/
@[irreducible] def BB : Nat := 2 ^ 577
def BIG (x : Int) : Prop := ∃ u : Nat, x = (u : Int) ∧ u < BB
theorem BIG.pos {x : Int} (h : BIG x) : 0 ≤ x := by
  obtain ⟨u, rfl, _⟩ := h
  exact Int.natCast_nonneg _
structure NS (l : List Int) : Prop where
  big : ∀ x ∈ l, BIG x
  pw : l.Pairwise fun x y => SUB y x
theorem NS.ins {l : List Int} (h : NS l) {i : Nat} (hi : i < l.length) : NS (l.take i ++ [l[i]] ++ l.drop i) := by
  have e : l.take i ++ l.drop i = l := List.take_append_drop i l
  have ed : l.drop i = l[i] :: l.drop (i + 1) := List.drop_eq_getElem_cons hi
  have pw := h.pw
  rw [← e, List.pairwise_append] at pw
  obtain ⟨p1, p2, p3⟩ := pw
  refine ⟨fun x hx => h.big x ?_, ?_⟩
  · rw [List.append_assoc, List.mem_append, List.mem_append, List.mem_singleton] at hx
    rcases hx with q | q | q
    · exact List.mem_of_mem_take q
    · rw [q]; exact List.getElem_mem hi
    · exact List.mem_of_mem_drop q
  · rw [List.append_assoc, List.pairwise_append]
    refine ⟨p1, ?_, fun a ha b hb => ?_⟩
    · show (l[i] :: l.drop i).Pairwise _
      refine List.pairwise_cons.mpr ⟨fun b hb => ?_, p2⟩
      rw [ed] at hb p2
      rcases List.mem_cons.mp hb with q | q
      · rw [q]; exact SUB.refl _
      · exact (List.pairwise_cons.mp p2).1 b q
    · rcases List.mem_append.mp hb with q | q
      · rw [List.mem_singleton.mp q]
        exact p3 a ha _ (by rw [ed]; exact List.mem_cons_self)
      · exact p3 a ha b q
theorem lc_flK {xs : List Int} {p : Int → R Bool} {p' : Int → Bool} (hl : xs.length ≤ 16777216) (hp : ∀ x, x ∈ xs → p x = .ok (p' x)) : R.lc xs p (fun x => R.ok x) = .ok (xs.filter p') := lc_fl hl hp
theorem shr_nat {u k : Nat} : R.shr (u : Int) (k : Int) = .ok ((u / 2 ^ k : Nat) : Int) := by
  unfold R.shr
  rw [if_pos (Int.natCast_nonneg _), Int.toNat_natCast]
  have : ((2 : Int) ^ k) = ((2 ^ k : Nat) : Int) := by simp
  rw [this]
  rfl
theorem shl_one {k : Nat} (h : k ≤ 1000) : R.shl (1 : Int) (k : Int) = .ok ((2 ^ k : Nat) : Int) := by
  unfold R.shl
  rw [if_pos ⟨Int.natCast_nonneg _, by omega, by decide⟩, Int.toNat_natCast]
  congr 1
  simp
theorem bit_mod {u k : Nat} : ((u / 2 ^ k : Nat) : Int) % 2 = 1 ↔ u.testBit k = true := by
  rw [Nat.testBit_eq_decide_div_mod_eq, decide_eq_true_eq]
  omega
theorem nested_ok (ns : List Int) (hns : ns.length ≤ 63) {c : Nat} (c0 : 1 ≤ c) (c1 : c ≤ 576) : RS (fun l => NS l ∧ 1 ≤ l.length ∧ l.length ≤ 40) (m_nested ⟨ns⟩ (c : Int)) := by
  unfold m_nested
  refine run_of ?_
  unfold m_nested_b
  have em : ∃ m : Nat, (if (if ((ns.length : Int) - (2 : Int)) > (1 : Int) then ((ns.length : Int) - (2 : Int)) else (1 : Int)) < (40 : Int) then (if ((ns.length : Int) - (2 : Int)) > (1 : Int) then ((ns.length : Int) - (2 : Int)) else (1 : Int)) else (40 : Int)) = (m : Int) ∧ 1 ≤ m ∧ m ≤ 40 := by
    by_cases q : (ns.length : Int) - 2 > 1
    · rw [if_pos q]
      by_cases q2 : (ns.length : Int) - 2 < 40
      · rw [if_pos q2]; exact ⟨ns.length - 2, by omega, by omega, by omega⟩
      · rw [if_neg q2]; exact ⟨40, rfl, by omega, by omega⟩
    · rw [if_neg q]; exact ⟨1, rfl, by omega, by omega⟩
  obtain ⟨m, em, m1, m2⟩ := em
  simp (config := { implicitDefEqProofs := false }) only [em, R.bind_ok, shl_one (k := c) (by omega), R.to_ok]
  refine os_lt ?_
  rw [rng_ok (by decide) (by decide) (by omega) (by omega)]
  simp (config := { implicitDefEqProofs := false }) only [R.to_ok]
  have st0 : ∃ u : Nat, ((2 ^ c : Nat) : Int) - 1 = (u : Int) ∧ u < BB := by
    have p : 0 < 2 ^ c := Nat.pos_of_ne_zero (by simp)
    refine ⟨2 ^ c - 1, by omega, ?_⟩
    have : 2 ^ c ≤ BB := by unfold BB; exact Nat.pow_le_pow_right Nat.two_pos (Nat.le_trans c1 (by decide))
    omega
  refine os_bind (M := fun s : Int × List Int => NS s.2 ∧ s.2.length = m) (os_for (fun k s => BIG s.1 ∧ NS s.2 ∧ s.2.length = k ∧ ∀ x ∈ s.2, SUB s.1 x) ⟨st0, ⟨by simp, List.Pairwise.nil⟩, rfl, by simp⟩ (fun k x s hx p => ?_) fun s p => by rw [rng_len] at p; exact ⟨p.2.1, by have := p.2.2.1; omega⟩) fun s p => os_rt ⟨p.1, by omega, by omega⟩
  obtain ⟨ex, hk⟩ := rng_natK hx
  subst ex
  obtain ⟨s, l⟩ := s
  obtain ⟨⟨u, eu, u1⟩, hl, hk2, hs⟩ := p
  dsimp only at eu hl hk2 hs ⊢
  subst eu
  obtain ⟨c2, ec, _⟩ := cell_at_ok ⟨ns⟩ (2 + (k : Int)) (by omega)
  obtain ⟨v, ev, v0, v1⟩ := mixed_ok c2 (300 + (k : Int)) (by omega) (by omega)
  rw [ec]
  simp (config := { implicitDefEqProofs := false }) only [R.bind_ok]
  rw [ev]
  simp (config := { implicitDefEqProofs := false }) only [R.to_ok]
  rw [apd_ok (by omega)]
  simp (config := { implicitDefEqProofs := false }) only [R.to_ok]
  have hl' : NS (l ++ [(u : Int)]) := ⟨fun x hx => by
    rcases List.mem_append.mp hx with q | q
    · exact hl.big x q
    · rw [List.mem_singleton.mp q]; exact ⟨u, rfl, u1⟩, by
    rw [List.pairwise_append]
    exact ⟨hl.pw, List.pairwise_singleton _ _, fun a ha b hb => by rw [List.mem_singleton.mp hb]; exact hs a ha⟩⟩
  have hs' : ∀ x ∈ l ++ [(u : Int)], SUB (u : Int) x := fun x hx => by
    rcases List.mem_append.mp hx with q | q
    · exact hs x q
    · rw [List.mem_singleton.mp q]; exact SUB.refl _
  rw [rng_ok (by decide) (by decide) (by omega) (by omega)]
  simp (config := { implicitDefEqProofs := false }) only [R.bind_ok]
  rw [lc_flK (p' := fun x => decide ((u : Int) / 2 ^ x.toNat % 2 = 1)) (by rw [rng_len]; omega) fun x hx => by
    obtain ⟨h1, h2⟩ := rng_mem hx
    obtain ⟨j, rfl⟩ := Int.eq_ofNat_of_zero_le h1
    rw [shr_nat]
    simp (config := { implicitDefEqProofs := false }) only [R.bind_ok, Int.toNat_natCast]
    congr 2]
  simp (config := { implicitDefEqProofs := false }) only [R.to_ok]
  have hsp : ∀ x ∈ (rng 0 (c : Int)).filter (fun x => decide ((u : Int) / 2 ^ x.toNat % 2 = 1)), 0 ≤ x ∧ x < (c : Int) := fun x hx => rng_mem (List.mem_filter.mp hx).1
  have hsl : ((rng 0 (c : Int)).filter (fun x => decide ((u : Int) / 2 ^ x.toNat % 2 = 1))).length ≤ c := by
    have := List.length_filter_le (fun x => decide ((u : Int) / 2 ^ x.toNat % 2 = 1)) (rng 0 (c : Int))
    rw [rng_len] at this
    omega
  generalize (rng 0 (c : Int)).filter (fun x => decide ((u : Int) / 2 ^ x.toNat % 2 = 1)) = sp at hsp hsl
  refine os_if (fun _ => os_abs (os_rt ⟨hl', by simp, by simp; omega⟩)) fun hne => ?_
  have hne := of_decide_eq_false hne
  have hpos : 0 < sp.length := List.length_pos_iff.mpr hne
  rw [rng_ok (by decide) (by decide) (by omega) (by omega)]
  simp (config := { implicitDefEqProofs := false }) only [R.to_ok]
  refine os_bind (M := fun s : Int => ∃ w : Nat, s = (w : Int) ∧ w ≤ u ∧ SUB (w : Int) (u : Int)) (os_for (fun _ s => ∃ w : Nat, s = (w : Int) ∧ w ≤ u ∧ SUB (w : Int) (u : Int)) ⟨u, rfl, Nat.le_refl _, SUB.refl _⟩ (fun i x s hx p => ?_) fun s p => p) fun s p => ?_
  · obtain ⟨y1, y2⟩ := rng_mem (List.mem_of_getElem? hx)
    obtain ⟨w, rfl, w1, w2⟩ := p
    rw [fdiv_ok (by omega) (by omega)]
    simp (config := { implicitDefEqProofs := false }) only [R.bind_ok]
    rw [mod_ok (by omega)]
    simp (config := { implicitDefEqProofs := false }) only [R.bind_ok]
    have z1 := Int.emod_nonneg (v / (7 + x)) (show (sp.length : Int) ≠ 0 by omega)
    have z2 := Int.emod_lt_of_pos (v / (7 + x)) (show (0 : Int) < (sp.length : Int) by omega)
    generalize (v / (7 + x)) % (sp.length : Int) = z at z1 z2
    have hz : z.toNat < sp.length := by omega
    rw [ix_ok z1 hz]
    simp (config := { implicitDefEqProofs := false }) only [R.to_ok]
    obtain ⟨a1, a2⟩ := hsp _ (List.getElem_mem hz)
    generalize sp[z.toNat] = a at a1 a2
    obtain ⟨b, rfl⟩ := Int.eq_ofNat_of_zero_le a1
    rw [shr_nat, shl_one (k := b) (by omega)]
    simp (config := { implicitDefEqProofs := false }) only [R.to_ok, R.bind_ok]
    refine os_bind (M := fun s : Int => ∃ w : Nat, s = (w : Int) ∧ w ≤ u ∧ SUB (w : Int) (u : Int)) (os_if (fun h => ?_) fun _ => os_nx ⟨w, rfl, w1, w2⟩) fun s p => os_nx p
    have hb := bit_mod.mp (of_decide_eq_true h)
    have le : 2 ^ b ≤ w := Nat.ge_two_pow_of_testBit hb
    refine os_nx ⟨w - 2 ^ b, (Int.ofNat_sub le).symm, Nat.le_trans (Nat.sub_le _ _) w1, fun j hj => ?_⟩
    rw [Int.toNat_natCast] at hj
    exact w2 j (by rw [Int.toNat_natCast]; exact bit_sub hb j hj)
  · obtain ⟨w, rfl, w1, w2⟩ := p
    exact os_nx ⟨⟨w, rfl, by omega⟩, hl', by simp [hk2], fun x hx => w2.trans (hs' x hx)⟩

/-! ### the longest growing -/
def UpS (d : List Int) (A : List Nat) : Prop := A.Nodup ∧ (∀ x ∈ A, x < d.length) ∧ ∀ x ∈ A, ∀ y ∈ A, x < y → d.getD x 0 < d.getD y 0
def ILK (d : List Int) (k j : Nat) (b : Int) : Prop := (∃ A, UpS d A ∧ k ∈ A ∧ (∀ x ∈ A, x = k ∨ (x < k ∧ x < j)) ∧ (A.length : Int) = b) ∧ ∀ A, UpS d A → k ∈ A → (∀ x ∈ A, x = k ∨ (x < k ∧ x < j)) → (A.length : Int) ≤ b
theorem UpS.one {d : List Int} {k : Nat} (h : k < d.length) : UpS d [k] := ⟨by simp, fun x hx => by rw [List.mem_singleton.mp hx]; exact h, fun x hx y hy q => by rw [List.mem_singleton.mp hx, List.mem_singleton.mp hy] at q; omega⟩
theorem UpS.erase {d : List Int} {A : List Nat} (h : UpS d A) (k : Nat) : UpS d (A.erase k) := ⟨h.1.erase k, fun x hx => h.2.1 x (List.mem_of_mem_erase hx), fun x hx y hy => h.2.2 x (List.mem_of_mem_erase hx) y (List.mem_of_mem_erase hy)⟩
theorem ILK.start {d : List Int} {k : Nat} (h : k < d.length) : ILK d k 0 1 := by
  refine ⟨⟨[k], UpS.one h, by simp, fun x hx => .inl (List.mem_singleton.mp hx), rfl⟩, fun A hA hk hx => ?_⟩
  have := nodup_one hA.1 (k := k) fun x hm => by rcases hx x hm with q | q <;> omega
  omega
theorem ILK.stay {d : List Int} {k j : Nat} {b : Int} (h : ILK d k j b) (hj : j < k) (hd : ¬ d.getD j 0 < d.getD k 0) : ILK d k (j + 1) b := by
  obtain ⟨⟨A, a1, a2, a3, a4⟩, m⟩ := h
  refine ⟨⟨A, a1, a2, fun x hx => by rcases a3 x hx with q | q <;> omega, a4⟩, fun B b1 b2 b3 => m B b1 b2 fun x hx => ?_⟩
  rcases b3 x hx with q | q
  · exact .inl q
  · by_cases e : x = j
    · exact absurd (b1.2.2 x hx k b2 q.1) (by rw [e]; exact hd)
    · exact .inr (by omega)
theorem ILK.up {d : List Int} {k j : Nat} {b c : Int} (h : ILK d k j b) (hj : j < k) (hk : k < d.length) (hd : d.getD j 0 < d.getD k 0) (g : ILK d j j c) : ILK d k (j + 1) (if b ≤ c then c + 1 else b) := by
  obtain ⟨⟨A, a1, a2, a3, a4⟩, m⟩ := h
  obtain ⟨⟨C, c1, c2, c3, c4⟩, mc⟩ := g
  have bound : ∀ B, UpS d B → k ∈ B → (∀ x ∈ B, x = k ∨ (x < k ∧ x < j + 1)) → (B.length : Int) ≤ b ∨ (B.length : Int) ≤ c + 1 := fun B b1 b2 b3 => by
    by_cases q : j ∈ B
    · right
      have e := mc (B.erase k) (b1.erase k) ((List.mem_erase_of_ne (by omega)).mpr q) fun x hx => by
        have hx1 := List.mem_of_mem_erase hx
        have hx2 : x ≠ k := fun e => by rw [e] at hx; exact (List.Nodup.not_mem_erase b1.1) hx
        rcases b3 x hx1 with z | z
        · exact absurd z hx2
        · omega
      have el := List.length_erase_of_mem b2
      have : 0 < B.length := List.length_pos_of_mem b2
      omega
    · left
      exact m B b1 b2 fun x hx => by
        have : x ≠ j := fun e => q (e ▸ hx)
        rcases b3 x hx with z | z <;> omega
  by_cases q : b ≤ c
  · rw [if_pos q]
    refine ⟨⟨k :: C, ⟨List.nodup_cons.mpr ⟨fun z => by rcases c3 k z with w | w <;> omega, c1.1⟩, fun x hx => ?_, fun x hx y hy xy => ?_⟩, by simp, fun x hx => ?_, by simp; omega⟩, fun B b1 b2 b3 => by rcases bound B b1 b2 b3 with z | z <;> omega⟩
    · rcases List.mem_cons.mp hx with z | z
      · rw [z]; exact hk
      · exact c1.2.1 x z
    · have le : ∀ z ∈ C, d.getD z 0 ≤ d.getD j 0 := fun z hz => by
        rcases c3 z hz with w | w
        · rw [w]; exact Int.le_refl _
        · exact Int.le_of_lt (c1.2.2 z hz j c2 w.1)
      rcases List.mem_cons.mp hx with z | z
      · rcases List.mem_cons.mp hy with w | w
        · omega
        · rcases c3 y w with v | v <;> omega
      · rcases List.mem_cons.mp hy with w | w
        · rw [w]
          have := le x z
          omega
        · exact c1.2.2 x z y w xy
    · rcases List.mem_cons.mp hx with z | z
      · exact .inl z
      · rcases c3 x z with w | w <;> omega
  · rw [if_neg q]
    exact ⟨⟨A, a1, a2, fun x hx => by rcases a3 x hx with z | z <;> omega, a4⟩, fun B b1 b2 b3 => by rcases bound B b1 b2 b3 with z | z <;> omega⟩
theorem ILK.same {d : List Int} {k j : Nat} {b : Int} (h : ILK d k j b) (hj : k ≤ j) : ILK d k k b := by
  obtain ⟨⟨A, a1, a2, a3, a4⟩, m⟩ := h
  exact ⟨⟨A, a1, a2, fun x hx => by rcases a3 x hx with q | q <;> omega, a4⟩, fun B b1 b2 b3 => m B b1 b2 fun x hx => by rcases b3 x hx with q | q <;> omega⟩
theorem maxI_ge : ∀ (l : List Int) (x : Int), x ∈ l → x ≤ maxI l
  | [], x, h => by simp at h
  | [a], x, h => by rw [List.mem_singleton.mp h]; exact Int.le_refl _
  | a :: b :: r, x, h => by
    unfold maxI
    have ih := maxI_ge (b :: r)
    rcases List.mem_cons.mp h with q | q
    · rw [q]; split <;> omega
    · have := ih x q
      split <;> omega
theorem maxI_in : ∀ (l : List Int), l ≠ [] → maxI l ∈ l
  | [], h => absurd rfl h
  | [a], _ => by unfold maxI; simp
  | a :: b :: r, _ => by
    unfold maxI
    split
    · simp
    · exact List.mem_cons_of_mem _ (maxI_in (b :: r) (by simp))
theorem bor {x y : Int} (hx : 0 ≤ x) (hy : 0 ≤ y) : Builtin.bitOr x y = x ↔ ∀ k, y.toNat.testBit k = true → x.toNat.testBit k = true := by
  have e : Builtin.bitOr x y = ((x.toNat ||| y.toNat : Nat) : Int) := Bits.bitOr_pp hx hy
  rw [e]
  constructor
  · intro h k hk
    have : x.toNat ||| y.toNat = x.toNat := by omega
    rw [← this, Nat.testBit_or, hk, Bool.or_true]
  · intro h
    have : x.toNat ||| y.toNat = x.toNat := Nat.eq_of_testBit_eq fun k => by
      rw [Nat.testBit_or]
      cases q : y.toNat.testBit k with
      | false => simp
      | true => rw [h k q]; rfl
    omega
/-- every two of the states are one within the other -/
structure TOT (d : List Int) : Prop where
  pos : ∀ x ∈ d, 0 ≤ x
  tot : ∀ x ∈ d, ∀ y ∈ d, SUB x y ∨ SUB y x
theorem TOT.sub {d : List Int} (h : TOT d) {x y : Int} (hx : x ∈ d) (hy : y ∈ d) : SUB x y ↔ x ≤ y := by
  have px := h.pos x hx
  have py := h.pos y hy
  refine ⟨SUB.le px py, fun le => ?_⟩
  rcases h.tot x hx y hy with q | q
  · exact q
  · have := q.le py px
    have e : x = y := by omega
    rw [e]; exact SUB.refl _
theorem getD_mem {d : List Int} {k : Nat} (h : k < d.length) : d.getD k 0 ∈ d := by
  rw [List.getD_eq_getElem?_getD, List.getElem?_eq_getElem h]
  exact List.getElem_mem h
theorem growing_ok {d : List Int} (h : TOT d) (hn : d.length ≤ 69) (h0 : d ≠ []) : RS (fun b => ∃ w : Nat, b = (w : Int) ∧ (∃ A, UpS d A ∧ A.length = w) ∧ ∀ A, UpS d A → A.length ≤ w) (m_growing d) := by
  unfold m_growing
  refine run_of ?_
  unfold m_growing_b
  refine os_lt ?_
  rw [show R.bind (.ok (d.length : Int)) (fun t2 => R.rng 0 t2) = .ok (rng 0 (d.length : Int)) from rng_ok (by decide) (by decide) (by omega) (by omega)]
  simp (config := { implicitDefEqProofs := false }) only [R.to_ok]
  refine os_bind (M := fun s : List Int => s.length = d.length ∧ ∀ i b, s[i]? = some b → ILK d i i b) (os_for (fun k s => s.length = k ∧ ∀ i b, s[i]? = some b → ILK d i i b) ⟨rfl, fun i b hi => by simp at hi⟩ (fun k x s hx p => ?_) fun s p => by rw [rng_len] at p; exact ⟨by have := p.1; omega, p.2⟩) fun s p => ?_
  · obtain ⟨ex, hk⟩ := rng_natK hx
    subst ex
    obtain ⟨p1, p2⟩ := p
    refine os_lt ?_
    rw [show R.bind (.ok (k : Int)) (fun t6 => R.rng 0 t6) = .ok (rng 0 (k : Int)) from rng_ok (by decide) (by decide) (by omega) (by omega)]
    simp (config := { implicitDefEqProofs := false }) only [R.to_ok]
    refine os_bind (M := fun b : Int => ILK d k k b) (os_for (fun j b => ILK d k j b) (ILK.start hk) (fun j x b hx q => ?_) fun b q => by rw [rng_len] at q; exact q.same (by omega)) fun b q => ?_
    · obtain ⟨ex, hj⟩ := rng_natK hx
      subst ex
      have hjs : j < s.length := by omega
      have g := p2 j s[j] (List.getElem?_eq_getElem hjs)
      simp (config := { implicitDefEqProofs := false }) only [R.bind_ok, getD_ix (states := d) (show j < d.length by omega), getD_ix (states := d) hk, ix_nat hjs]
      have mj := getD_mem (d := d) (show j < d.length by omega)
      have mk := getD_mem hk
      have hsub := h.sub mk mj
      by_cases c : d.getD j 0 < d.getD k 0
      · have e1 : decide (Builtin.bitOr (d.getD j 0) (d.getD k 0) = d.getD j 0) = false := decide_eq_false fun e => by
          have := hsub.mp ((bor (h.pos _ mj) (h.pos _ mk)).mp e)
          omega
        rw [e1]
        have e2 : R.and (R.ok (!false)) (R.ok (decide (b ≤ s[j]))) = R.ok (decide (b ≤ s[j])) := rfl
        rw [e2]
        simp (config := { implicitDefEqProofs := false }) only [R.to_ok]
        have up := q.up hj hk c g
        by_cases c2 : b ≤ s[j]
        · rw [decide_eq_true c2]
          rw [if_pos c2] at up
          exact up
        · rw [decide_eq_false c2]
          rw [if_neg c2] at up
          exact up
      · have e1 : decide (Builtin.bitOr (d.getD j 0) (d.getD k 0) = d.getD j 0) = true := decide_eq_true ((bor (h.pos _ mj) (h.pos _ mk)).mpr (hsub.mpr (by omega)))
        rw [e1]
        exact q.stay hj c
    · show OS _ _ _ _ (R.to (R.app s b) _)
      rw [apd_ok (by omega)]
      refine os_nx ⟨by simp [p1], fun i b' hi => ?_⟩
      by_cases c : i < s.length
      · rw [List.getElem?_append_left c] at hi
        exact p2 i b' hi
      · have : i = s.length := by
          have := (List.getElem?_eq_some_iff.mp hi).1
          simp at this
          omega
        subst this
        rw [List.getElem?_concat_length] at hi
        cases hi
        rw [p1]; exact q
  · obtain ⟨p1, p2⟩ := p
    have ne : s ≠ [] := fun e => h0 (List.length_eq_zero_iff.mp (by rw [← p1, e]; rfl))
    have em : R.maxL s = .ok (maxI s) := by
      unfold R.maxL
      exact if_pos (List.length_pos_iff.mpr ne)
    simp (config := { implicitDefEqProofs := false }) only [R.bind_ok, em]
    refine os_rt ?_
    obtain ⟨i, hi, ei⟩ := List.getElem_of_mem (maxI_in s ne)
    obtain ⟨⟨A, a1, a2, a3, a4⟩, _⟩ := p2 i _ (List.getElem?_eq_getElem hi)
    rw [ei] at a4
    refine ⟨A.length, a4.symm, ⟨A, a1, rfl⟩, fun B hB => ?_⟩
    cases B with
    | nil => simp
    | cons y B =>
      have hm : ∃ k, k ∈ y :: B ∧ ∀ x ∈ y :: B, x ≤ k := by
        clear a1 a2 a3 a4 hB
        induction B generalizing y with
        | nil => exact ⟨y, by simp, by simp⟩
        | cons z B ih =>
          obtain ⟨k, k1, k2⟩ := ih z
          by_cases c : k ≤ y
          · refine ⟨y, by simp, fun x hx => ?_⟩
            rcases List.mem_cons.mp hx with q | q
            · omega
            · have := k2 x q; omega
          · refine ⟨k, List.mem_cons_of_mem _ k1, fun x hx => ?_⟩
            rcases List.mem_cons.mp hx with q | q
            · omega
            · exact k2 x q
      obtain ⟨k, k1, k2⟩ := hm
      have hk : k < s.length := by rw [p1]; exact hB.2.1 k k1
      have le := (p2 k _ (List.getElem?_eq_getElem hk)).2 (y :: B) hB k1 fun x hx => by have := k2 x hx; omega
      have := maxI_ge s _ (List.getElem_mem hk)
      omega

theorem NS.tot {l : List Int} (h : NS l) : TOT l := ⟨fun x hx => (h.big x hx).pos, fun x hx y hy => by
  obtain ⟨i, hi, rfl⟩ := List.getElem_of_mem hx
  obtain ⟨j, hj, rfl⟩ := List.getElem_of_mem hy
  have g := List.pairwise_iff_getElem.mp h.pw
  rcases Nat.lt_trichotomy i j with q | q | q
  · exact .inr (g i j hi hj q)
  · subst q; exact .inl (SUB.refl _)
  · exact .inl (g j i hj hi q)⟩
theorem TOT.perm {l m : List Int} (h : TOT l) (p : m.Perm l) : TOT m := ⟨fun x hx => h.pos x (p.mem_iff.mp hx), fun x hx y hy => h.tot x (p.mem_iff.mp hx) y (p.mem_iff.mp hy)⟩
theorem EE_iff {d : List Int} (hp : ∀ x ∈ d, 0 ≤ x) {i j : Nat} : EE d i j ↔ i < j ∧ j < d.length ∧ SUB (d.getD j 0) (d.getD i 0) := by
  unfold EE wi
  rw [decide_eq_true_eq]
  constructor
  · rintro ⟨h1, h2, h3⟩
    exact ⟨h1, h2, (band (hp _ (getD_mem h2)) (hp _ (getD_mem (show i < d.length by omega)))).mp h3⟩
  · rintro ⟨h1, h2, h3⟩
    exact ⟨h1, h2, (band (hp _ (getD_mem h2)) (hp _ (getD_mem (show i < d.length by omega)))).mpr h3⟩
theorem getD_at {d : List Int} {k : Nat} (h : k < d.length) : d.getD k 0 = d[k] := by
  rw [List.getD_eq_getElem?_getD, List.getElem?_eq_getElem h]
  rfl
theorem fst_const (n : Nat) : (List.range (n + 1)).filter (fst_ fun _ => 0) = [0] := by
  induction n with
  | zero => rfl
  | succ n ih =>
    rw [List.range_succ, List.filter_append, ih]
    have : fst_ (fun _ => 0) (n + 1) = false := by
      cases e : fst_ (fun _ => 0) (n + 1) with
      | false => rfl
      | true => exact absurd rfl (fst_iff.mp e 0 (by omega))
    simp [this]
theorem fam_const (n x : Nat) : fam (fun _ => 0) n x = List.range n := by
  unfold fam
  exact List.filter_eq_self.mpr fun _ _ => decide_eq_true rfl
theorem falling {l : List Int} (h : NS l) (h1 : 1 ≤ l.length) (h2 : l.length ≤ 69) : RS (fun r : List (List Int) × List Int => r.1 = [rng 0 (l.length : Int)] ∧ r.2.length = 1) (m_fewest_blocks l) := by
  have ht := h.tot
  refine rs_imp (blocks_ok h2 ht.pos) fun r hr => ?_
  obtain ⟨a, hFB⟩ := hr
  have hE : ∀ i j, EE l i j ↔ i < j ∧ j < l.length ∧ (fun _ : Nat => 0) i = (fun _ : Nat => 0) j := fun i j => by
    rw [EE_iff ht.pos]
    refine ⟨fun ⟨a, b, _⟩ => ⟨a, b, rfl⟩, fun ⟨a, b, _⟩ => ⟨a, b, ?_⟩⟩
    rw [getD_at b, getD_at (show i < l.length by omega)]
    exact List.pairwise_iff_getElem.mp h.pw i j (by omega) b a
  have hch := chains_fam hFB hE
  obtain ⟨m, hm⟩ : ∃ m, l.length = m + 1 := ⟨l.length - 1, by omega⟩
  have e : r.1 = [rng 0 (l.length : Int)] := by
    rw [hch, hm, fst_const, rng_cI]
    simp [fam_const]
  refine ⟨e, ?_⟩
  rw [← hFB.eq, e]
  rfl
theorem rising {d : List Int} (hp : ∀ x ∈ d, 0 ≤ x) (pw : d.Pairwise fun x y => SUB x y) (hn : d.length ≤ 69) : RS (fun r : List (List Int) × List Int => r.1.length = (uniq d).length ∧ r.2.length = r.1.length) (m_fewest_blocks d) := by
  refine rs_imp (blocks_ok hn hp) fun r hr => ?_
  obtain ⟨a, hFB⟩ := hr
  let t : Nat → Nat := fun k => (d.getD k 0).toNat
  have te : ∀ i j, i < d.length → j < d.length → (t i = t j ↔ d.getD i 0 = d.getD j 0) := fun i j hi hj => by
    have a1 := hp _ (getD_mem hi)
    have a2 := hp _ (getD_mem hj)
    show (d.getD i 0).toNat = (d.getD j 0).toNat ↔ _
    omega
  have hE : ∀ i j, EE d i j ↔ i < j ∧ j < d.length ∧ t i = t j := fun i j => by
    rw [EE_iff hp]
    refine ⟨fun ⟨a, b, c⟩ => ⟨a, b, ?_⟩, fun ⟨a, b, c⟩ => ⟨a, b, ?_⟩⟩
    · have hi : i < d.length := by omega
      rw [te i j hi b]
      have up : SUB (d.getD i 0) (d.getD j 0) := by
        rw [getD_at b, getD_at hi]
        exact List.pairwise_iff_getElem.mp pw i j hi b a
      have b1 := c.le (hp _ (getD_mem b)) (hp _ (getD_mem hi))
      have b2 := up.le (hp _ (getD_mem hi)) (hp _ (getD_mem b))
      omega
    · rw [(te i j (by omega) b).mp c]
      exact SUB.refl _
  have hch := chains_fam hFB hE
  have nd : (((List.range d.length).filter (fst_ t)).map fun k => d.getD k 0).Nodup := nodup_map_on (List.nodup_range.filter _) fun x hx y hy e => by
    obtain ⟨x1, x2⟩ := List.mem_filter.mp hx
    obtain ⟨y1, y2⟩ := List.mem_filter.mp hy
    have x1 := List.mem_range.mp x1
    have y1 := List.mem_range.mp y1
    have e := (te x y x1 y1).mpr e
    by_cases z : x < y
    · exact absurd e (fst_iff.mp y2 x z)
    · by_cases z2 : y < x
      · exact absurd e.symm (fst_iff.mp x2 y z2)
      · omega
  have pm := nodup_perm nd (uniq_nodup d) fun z => by
    rw [uniq_mem]
    constructor
    · intro hz
      obtain ⟨k, hk, rfl⟩ := List.mem_map.mp hz
      exact getD_mem (List.mem_range.mp (List.mem_filter.mp hk).1)
    · intro hz
      obtain ⟨k, hk, rfl⟩ := List.getElem_of_mem hz
      obtain ⟨f, f1, f2, f3⟩ := fst_ex (t := t) k
      refine List.mem_map.mpr ⟨f, List.mem_filter.mpr ⟨List.mem_range.mpr (by omega), f2⟩, ?_⟩
      rw [← getD_at hk]
      exact (te f k (by omega) hk).mp f3
  have el := pm.length_eq
  rw [List.length_map] at el
  refine ⟨?_, hFB.eq.symm⟩
  rw [hch, List.length_map]
  exact el
theorem drawn {d : List Int} (h : TOT d) (hn : d.length ≤ 69) (h0 : d ≠ []) : RS (fun r : List (List Int) × List Int => m_growing d = .ok (r.1.length : Int) ∧ r.2.length = r.1.length) (m_fewest_blocks d) := by
  refine rs_imp (blocks_ok hn h.pos) fun r hr => ?_
  obtain ⟨a, hFB⟩ := hr
  refine ⟨?_, hFB.eq.symm⟩
  have w1 := hFB.wid
  obtain ⟨b, eb, w, rfl, ⟨A, hA, lA⟩, mx⟩ := growing_ok h hn h0
  have key : ∀ A, Anti d.length (EE d) A ↔ UpS d A := fun A => by
    have ee : ∀ x y, x < d.length → y < d.length → x < y → (EE d x y ↔ ¬ d.getD x 0 < d.getD y 0) := fun x y hx hy q => by
      rw [EE_iff h.pos, h.sub (getD_mem hy) (getD_mem hx)]
      omega
    constructor
    · rintro ⟨a1, a2, a3⟩
      exact ⟨a1, a2, fun x hx y hy q => Classical.byContradiction fun c => a3 x hx y hy ((ee x y (a2 x hx) (a2 y hy) q).mpr c)⟩
    · rintro ⟨a1, a2, a3⟩
      exact ⟨a1, a2, fun x hx y hy q => (ee x y (a2 x hx) (a2 y hy) q.1).mp q (a3 x hx y hy q.1)⟩
  have w2 : Wid d w := ⟨⟨A, (key A).mpr hA, lA⟩, fun B hB => mx B ((key B).mp hB)⟩
  rw [eb, w1.uniq w2]
theorem big_log {x : Int} (h : BIG x) : (x + 1).natAbs.log2 < 1000 := by
  obtain ⟨u, rfl, hu⟩ := h
  have e : ((u : Int) + 1).natAbs = u + 1 := by omega
  rw [e]
  have : BB < 2 ^ 1000 := by unfold BB; exact Nat.pow_lt_pow_right Nat.one_lt_two (by omega)
  exact (Nat.log2_lt (by omega)).mpr (Nat.lt_of_le_of_lt (show u + 1 ≤ BB from hu) this)
theorem law_true (ns : List Int) (hns : ns.length ≤ 63) : m_law ⟨ns⟩ = .ok true := by
  have key : RS (fun b => b = true) (m_law ⟨ns⟩) := by
    unfold m_law
    refine run_of ?_
    unfold m_law_b
    obtain ⟨c0, e0, _⟩ := cell_at_ok ⟨ns⟩ 0 (by decide)
    obtain ⟨c1, e1, _⟩ := cell_at_ok ⟨ns⟩ 1 (by decide)
    obtain ⟨v, ev, v0, v1⟩ := mixed_ok c1 7 (by decide) (by decide)
    have hcell : ∃ c : Nat, R.ix [(1 : Int) + c0 / 8 % 9, 576, 24, 40] (c0 % 4) = .ok (c : Int) ∧ 1 ≤ c ∧ c ≤ 576 := by
      have q : c0 % 4 = 0 ∨ c0 % 4 = 1 ∨ c0 % 4 = 2 ∨ c0 % 4 = 3 := by omega
      rcases q with q | q | q | q <;> rw [q]
      · refine ⟨(1 + c0 / 8 % 9).toNat, ?_, by omega, by omega⟩
        rw [ix_ok (by decide) (by show 0 < 4; decide)]
        exact congrArg R.ok (show 1 + c0 / 8 % 9 = ((1 + c0 / 8 % 9).toNat : Int) by omega)
      · exact ⟨576, ix_ok (by decide) (by show 1 < 4; decide), by omega, by omega⟩
      · exact ⟨24, ix_ok (by decide) (by show 2 < 4; decide), by omega, by omega⟩
      · exact ⟨40, ix_ok (by decide) (by show 3 < 4; decide), by omega, by omega⟩
    obtain ⟨c, ecl, c1', c2⟩ := hcell
    simp (config := { implicitDefEqProofs := false }) only [e0, e1, R.bind_ok, ev, ecl, R.to_ok]
    obtain ⟨l, el, hl, l1, l2⟩ := nested_ok ns hns c1' c2
    rw [el]
    simp (config := { implicitDefEqProofs := false }) only [R.to_ok]
    refine os_bind (M := fun s : List Int => NS s ∧ 1 ≤ s.length ∧ s.length ≤ 41) (os_if (fun _ => ?_) fun _ => os_nx ⟨hl, l1, by omega⟩) fun s hs => ?_
    · rw [mod_ok (by omega)]
      simp (config := { implicitDefEqProofs := false }) only [R.to_ok, R.bind_ok]
      have z1 := Int.emod_nonneg (v / 10) (show (l.length : Int) ≠ 0 by omega)
      have z2 := Int.emod_lt_of_pos (v / 10) (show (0 : Int) < (l.length : Int) by omega)
      generalize (v / 10) % (l.length : Int) = z at z1 z2
      have hz : z.toNat < l.length := by omega
      rw [ix_ok z1 hz]
      simp (config := { implicitDefEqProofs := false }) only [R.to_ok]
      have ei : R.ins l z l[z.toNat] = .ok (l.take z.toNat ++ [l[z.toNat]] ++ l.drop z.toNat) := by
        unfold R.ins
        exact if_pos ⟨by rw [sl_eq]; omega, z1, by omega⟩
      rw [ei]
      refine os_nx ⟨hl.ins hz, ?_, ?_⟩ <;> simp <;> omega
    · obtain ⟨hs, s1, s2⟩ := hs
      obtain ⟨⟨r1, r2⟩, er, q1, q2⟩ := falling hs s1 (by omega)
      dsimp only at q1 q2
      rw [er]
      rw [show R.rng 0 (s.length : Int) = .ok (rng 0 (s.length : Int)) from rng_ok (by decide) (by decide) (by omega) (by omega)]
      have ef : R.or (R.ok (!decide (r1 = [rng 0 (s.length : Int)]))) (R.ok (!decide ((r2.length : Int) = 1))) = .ok false := by
        rw [decide_eq_true q1, decide_eq_true (show (r2.length : Int) = 1 by omega)]
        rfl
      simp (config := { implicitDefEqProofs := false }) only [R.bind_ok, R.to2_ok, ef, R.to_ok, pick_rev (l := s) (by omega)]
      refine os_if (fun h => by cases h) fun _ => ?_
      have hrv : ∀ x ∈ s.reverse, 0 ≤ x := fun x hx => hs.tot.pos x (List.mem_reverse.mp hx)
      obtain ⟨⟨r3, r4⟩, er2, q3, q4⟩ := rising hrv (List.pairwise_reverse.mpr hs.pw) (by rw [List.length_reverse]; omega)
      dsimp only at q3 q4
      rw [er2]
      have els : R.lenSetI s.reverse = .ok ((uniq s.reverse).length : Nat) := by
        unfold R.lenSetI
        exact if_pos (by rw [List.length_reverse]; omega)
      have ef2 : R.or (R.ok (!decide ((r3.length : Int) = ((uniq s.reverse).length : Nat)))) (R.ok (!decide ((r4.length : Int) = (r3.length : Int)))) = .ok false := by
        rw [decide_eq_true (show (r3.length : Int) = ((uniq s.reverse).length : Nat) by omega), decide_eq_true (show (r4.length : Int) = (r3.length : Int) by omega)]
        rfl
      simp (config := { implicitDefEqProofs := false }) only [R.bind_ok, R.to2_ok, els, ef2, R.to_ok]
      refine os_if (fun h => by cases h) fun _ => ?_
      have lv : v.natAbs.log2 < 200 := log2_lt v0 (by omega)
      have esk : ∃ d, R.sortK s (fun a => decide (CMulW (a + (1 : Int)) v)) (fun a => (((a + (1 : Int)) * v) % (((10 : Int) ^ Int.toNat (30 : Int)) + (57 : Int)))) = .ok d ∧ d.Perm s := by
        unfold R.sortK
        rw [if_pos (List.all_eq_true.mpr fun a ha => decide_eq_true (by
          have := big_log (hs.big a ha)
          show (a + 1).natAbs.log2 + v.natAbs.log2 < 1000000
          omega))]
        exact ⟨_, rfl, List.mergeSort_perm _ _⟩
      obtain ⟨d, ed, pd⟩ := esk
      rw [ed]
      simp (config := { implicitDefEqProofs := false }) only [R.to_ok]
      have ld := pd.length_eq
      obtain ⟨⟨r5, r6⟩, er3, q5, q6⟩ := drawn (hs.tot.perm pd) (by omega) fun e => by rw [e] at ld; simp at ld; omega
      dsimp only at q5 q6
      rw [er3]
      have ef3 : R.and (R.ok (decide ((r5.length : Int) = (r5.length : Int)))) (R.ok (decide ((r6.length : Int) = (r5.length : Int)))) = .ok true := by
        rw [decide_eq_true (show (r5.length : Int) = (r5.length : Int) from rfl), decide_eq_true (show (r6.length : Int) = (r5.length : Int) by omega)]
        rfl
      simp (config := { implicitDefEqProofs := false }) only [R.bind_ok, R.to2_ok, q5, ef3, R.to_ok]
      exact os_rt (decide_eq_true (by omega))
  obtain ⟨b, e, rfl⟩ := key
  exact e
end Ma

namespace Wk
open PySem PySem.Spec PyProof.Rows L2 Fw Mir
def topS (i:Nat):Stmt:=PySem.Challenge.pw_lostblock_k25_order_tells.main.body.getD i (.Pass ⟨0,0,0,0⟩)
abbrev s_cell_at:Stmt:=topS 9
abbrev N_cell_at:List Str:=["_law_script","_law_k"]
theorem sc_cell_at:FnScope N_cell_at ["_law_script","_law_k"] (defScope s_cell_at):=⟨rfl,rfl,rfl,by decide +kernel,rfl,by decide +kernel,by decide +kernel⟩
abbrev s_mixed:Stmt:=topS 10
abbrev N_mixed:List Str:=["_law_cell","_law_k"]
theorem sc_mixed:FnScope N_mixed ["_law_cell","_law_k"] (defScope s_mixed):=⟨rfl,rfl,rfl,by decide +kernel,rfl,by decide +kernel,by decide +kernel⟩
abbrev s_nested:Stmt:=topS 11
abbrev N_nested:List Str:=["_law_script","_law_cells","_law_state","_law_nested_here","_law_k","_law_number","_law_spots","_law_at","_law_j"]
theorem sc_nested:FnScope N_nested ["_law_script","_law_cells"] (defScope s_nested):=⟨rfl,rfl,rfl,by decide +kernel,rfl,by decide +kernel,by decide +kernel⟩
abbrev s_within:Stmt:=topS 1
abbrev N_within:List Str:=["one","other"]
theorem sc_within:FnScope N_within ["one","other"] (defScope s_within):=⟨rfl,rfl,rfl,by decide +kernel,rfl,by decide +kernel,by decide +kernel⟩
abbrev s_later_ones:Stmt:=topS 3
abbrev N_later_ones:List Str:=["states","told","one","other"]
theorem sc_later_ones:FnScope N_later_ones ["states"] (defScope s_later_ones):=⟨rfl,rfl,rfl,by decide +kernel,rfl,by decide +kernel,by decide +kernel⟩
abbrev s_find_next:Stmt:=topS 4
abbrev N_find_next:List Str:=["one","later","ahead","seen","other"]
theorem sc_find_next:FnScope N_find_next ["one","later","ahead","seen"] (defScope s_find_next):=⟨rfl,rfl,rfl,by decide +kernel,rfl,by decide +kernel,by decide +kernel⟩
abbrev s_chain_from:Stmt:=topS 6
abbrev N_chain_from:List Str:=["first","nexts","chain"]
theorem sc_chain_from:FnScope N_chain_from ["first","nexts"] (defScope s_chain_from):=⟨rfl,rfl,rfl,by decide +kernel,rfl,by decide +kernel,by decide +kernel⟩
abbrev s_reached_from:Stmt:=topS 5
abbrev N_reached_from:List Str:=["free","later","ahead","firsts","passed","todo","one","other"]
theorem sc_reached_from:FnScope N_reached_from ["free","later","ahead"] (defScope s_reached_from):=⟨rfl,rfl,rfl,by decide +kernel,rfl,by decide +kernel,by decide +kernel⟩
abbrev s_fewest_blocks:Stmt:=topS 7
abbrev N_fewest_blocks:List Str:=["states","later","ahead","one","nexts","other","chains","firsts","passed"]
theorem sc_fewest_blocks:FnScope N_fewest_blocks ["states"] (defScope s_fewest_blocks):=⟨rfl,rfl,rfl,by decide +kernel,rfl,by decide +kernel,by decide +kernel⟩
abbrev s_growing:Stmt:=topS 12
abbrev N_growing:List Str:=["_law_states","_law_best","_law_k","_law_here","_law_j"]
theorem sc_growing:FnScope N_growing ["_law_states"] (defScope s_growing):=⟨rfl,rfl,rfl,by decide +kernel,rfl,by decide +kernel,by decide +kernel⟩
abbrev s_law:Stmt:=topS 13
abbrev N_law:List Str:=["_law_script","_law_cells","_law_nested_here","_law_number","_law_chains","_law_apart","_law_rising","_law_drawn"]
theorem sc_law:FnScope N_law ["_law_script"] (defScope s_law):=⟨rfl,rfl,rfl,by decide +kernel,rfl,by decide +kernel,by decide +kernel⟩
structure Glb (mg:Str→Option Value):Prop where
  b_enumerate:mg "enumerate" = none
  b_len:mg "len" = none
  b_list:mg "list" = none
  b_max:mg "max" = none
  b_min:mg "min" = none
  b_range:mg "range" = none
  b_set:mg "set" = none
  b_sorted:mg "sorted" = none
structure Cal (P:Program) (w:World) (K:Frag) (mg:Str→Option Value) (base:Heap) (x:Str) (k:Nat) (ps:List Str) (sp:Sp):Prop where
  ex:∃ (f:Addr) (fd:FuncData),mg x = some (.ref f) ∧ PySem.W.keepIn K (.ref f) = true ∧ Binds K fd ps [] ∧ FnOk P w K mg base (L2.CX P w) k f fd ps sp
structure Raw (K:Frag) (mg:Str→Option Value) (x y:Str) (st:Stmt):Prop where
  ex:∃ (f:Addr) (fd:FuncData),mg x = some (.ref f) ∧ Fun K y y st f fd
section
local macro_rules | `(tactic| trivial)=>`(tactic| first | exact Or.inl rfl | exact Or.inr rfl)
variable {P:Program} {w:World} {c:Cn} {mg:Str→Option Value} {base:Heap}
theorem ok_m_cell_at_F (T:Glb mg) {f:Addr} {fd:FuncData} (F:Fun c.K "_law_cell_at" "_law_cell_at" s_cell_at f fd) :
    FnOk P w c.K mg base (L2.CX P w) 1 f fd ["_law_script","_law_k"] (spF c (fun x:(Sq Int)×Int×Unit=>m_cell_at x.1 x.2.1) (fun x:Int=>kFr c.K x)):=by
  have nd:=sc_cell_at.nd
  refine F.okX sc_cell_at (fun vs H Q E h=>spF_len vs H Q E h) (fun cdv A outer s H vs Q E hr h=>?_)
  refine ⟨_,(pss_cons (ps_if (pt_cmpR op_lt (pv 1) (pe_callB (r:=Fw.rLen c.K) call_len_seq (by rfl) T.b_len (by decide +kernel) (pa_cons (pv 0) pa_nil)) (nomark _)) (pss_cons (ps_ret (pe_ix (r:=rIxL c.K) ix_list (pv 0) (pv 1) (fun _ _=>rfl))) pss_nil) pss_nil) (pss_cons (ps_ret pe_int) pss_nil)),?_⟩
  have hm:∀ x:(Sq Int)×Int×Unit,(fun x:(Sq Int)×Int×Unit=>m_cell_at x.1 x.2.1) x = (m_cell_at_b x.1 x.2.1).run:=fun _=>by unfold m_cell_at; rfl
  have hN:N_cell_at.length = Args.num ((Sq Int)×Int×Unit) + 0:=rfl
  refine fn_run (Bs:=fun _=>uns 2) (n:=0) (m:=fun x=>m_cell_at_b x.1 x.2.1) h ?hN ?hm ?hd
  case hN=>exact hN
  case hm=>exact hm
  intro W x
  obtain ⟨v_script,v_k,⟨⟩⟩:=x
  show Den _ _ _ _ _ _ _ [(.fr v_script),(.fr v_k)] (m_cell_at_b v_script v_k) (fun _=>uns 2)
  unfold m_cell_at_b
  exact (d_ifap (t_e (e_op2 (o_cmp fun i j=>decide (i < j)) (e_var 1) (e_opA (x:=(v_script.l,())) o_lenL (a_cons (e_shQ (e_var 0)) a_nil) rfl) rfl)) (d_retR (wk_uns rfl) (r_op2 o_ixL (exr_p (e_shQ (e_var 0))) (exr_p (e_var 1)))) (d_ret (e_int _)))
theorem ok_m_cell_at (T:Glb mg) (R0:Raw c.K mg "_law_cell_at" "_law_cell_at" s_cell_at) :
    Cal P w c.K mg base "_law_cell_at" 1 ["_law_script","_law_k"] (spF c (fun x:(Sq Int)×Int×Unit=>m_cell_at x.1 x.2.1) (fun x:Int=>kFr c.K x)):=by
  obtain ⟨f,fd,gf,F⟩:=R0.ex
  exact ⟨f,fd,gf,F.kp,F.binds fun _ _ _ _ _ _ us hl=>match us,hl with | [_,_],_=>rfl,ok_m_cell_at_F T F⟩
theorem ok_m_mixed_F (T:Glb mg) {f:Addr} {fd:FuncData} (F:Fun c.K "_law_mixed" "_law_mixed" s_mixed f fd) :
    FnOk P w c.K mg base (L2.CX P w) 1 f fd ["_law_cell","_law_k"] (spF c (fun x:Int×Int×Unit=>m_mixed x.1 x.2.1) (fun x:Int=>kFr c.K x)):=by
  have nd:=sc_mixed.nd
  refine F.okX sc_mixed (fun vs H Q E h=>spF_len vs H Q E h) (fun cdv A outer s H vs Q E hr h=>?_)
  refine ⟨_,(pss_cons (ps_ret (pe_op op_mod (pe_op op_mulW (pe_op op_add (pe_op op_add (pe_op op_mod (pv 0) (pe_op op_pow pe_int pe_int)) (pe_op op_mul (pv 1) (pv 1))) pe_int) pe_int) (pe_op op_add (pe_op op_pow pe_int pe_int) pe_int))) pss_nil),?_⟩
  have hm:∀ x:Int×Int×Unit,(fun x:Int×Int×Unit=>m_mixed x.1 x.2.1) x = (m_mixed_b x.1 x.2.1).run:=fun _=>by unfold m_mixed; rfl
  have hN:N_mixed.length = Args.num (Int×Int×Unit) + 0:=rfl
  refine fn_run (Bs:=fun _=>uns 2) (n:=0) (m:=fun x=>m_mixed_b x.1 x.2.1) h ?hN ?hm ?hd
  case hN=>exact hN
  case hm=>exact hm
  intro W x
  obtain ⟨v_cell,v_k,⟨⟩⟩:=x
  show Den _ _ _ _ _ _ _ [(.fr v_cell),(.fr v_k)] (m_mixed_b v_cell v_k) (fun _=>uns 2)
  unfold m_mixed_b
  exact (d_retR (wk_uns rfl) (r_op2 o_mod (r_op2 o_mulW (r_op2 (o_int fun i j=>i + j) (r_op2 (o_int fun i j=>i + j) (r_op2 o_mod (exr_p (e_var 0)) (exr_p (e_cc ⟨by decide,by decide,by decide⟩ (e_int _) (e_int _) rfl))) (r_op2 o_mul (exr_p (e_var 1)) (exr_p (e_var 1)))) (exr_p (e_int _))) (exr_p (e_int _))) (exr_p (e_op2 (o_int fun i j=>i + j) (e_cc ⟨by decide,by decide,by decide⟩ (e_int _) (e_int _) rfl) (e_int _) rfl))))
theorem ok_m_mixed (T:Glb mg) (R0:Raw c.K mg "_law_mixed" "_law_mixed" s_mixed) :
    Cal P w c.K mg base "_law_mixed" 1 ["_law_cell","_law_k"] (spF c (fun x:Int×Int×Unit=>m_mixed x.1 x.2.1) (fun x:Int=>kFr c.K x)):=by
  obtain ⟨f,fd,gf,F⟩:=R0.ex
  exact ⟨f,fd,gf,F.kp,F.binds fun _ _ _ _ _ _ us hl=>match us,hl with | [_,_],_=>rfl,ok_m_mixed_F T F⟩
theorem ok_m_nested_F (T:Glb mg) {f:Addr} {fd:FuncData} (F:Fun c.K "_law_nested" "_law_nested" s_nested f fd)
    (C_m_mixed:Cal P w c.K mg base "_law_mixed" 1 ["_law_cell","_law_k"] (spF c (fun x:Int×Int×Unit=>m_mixed x.1 x.2.1) (fun x:Int=>kFr c.K x)))
    (C_m_cell_at:Cal P w c.K mg base "_law_cell_at" 1 ["_law_script","_law_k"] (spF c (fun x:(Sq Int)×Int×Unit=>m_cell_at x.1 x.2.1) (fun x:Int=>kFr c.K x))) :
    FnOk P w c.K mg base (L2.CX P w) 2 f fd ["_law_script","_law_cells"] (spF c (fun x:(Sq Int)×Int×Unit=>m_nested x.1 x.2.1) (fun x:(List Int)=>kNw c.K x)):=by
  obtain ⟨f_m_mixed,fd_m_mixed,g_m_mixed,k_m_mixed,b_m_mixed,G_m_mixed⟩:=C_m_mixed.ex
  obtain ⟨f_m_cell_at,fd_m_cell_at,g_m_cell_at,k_m_cell_at,b_m_cell_at,G_m_cell_at⟩:=C_m_cell_at.ex
  have nd:=sc_nested.nd
  refine F.okX sc_nested (fun vs H Q E h=>spF_len vs H Q E h) (fun cdv A outer s H vs Q E hr h=>?_)
  refine ⟨_,(pss_cons (ps_set (i:=2) nd rfl (by trivial) (pe_op op_sub (pe_op op_shl pe_int (pv 1)) pe_int)) (pss_cons (ps_set (i:=3) nd rfl (by trivial) (pe_lst pa_nil)) (pss_cons (ps_for (passes_of rfl) rfl (pi_range1 (by rfl) T.b_range (pa_cons (pe_callB (call_min2 (by rfl)) (by rfl) T.b_min (by decide +kernel) (pa_cons pe_int (pa_cons (pe_callB (call_max2 (by rfl)) (by rfl) T.b_max (by decide +kernel) (pa_cons pe_int (pa_cons (pe_op op_sub (pe_callB (r:=Fw.rLen c.K) call_len_seq (by rfl) T.b_len (by decide +kernel) (pa_cons (pv 0) pa_nil)) pe_int) pa_nil))) pa_nil))) pa_nil)) (pg_name (i:=4) nd rfl (by trivial)) (pss_cons (ps_set (i:=5) nd rfl (by trivial) (pe_callS G_m_mixed (hr.mono (by decide)) (by rfl) g_m_mixed k_m_mixed b_m_mixed (fun σ=>passAt (takes_of rfl rfl rfl rfl) σ) (pa_cons (pe_callS G_m_cell_at (hr.mono (by decide)) (by rfl) g_m_cell_at k_m_cell_at b_m_cell_at (fun σ=>passAt (takes_of rfl rfl rfl rfl) σ) (pa_cons (pv 0) (pa_cons (pe_op op_add pe_int (pv 4)) pa_nil))) (pa_cons (pe_op op_add pe_int (pv 4)) pa_nil)))) (pss_cons (ps_expr (pe_bm PySem.F.plainAttrs_list PySem.F.slot_list_append PySem.F.type_list_append mt_append (pv 3) (pa_cons (pv 2) pa_nil))) (pss_cons (ps_setLc (i:=6) (own:=[("_law_at",7)]) (by rfl) nd rfl (by rfl) (sw_true rfl (by rfl) rfl (by decide +kernel)) (pi_range1 (by rfl) T.b_range (pa_cons (pv 1) pa_nil)) (blkOk_by (own:=[("_law_at",7)]) (N:=N_nested) (sc:=(defScope s_nested)) (by decide +kernel)) (fun _ _ _ _ _=>(pg_name (i:=7) nd rfl (by trivial))) (fun _ _ _ _ _=>(pts_one (pt_cmpR op_eq (pe_op op_mod (pe_op op_shr (pv 2) (pv 7)) pe_int) pe_int (nomark _)))) (fun _ _ _ _ _=>(pv 7))) (pss_cons (ps_if (pt_cmpR (r:=rEqD c.K) (op_eqD (hu64 hr)) (pv 6) (pe_lst pa_nil) (nomark _)) (pss_cons (ps_ret (pv 3)) pss_nil) pss_nil) (pss_cons (ps_for (passes_of rfl) rfl (pi_range1 (by rfl) T.b_range (pa_cons (pe_op op_add pe_int (pe_op op_mod (pe_op op_fdiv (pv 5) pe_int) pe_int)) pa_nil)) (pg_name (i:=8) nd rfl (by trivial)) (pss_cons (ps_set (i:=7) nd rfl (by trivial) (pe_ix (r:=rIxL c.K) ix_list (pv 6) (pe_op op_mod (pe_op op_fdiv (pv 5) (pe_op op_add pe_int (pv 8))) (pe_callB (r:=Fw.rLen c.K) call_len_seq (by rfl) T.b_len (by decide +kernel) (pa_cons (pv 6) pa_nil))) (fun _ _=>rfl))) (pss_cons (ps_if (pt_cmpR op_eq (pe_op op_mod (pe_op op_shr (pv 2) (pv 7)) pe_int) pe_int (nomark _)) (pss_cons (ps_set (i:=2) nd rfl (by trivial) (pe_op op_sub (pv 2) (pe_op op_shl pe_int (pv 7)))) pss_nil) pss_nil) pss_nil))) pss_nil)))))) (pss_cons (ps_ret (pv 3)) pss_nil)))),?_⟩
  have hm:∀ x:(Sq Int)×Int×Unit,(fun x:(Sq Int)×Int×Unit=>m_nested x.1 x.2.1) x = (m_nested_b x.1 x.2.1).run:=fun _=>by unfold m_nested; rfl
  have hN:N_nested.length = Args.num ((Sq Int)×Int×Unit) + 7:=rfl
  refine fn_run (Bs:=fun _=>uns 9) (n:=7) (m:=fun x=>m_nested_b x.1 x.2.1) h ?hN ?hm ?hd
  case hN=>exact hN
  case hm=>exact hm
  intro W x
  obtain ⟨v_script,v_cells,⟨⟩⟩:=x
  show Den _ _ _ _ _ _ _ [(.fr v_script),(.fr v_cells),.un,.un,.un,.un,.un,.un,.un] (m_nested_b v_script v_cells) (fun _=>uns 9)
  unfold m_nested_b
  exact (d_get 2 (wk_uns rfl) (r_op2 (o_int fun i j=>i - j) (r_op2 o_shl (exr_p (e_int _)) (exr_p (e_var 1))) (exr_p (e_int _))) fun v_state_5=>(d_letN 3 e_nil fun v_nested_here_6=>(d_for (Bs:=(fun (s8:(Int×(List Int)))=>[(.fr v_script),(.fr v_cells),(.fr s8.1),(.ow none s8.2),.un,.un,.un,.un,.un])) (wk_uns rfl) (i_rng1 (exr_p (e_opA (x:=((40:Int),(if ((v_script.l.length:Int) - (2:Int)) > (1:Int) then ((v_script.l.length:Int) - (2:Int)) else (1:Int)),())) o_min (a_cons (e_int _) (a_cons (e_opA (x:=((1:Int),((v_script.l.length:Int) - (2:Int)),())) o_max (a_cons (e_int _) (a_cons (e_op2 (o_int fun i j=>i - j) (e_opA (x:=(v_script.l,())) o_lenL (a_cons (e_shQ (e_var 0)) a_nil) rfl) (e_int _) rfl) a_nil)) rfl) a_nil)) rfl))) (.same (.same (.same (.same (.same (.same (.same (.same (.same .nil))))))))) (fun _ _=>(g_name 4)) (fun s8 x9 B54=>(d_get 5 (wk_uns rfl) (r_call (aar_cons (r_call1 (aa_cons (e_var 0) (aa_cons (e_op2 (o_int fun i j=>i + j) (e_int _) (e_var 4) rfl) aa_nil)) rfl) (aar_cons (exr_p (e_op2 (o_int fun i j=>i + j) (e_int _) (e_var 4) rfl)) aar_nil))) fun v_number_15=>(d_app 3 rfl (wk_uns rfl) (exr_p (e_var 2)) fun v_nested_here_16=>(d_get 6 (wk_uns rfl) (r_fz (r_lcG (ixh (i_rng1 (exr_p (e_var 1)))) (gs_name 7) (fun x18=>(tr_e (r_op2 o_eq (r_cr (fun _=>(by decide:(0:Int) < 2)) (r_op2 o_shr (exr_p (e_var 2)) (exr_p (e_var 7))) (e_int _)) (exr_p (e_int _))))) (fun x18=>(exr_p (e_var 7))))) fun v_spots_25=>(d_ifap (t_e (e_op2 (o_eqB (α:=(List Int))) (e_bw (e_var 6)) (e_bwN e_nil) rfl)) (d_retO 3 rfl rfl) (d_for (Bs:=(fun (s27:Int)=>[(.fr v_script),(.fr v_cells),(.fr s27),(.ow none v_nested_here_16),(.fr x9),(.fr v_number_15),(.fr v_spots_25),.un,.un])) (wk_uns rfl) (i_rng1 (exr_p (e_op2 (o_int fun i j=>i + j) (e_int _) (e_cr (fun _=>(by decide:(0:Int) < 3)) (e_cr (fun _=>(⟨by decide,by decide⟩:CDiv _ 100)) (e_var 5) (e_int _) rfl) (e_int _) rfl) rfl))) (.same (.same (.same (.same (.same (.same (.same (.same (.same .nil))))))))) (fun _ _=>(g_name 8)) (fun s27 x28 B50=>(d_get 7 (wk_uns rfl) (r_op2 o_ixL (exr_p (e_sh (e_var 6))) (r_op2 o_mod (r_op2 o_fdiv (exr_p (e_var 5)) (exr_p (e_op2 (o_int fun i j=>i + j) (e_int _) (e_var 8) rfl))) (exr_p (e_opA (x:=(v_spots_25,())) o_lenL (a_cons (e_sh (e_var 6)) a_nil) rfl)))) fun v_at_35=>(d_if (Bs:=(fun (s41:Int)=>[(.fr v_script),(.fr v_cells),(.fr s41),(.ow none v_nested_here_16),(.fr x9),(.fr v_number_15),(.fr v_spots_25),(.fr v_at_35),(.fr x28)])) (wk_uns rfl) (tr_e (r_op2 o_eq (r_cr (fun _=>(by decide:(0:Int) < 2)) (r_op2 o_shr (exr_p (e_var 2)) (exr_p (e_var 7))) (e_int _)) (exr_p (e_int _)))) (d_get 2 (wk_uns rfl) (r_op2 (o_int fun i j=>i - j) (exr_p (e_var 2)) (r_op2 o_shl (exr_p (e_int _)) (exr_p (e_var 7)))) fun v_state_46=>(d_nx (.same (.same (.same (.same (.same (.same (.same (.same (.same .nil))))))))))) (d_nx (.same (.same (.same (.same (.same (.same (.same (.same (.same .nil)))))))))) (fun s41=>(d_nx (.same (.same (.same (.same (.same (.same (.same (.drop (.drop .nil)))))))))))))) (fun s48=>(d_nx (.same (.same (.same (.same (.drop (.drop (.drop (.same (.same .nil))))))))))))))))) (fun s52=>(d_retO 3 rfl rfl)))))
theorem ok_m_nested (T:Glb mg) (R0:Raw c.K mg "_law_nested" "_law_nested" s_nested)
    (C_m_mixed:Cal P w c.K mg base "_law_mixed" 1 ["_law_cell","_law_k"] (spF c (fun x:Int×Int×Unit=>m_mixed x.1 x.2.1) (fun x:Int=>kFr c.K x)))
    (C_m_cell_at:Cal P w c.K mg base "_law_cell_at" 1 ["_law_script","_law_k"] (spF c (fun x:(Sq Int)×Int×Unit=>m_cell_at x.1 x.2.1) (fun x:Int=>kFr c.K x))) :
    Cal P w c.K mg base "_law_nested" 2 ["_law_script","_law_cells"] (spF c (fun x:(Sq Int)×Int×Unit=>m_nested x.1 x.2.1) (fun x:(List Int)=>kNw c.K x)):=by
  obtain ⟨f,fd,gf,F⟩:=R0.ex
  exact ⟨f,fd,gf,F.kp,F.binds fun _ _ _ _ _ _ us hl=>match us,hl with | [_,_],_=>rfl,ok_m_nested_F T F C_m_mixed C_m_cell_at⟩
theorem ok_m_within_F (T:Glb mg) {f:Addr} {fd:FuncData} (F:Fun c.K "within" "within" s_within f fd) :
    FnOk P w c.K mg base (L2.CX P w) 1 f fd ["one","other"] (spF c (fun x:Int×Int×Unit=>m_within x.1 x.2.1) (fun x:Bool=>kFr c.K x)):=by
  have nd:=sc_within.nd
  refine F.okX sc_within (fun vs H Q E h=>spF_len vs H Q E h) (fun cdv A outer s H vs Q E hr h=>?_)
  refine ⟨_,(pss_cons (ps_ret (pe_cmpR op_eq (pe_op op_and (pv 0) (pv 1)) (pv 0) (nomark _))) pss_nil),?_⟩
  have hm:∀ x:Int×Int×Unit,(fun x:Int×Int×Unit=>m_within x.1 x.2.1) x = (m_within_b x.1 x.2.1).run:=fun _=>by unfold m_within; rfl
  have hN:N_within.length = Args.num (Int×Int×Unit) + 0:=rfl
  refine fn_run (Bs:=fun _=>uns 2) (n:=0) (m:=fun x=>m_within_b x.1 x.2.1) h ?hN ?hm ?hd
  case hN=>exact hN
  case hm=>exact hm
  intro W x
  obtain ⟨v_one,v_other,⟨⟩⟩:=x
  show Den _ _ _ _ _ _ _ [(.fr v_one),(.fr v_other)] (m_within_b v_one v_other) (fun _=>uns 2)
  unfold m_within_b
  exact (d_ret (e_op2 o_eq (e_op2 (o_int Builtin.bitAnd) (e_var 0) (e_var 1) rfl) (e_var 0) rfl))
theorem ok_m_within (T:Glb mg) (R0:Raw c.K mg "within" "within" s_within) :
    Cal P w c.K mg base "within" 1 ["one","other"] (spF c (fun x:Int×Int×Unit=>m_within x.1 x.2.1) (fun x:Bool=>kFr c.K x)):=by
  obtain ⟨f,fd,gf,F⟩:=R0.ex
  exact ⟨f,fd,gf,F.kp,F.binds fun _ _ _ _ _ _ us hl=>match us,hl with | [_,_],_=>rfl,ok_m_within_F T F⟩
theorem ok_m_later_ones_F (T:Glb mg) {f:Addr} {fd:FuncData} (F:Fun c.K "later_ones" "later_ones" s_later_ones f fd)
    (C_m_within:Cal P w c.K mg base "within" 1 ["one","other"] (spF c (fun x:Int×Int×Unit=>m_within x.1 x.2.1) (fun x:Bool=>kFr c.K x))) :
    FnOk P w c.K mg base (L2.CX P w) 2 f fd ["states"] (spF c (fun x:(List Int)×Unit=>m_later_ones x.1) (fun x:(List (List Int))=>kNw c.K x)):=by
  obtain ⟨f_m_within,fd_m_within,g_m_within,k_m_within,b_m_within,G_m_within⟩:=C_m_within.ex
  have nd:=sc_later_ones.nd
  refine F.okX sc_later_ones (fun vs H Q E h=>spF_len vs H Q E h) (fun cdv A outer s H vs Q E hr h=>?_)
  refine ⟨_,(pss_cons (ps_set (i:=1) nd rfl (by trivial) (pe_lst pa_nil)) (pss_cons (ps_for (passes_of rfl) rfl (pi_range1 (by rfl) T.b_range (pa_cons (pe_callB (r:=Fw.rLen c.K) call_len_seq (by rfl) T.b_len (by decide +kernel) (pa_cons (pv 0) pa_nil)) pa_nil)) (pg_name (i:=2) nd rfl (by trivial)) (pss_cons (ps_expr (pe_bm PySem.F.plainAttrs_list PySem.F.slot_list_append PySem.F.type_list_append mt_append (pv 1) (pa_cons (pe_lc (own:=[("other",3)]) (by rfl) nd (pi_range2 (by rfl) T.b_range (pa_cons (pe_op op_add (pv 2) pe_int) (pa_cons (pe_callB (r:=Fw.rLen c.K) call_len_seq (by rfl) T.b_len (by decide +kernel) (pa_cons (pv 0) pa_nil)) pa_nil))) (blkOk_by (own:=[("other",3)]) (N:=N_later_ones) (sc:=(defScope s_later_ones)) (by decide +kernel)) (fun _ _ _ _ _=>(pg_name (i:=3) nd rfl (by trivial))) (fun _ _ _ _ _=>(pts_one (pt_val (pe_callS G_m_within (hr.mono (by decide)) (by rfl) g_m_within k_m_within b_m_within (fun σ=>passAt takes0 σ) (pa_cons (pe_ix (r:=rIxL c.K) ix_list (pv 0) (pv 3) (fun _ _=>rfl)) (pa_cons (pe_ix (r:=rIxL c.K) ix_list (pv 0) (pv 2) (fun _ _=>rfl)) pa_nil)))))) (fun _ _ _ _ _=>(pv 3))) pa_nil))) pss_nil)) (pss_cons (ps_ret (pv 1)) pss_nil))),?_⟩
  have hm:∀ x:(List Int)×Unit,(fun x:(List Int)×Unit=>m_later_ones x.1) x = (m_later_ones_b x.1).run:=fun _=>by unfold m_later_ones; rfl
  have hN:N_later_ones.length = Args.num ((List Int)×Unit) + 3:=rfl
  refine fn_run (Bs:=fun _=>uns 4) (n:=3) (m:=fun x=>m_later_ones_b x.1) h ?hN ?hm ?hd
  case hN=>exact hN
  case hm=>exact hm
  intro W x
  obtain ⟨v_states,⟨⟩⟩:=x
  show Den _ _ _ _ _ _ _ [(.fr v_states),.un,.un,.un] (m_later_ones_b v_states) (fun _=>uns 4)
  unfold m_later_ones_b
  exact (d_letN 1 e_nil fun v_told_1=>(d_for (Bs:=(fun (s3:(List (List Int)))=>[(.fr v_states),(.ow none s3),.un,.un])) (wk_uns rfl) (i_rng1 (exr_p (e_opA (x:=(v_states,())) o_lenL (a_cons (e_sh (e_var 0)) a_nil) rfl))) (.same (.same (.same (.same .nil)))) (fun _ _=>(g_name 2)) (fun s3 x4 B22=>(d_app 1 rfl (wk_uns rfl) (r_fz (r_lcG (ixh (i_rng2 (exr_p (e_op2 (o_int fun i j=>i + j) (e_var 2) (e_int _) rfl)) (exr_p (e_opA (x:=(v_states,())) o_lenL (a_cons (e_sh (e_var 0)) a_nil) rfl)))) (gs_name 3) (fun x7=>(tr_B (r_call (aar_cons (r_op2 o_ixL (exr_p (e_sh (e_var 0))) (exr_p (e_var 3))) (aar_cons (r_op2 o_ixL (exr_p (e_sh (e_var 0))) (exr_p (e_var 2))) aar_nil))))) (fun x7=>(exr_p (e_var 3))))) fun v_told_18=>(d_nx (.same (.same (.drop (.same .nil))))))) (fun s20=>(d_retO 1 rfl rfl))))
theorem ok_m_later_ones (T:Glb mg) (R0:Raw c.K mg "later_ones" "later_ones" s_later_ones)
    (C_m_within:Cal P w c.K mg base "within" 1 ["one","other"] (spF c (fun x:Int×Int×Unit=>m_within x.1 x.2.1) (fun x:Bool=>kFr c.K x))) :
    Cal P w c.K mg base "later_ones" 2 ["states"] (spF c (fun x:(List Int)×Unit=>m_later_ones x.1) (fun x:(List (List Int))=>kNw c.K x)):=by
  obtain ⟨f,fd,gf,F⟩:=R0.ex
  exact ⟨f,fd,gf,F.kp,F.binds fun _ _ _ _ _ _ us hl=>match us,hl with | [_],_=>rfl,ok_m_later_ones_F T F C_m_within⟩
theorem ok_m_find_next_F (T:Glb mg) {f:Addr} {fd:FuncData} (F:Fun c.K "find_next" "find_next" s_find_next f fd) {n_:Nat} (C_m_find_next:Cal P w c.K mg base "find_next" (n_ + 1) ["one","later","ahead","seen"] (spIO2 c (fun (a:Int×(List (List Int))×Unit) (x:(List (Option Int))) (y:(Dk Int Bool))=>m_find_next n_ a.1 a.2.1 x y) (fun x:Bool=>kFr c.K x))) :
    FnOk P w c.K mg base (L2.CX P w) (n_ + 1 + 1) f fd ["one","later","ahead","seen"] (spIO2 c (fun (a:Int×(List (List Int))×Unit) (x:(List (Option Int))) (y:(Dk Int Bool))=>m_find_next (n_ + 1) a.1 a.2.1 x y) (fun x:Bool=>kFr c.K x)):=by
  obtain ⟨f_m_find_next,fd_m_find_next,g_m_find_next,k_m_find_next,b_m_find_next,G_m_find_next⟩:=C_m_find_next.ex
  have nd:=sc_find_next.nd
  refine F.okX sc_find_next (fun vs H Q E h=>spIO2_len vs H Q E h) (fun cdv A outer s H vs Q E hr h=>?_)
  refine ⟨_,(pss_cons (ps_for (passes_of rfl) rfl (pi_list (pe_ix (r:=rIxL c.K) ix_list (pv 1) (pv 0) (fun _ _=>rfl))) (pg_name (i:=4) nd rfl (by trivial)) (pss_cons (ps_if (pt_cmp (pc_dniO (hu1 hr) (pv 4) (pv 3))) (pss_cons (ps_dput (hu1 hr) (pv 3) (pv 4) pe_bl rfl) (pss_cons (ps_if (PW.pt (pw_or (pt_cmpR op_isN (pe_ix (r:=rIxL c.K) ix_list (pv 2) (pv 4) (fun _ _=>rfl)) pe_non (nomark _)) (pw_or1 (pt_val (pe_callS G_m_find_next (hr.mono (by omega)) (by rfl) g_m_find_next k_m_find_next b_m_find_next (fun σ=>passAt (takes_of rfl rfl rfl rfl) σ) (pa_cons (pe_ix (r:=rIxL c.K) ix_list (pv 2) (pv 4) (fun _ _=>rfl)) (pa_cons (pv 1) (pa_cons (pv 2) (pa_cons (pv 3) pa_nil))))))))) (pss_cons (ps_asg (pv 0) (pg_sub (pv 2) (pv 4) set_list)) (pss_cons (ps_ret pe_bl) pss_nil)) pss_nil) pss_nil)) pss_nil) pss_nil)) (pss_cons (ps_ret pe_bl) pss_nil)),?_⟩
  refine fn_ioR2 (n:=1) (m:=fun a x y=>m_find_next_b (m_find_next n_)  a.1 a.2.1 x y) plain_fr h ?hN ?hm ?hd
  case hN=>exact rfl
  case hm=>exact fun _ _ _=>rfl
  intro W a v_ahead v_seen pinp pinq
  obtain ⟨v_one,v_later,⟨⟩⟩:=a
  show Den _ _ _ _ _ _ _ [(.fr v_one),(.fr v_later),(.ow (some (.ref pinp)) v_ahead),(.ow (some (.ref pinq)) v_seen),.un] (m_find_next_b (m_find_next n_)  v_one v_later v_ahead v_seen) noSl
  unfold m_find_next_b
  exact (d_for (Bs:=(fun (s3:((List (Option Int))×(Dk Int Bool)))=>[(.fr v_one),(.fr v_later),(.ow (some (.ref pinp)) s3.1),(.ow (some (.ref pinq)) s3.2),.un])) (wk_uns rfl) (i_list (r_op2 o_ixL (exr_p (e_sh (e_var 1))) (exr_p (e_var 0)))) (.same (.same (.same (.same (.same .nil))))) (fun _ _=>(g_name 4)) (fun s3 x4 B31=>(d_ifp (Bs:=(fun (s5:((List (Option Int))×(Dk Int Bool)))=>[(.fr v_one),(.fr v_later),(.ow (some (.ref pinp)) s5.1),(.ow (some (.ref pinq)) s5.2),(.fr x4)])) (t_B (e_op2 o_dni (e_var 4) (e_varD 3) rfl)) (d_dput 3 rfl (wk_uns rfl) (exr_p (e_bl _)) (exr_p (e_var 4)) fun v_seen_6=>(d_ifc2 (a:=fun (v_ahead_17:(List (Option Int))) (v_seen_18:(Dk Int Bool))=>(R.to (R.ok (some v_one)) fun t22=>R.to (R.ok x4) fun t23=>R.to (R.set v_ahead_17 t23 t22) fun (v_ahead_20:(List (Option Int)))=>
  (R.to (R.ok true) fun r21=>.rt (r21,(v_ahead_20,v_seen_18))))) (k:=fun (v_ahead_17:(List (Option Int))) (v_seen_18:(Dk Int Bool))=>(.nx (v_ahead_17,v_seen_18))) 2 3 (by decide) rfl rfl (wk_uns rfl) (tr_e (r_op2 o_isN (r_op2 o_ixL (exr_p (e_varS 2)) (exr_p (e_var 4))) (exr_p e_unit))) (ax2_cons (r_get (r_op2 o_ixL (exr_p (e_varS 2)) (exr_p (e_var 4)))) (ax2_cons (exr_p (e_var 1)) ax2_here)) (fun v_ahead_17 v_seen_18=>(d_setL 2 rfl (wk_uns rfl) (exr_p (e_some (e_var 0))) (exr_p (e_var 4)) fun v_ahead_20=>(d_retIO2 2 3 (by decide) rfl rfl (wk_uns rfl) (exr_p (e_bl _))))) (fun v_ahead_17 v_seen_18=>(d_nx (.same (.same (.same (.same (.same .nil))))))))) (d_nx (.same (.same (.same (.same (.same .nil)))))) (fun s5=>(d_nx (.same (.same (.same (.same (.drop .nil))))))))) (fun s28=>(d_retIO2 2 3 (by decide) rfl rfl (wk_uns rfl) (exr_p (e_bl _)))))
theorem ok_m_find_next_0 (T:Glb mg) {f:Addr} {fd:FuncData} (F:Fun c.K "find_next" "find_next" s_find_next f fd) :
    FnOk P w c.K mg base (L2.CX P w) (0 + 1) f fd ["one","later","ahead","seen"] (spIO2 c (fun (a:Int×(List (List Int))×Unit) (x:(List (Option Int))) (y:(Dk Int Bool))=>m_find_next 0 a.1 a.2.1 x y) (fun x:Bool=>kFr c.K x)):=by
  refine F.okX (k:=0) sc_find_next (fun vs H Q E h=>spIO2_len vs H Q E h) (fun cdv A outer s H vs Q E hr h=>?_)
  obtain ⟨_,_,_,_,_,_,_,_,_,_,_,_,_,k⟩:=h
  exact ⟨_,pss_no _,False.elim k⟩
theorem ok_m_find_next (T:Glb mg) (R0:Raw c.K mg "find_next" "find_next" s_find_next) :
    ∀ n_:Nat,Cal P w c.K mg base "find_next" (n_ + 1) ["one","later","ahead","seen"] (spIO2 c (fun (a:Int×(List (List Int))×Unit) (x:(List (Option Int))) (y:(Dk Int Bool))=>m_find_next n_ a.1 a.2.1 x y) (fun x:Bool=>kFr c.K x)):=by
  obtain ⟨f,fd,gf,F⟩:=R0.ex
  intro n_
  induction n_ with
  | zero=>exact ⟨f,fd,gf,F.kp,F.binds fun _ _ _ _ _ _ us hl=>match us,hl with | [_,_,_,_],_=>rfl,ok_m_find_next_0 T F⟩
  | succ n_ ih=>exact ⟨f,fd,gf,F.kp,F.binds fun _ _ _ _ _ _ us hl=>match us,hl with | [_,_,_,_],_=>rfl,ok_m_find_next_F T F ih⟩
theorem ok_m_chain_from_F (T:Glb mg) {f:Addr} {fd:FuncData} (F:Fun c.K "chain_from" "chain_from" s_chain_from f fd) :
    FnOk P w c.K mg base (L2.CX P w) 1 f fd ["first","nexts"] (spF c (fun x:Int×(Dk Int Int)×Unit=>m_chain_from x.1 x.2.1) (fun x:(List Int)=>kNw c.K x)):=by
  have nd:=sc_chain_from.nd
  refine F.okX sc_chain_from (fun vs H Q E h=>spF_len vs H Q E h) (fun cdv A outer s H vs Q E hr h=>?_)
  refine ⟨_,(pss_cons (ps_set (i:=2) nd rfl (by trivial) (pe_lst (pa_cons (pv 0) pa_nil))) (pss_cons (ps_while (passes_of rfl) (pt_cmp (pc_dinO (hu1 hr) (pe_ix (r:=rIxL c.K) ix_list (pv 2) (pe_un un_neg pe_int) (fun _ _=>rfl)) (pv 1))) (pss_cons (ps_expr (pe_bm PySem.F.plainAttrs_list PySem.F.slot_list_append PySem.F.type_list_append mt_append (pv 2) (pa_cons (pe_dgetO (hu1 hr) (pv 1) (pe_ix (r:=rIxL c.K) ix_list (pv 2) (pe_un un_neg pe_int) (fun _ _=>rfl))) pa_nil))) pss_nil)) (pss_cons (ps_ret (pv 2)) pss_nil))),?_⟩
  have hm:∀ x:Int×(Dk Int Int)×Unit,(fun x:Int×(Dk Int Int)×Unit=>m_chain_from x.1 x.2.1) x = (m_chain_from_b x.1 x.2.1).run:=fun _=>by unfold m_chain_from; rfl
  have hN:N_chain_from.length = Args.num (Int×(Dk Int Int)×Unit) + 1:=rfl
  refine fn_run (Bs:=fun _=>uns 3) (n:=1) (m:=fun x=>m_chain_from_b x.1 x.2.1) h ?hN ?hm ?hd
  case hN=>exact hN
  case hm=>exact hm
  intro W x
  obtain ⟨v_first,v_nexts,⟨⟩⟩:=x
  show Den _ _ _ _ _ _ _ [(.fr v_first),(.fr v_nexts),.un] (m_chain_from_b v_first v_nexts) (fun _=>uns 3)
  unfold m_chain_from_b
  exact (d_letN 2 (e_lst (xs:=[v_first]) (a_cons (e_var 0) a_nil) (szl (n:=1) rfl (by decide))) fun v_chain_1=>(d_while (Bs:=(fun (s2:(List Int))=>[(.fr v_first),(.fr v_nexts),(.ow none s2)])) 1000 (.same (.same (.same .nil))) (fun _=>(wk_uns rfl)) (fun s2 _=>(tr_B (r_op2 o_din (r_op2 o_ixL (exr_p (e_varS 2)) (exr_p (e_op1 o_neg (e_int _) rfl))) (exr_p (e_dsF (e_var 1)))))) (fun s2=>(d_app 2 rfl (wk_uns rfl) (r_op2 o_dget (exr_p (e_dsF (e_var 1))) (r_op2 o_ixL (exr_p (e_varS 2)) (exr_p (e_op1 o_neg (e_int _) rfl)))) fun v_chain_11=>(d_nx (.same (.same (.same .nil)))))) (fun s13=>(d_retO 2 rfl rfl))))
theorem ok_m_chain_from (T:Glb mg) (R0:Raw c.K mg "chain_from" "chain_from" s_chain_from) :
    Cal P w c.K mg base "chain_from" 1 ["first","nexts"] (spF c (fun x:Int×(Dk Int Int)×Unit=>m_chain_from x.1 x.2.1) (fun x:(List Int)=>kNw c.K x)):=by
  obtain ⟨f,fd,gf,F⟩:=R0.ex
  exact ⟨f,fd,gf,F.kp,F.binds fun _ _ _ _ _ _ us hl=>match us,hl with | [_,_],_=>rfl,ok_m_chain_from_F T F⟩
theorem ok_m_reached_from_F (T:Glb mg) {f:Addr} {fd:FuncData} (F:Fun c.K "reached_from" "reached_from" s_reached_from f fd) :
    FnOk P w c.K mg base (L2.CX P w) 1 f fd ["free","later","ahead"] (spF c (fun x:(List Int)×(List (List Int))×(List (Option Int))×Unit=>m_reached_from x.1 x.2.1 x.2.2.1) (fun x:((Dk Int Bool)×(Dk Int Bool))=>kFr c.K x)):=by
  have nd:=sc_reached_from.nd
  refine F.okX sc_reached_from (fun vs H Q E h=>spF_len vs H Q E h) (fun cdv A outer s H vs Q E hr h=>?_)
  refine ⟨_,(pss_cons (ps_set (i:=3) nd rfl (by trivial) pe_dnewK) (pss_cons (ps_set (i:=4) nd rfl (by trivial) pe_dnewK) (pss_cons (ps_set (i:=5) nd rfl (by trivial) (pe_callTy call_list_of (by rfl) T.b_list (by decide +kernel) (pa_cons (pv 0) pa_nil))) (pss_cons (ps_while (passes_of rfl) (pt_cmpR (r:=rNeD c.K) (op_neD (hu64 hr)) (pv 5) (pe_lst pa_nil) (nomark _)) (pss_cons (ps_set (i:=6) nd rfl (by trivial) (pe_bm0 PySem.F.plainAttrs_list PySem.F.slot_list_pop PySem.F.type_list_pop mt_pop (pv 5))) (pss_cons (ps_dput (hu1 hr) (pv 3) (pv 6) pe_bl rfl) (pss_cons (ps_for (passes_of rfl) rfl (pi_list (pe_ix (r:=rIxL c.K) ix_list (pv 1) (pv 6) (fun _ _=>rfl))) (pg_name (i:=7) nd rfl (by trivial)) (pss_cons (ps_if (pt_cmp (pc_dniO (hu1 hr) (pv 7) (pv 4))) (pss_cons (ps_dput (hu1 hr) (pv 4) (pv 7) pe_bl rfl) (pss_cons (ps_if (pt_cmp (pc_dniO (hu1 hr) (pe_ix (r:=rIxL c.K) ix_list (pv 2) (pv 7) (fun _ _=>rfl)) (pv 3))) (pss_cons (ps_expr (pe_bm PySem.F.plainAttrs_list PySem.F.slot_list_append PySem.F.type_list_append mt_append (pv 5) (pa_cons (pe_ix (r:=rIxL c.K) ix_list (pv 2) (pv 7) (fun _ _=>rfl)) pa_nil))) pss_nil) pss_nil) pss_nil)) pss_nil) pss_nil)) pss_nil)))) (pss_lk (pss_lk (pss_cons (ps_ret (pe_tup (pa_cons (pv 3) (pa_cons (pv 4) pa_nil)))) pss_nil))))))),?_⟩
  have hm:∀ x:(List Int)×(List (List Int))×(List (Option Int))×Unit,(fun x:(List Int)×(List (List Int))×(List (Option Int))×Unit=>m_reached_from x.1 x.2.1 x.2.2.1) x = (m_reached_from_b x.1 x.2.1 x.2.2.1).run:=fun _=>by unfold m_reached_from; rfl
  have hN:N_reached_from.length = Args.num ((List Int)×(List (List Int))×(List (Option Int))×Unit) + 5:=rfl
  refine fn_run (Bs:=fun _=>uns 8) (n:=5) (m:=fun x=>m_reached_from_b x.1 x.2.1 x.2.2.1) h ?hN ?hm ?hd
  case hN=>exact hN
  case hm=>exact hm
  intro W x
  obtain ⟨v_free,v_later,v_ahead,⟨⟩⟩:=x
  show Den _ _ _ _ _ _ _ [(.fr v_free),(.fr v_later),(.fr v_ahead),.un,.un,.un,.un,.un] (m_reached_from_b v_free v_later v_ahead) (fun _=>uns 8)
  unfold m_reached_from_b
  exact (d_letN 3 (e_dnew rfl) fun v_firsts_1=>(d_letN 4 (e_dnew rfl) fun v_passed_2=>(d_letN 5 (e_opA (x:=(v_free,())) o_list (a_cons (e_sh (e_var 0)) a_nil) rfl) fun v_todo_3=>(d_while (Bs:=(fun (s4:((Dk Int Bool)×(Dk Int Bool)×(List Int)))=>[(.fr v_free),(.fr v_later),(.fr v_ahead),(.ow none s4.1),(.ow none s4.2.1),(.ow none s4.2.2),.un,.un])) 1000 (.same (.same (.same (.same (.same (.same (.same (.same .nil)))))))) (fun _=>(wk_uns rfl)) (fun s4 _=>(txr_p (t_e (e_op2 (o_neB (α:=(List Int))) (e_varB 5) (e_bwN e_nil) rfl)))) (fun s4=>(d_pop (k:=fun (v_one_5:Int) (v_todo_6:(List Int))=>
  (R.to (R.ok true) fun t30=>R.to (R.ok v_one_5) fun t31=>R.to (R.dput s4.1 t31 t30) fun (v_firsts_8:(Dk Int Bool))=>
  (R.to ((R.ok v_later).bind fun t9=>(R.ok v_one_5).bind fun t10=>(R.ix t9 t10)) fun l28=>Out.bind (forL l28 (s4.2.1,v_todo_6) (fun (s11:((Dk Int Bool)×(List Int))) (x12:Int)=>
   (Out.bind (if (!(dval s11.1.l x12).isSome) then (R.to (R.ok true) fun t25=>R.to (R.ok x12) fun t26=>R.to (R.dput s11.1 t26 t25) fun (v_passed_14:(Dk Int Bool))=>
  (R.to ((((R.ok v_ahead).bind fun t15=>(R.ok x12).bind fun t16=>(R.ix t15 t16)).bind R.opt).bind fun t17=>(R.ok v_firsts_8).bind fun t18=>(R.ok (!(dval t18.l t17).isSome))) fun b24=>Out.bind (if b24 then (R.to (((R.ok v_ahead).bind fun t20=>(R.ok x12).bind fun t21=>(R.ix t20 t21)).bind R.opt) fun t23=>R.to (R.app s11.2 t23) fun (v_todo_22:(List Int))=>
  (.nx v_todo_22)) else (.nx s11.2)) fun (s19:(List Int))=>
  (.nx (v_passed_14,s19)))) else (.nx (s11.1,s11.2))) fun (s13:((Dk Int Bool)×(List Int)))=>
  (.nx (s13.1,s13.2))))) fun (s27:((Dk Int Bool)×(List Int)))=>
  (.nx (v_firsts_8,s27.1,s27.2))))) 5 6 (by decide) rfl fun v_one_5 v_todo_6=>(d_dput 3 rfl (wk_uns rfl) (exr_p (e_bl _)) (exr_p (e_var 6)) fun v_firsts_8=>(d_for (Bs:=(fun (s11:((Dk Int Bool)×(List Int)))=>[(.fr v_free),(.fr v_later),(.fr v_ahead),(.ow none v_firsts_8),(.ow none s11.1),(.ow none s11.2),(.fr v_one_5),.un])) (wk_uns rfl) (i_list (r_op2 o_ixL (exr_p (e_sh (e_var 1))) (exr_p (e_var 6)))) (.same (.same (.same (.same (.same (.same (.same (.same .nil)))))))) (fun _ _=>(g_name 7)) (fun s11 x12 B29=>(d_ifp (Bs:=(fun (s13:((Dk Int Bool)×(List Int)))=>[(.fr v_free),(.fr v_later),(.fr v_ahead),(.ow none v_firsts_8),(.ow none s13.1),(.ow none s13.2),(.fr v_one_5),(.fr x12)])) (t_B (e_op2 o_dni (e_var 7) (e_varD 4) rfl)) (d_dput 4 rfl (wk_uns rfl) (exr_p (e_bl _)) (exr_p (e_var 7)) fun v_passed_14=>(d_if (Bs:=(fun (s19:(List Int))=>[(.fr v_free),(.fr v_later),(.fr v_ahead),(.ow none v_firsts_8),(.ow none v_passed_14),(.ow none s19),(.fr v_one_5),(.fr x12)])) (wk_uns rfl) (tr_B (r_op2 o_dni (r_get (r_op2 o_ixL (exr_p (e_sh (e_var 2))) (exr_p (e_var 7)))) (exr_p (e_varD 3)))) (d_app 5 rfl (wk_uns rfl) (r_get (r_op2 o_ixL (exr_p (e_sh (e_var 2))) (exr_p (e_var 7)))) fun v_todo_22=>(d_nx (.same (.same (.same (.same (.same (.same (.same (.same .nil)))))))))) (d_nx (.same (.same (.same (.same (.same (.same (.same (.same .nil))))))))) (fun s19=>(d_nx (.same (.same (.same (.same (.same (.same (.same (.same .nil)))))))))))) (d_nx (.same (.same (.same (.same (.same (.same (.same (.same .nil))))))))) (fun s13=>(d_nx (.same (.same (.same (.same (.same (.same (.same (.drop .nil)))))))))))) (fun s27=>(d_nx (.same (.same (.same (.same (.same (.same (.drop (.same .nil)))))))))))))) (fun s32=>(d_lkD 3 rfl (d_lkD 4 rfl (d_ret (e_pair (a_cons (e_var 3) (a_cons (e_var 4) a_nil)))))))))))
theorem ok_m_reached_from (T:Glb mg) (R0:Raw c.K mg "reached_from" "reached_from" s_reached_from) :
    Cal P w c.K mg base "reached_from" 1 ["free","later","ahead"] (spF c (fun x:(List Int)×(List (List Int))×(List (Option Int))×Unit=>m_reached_from x.1 x.2.1 x.2.2.1) (fun x:((Dk Int Bool)×(Dk Int Bool))=>kFr c.K x)):=by
  obtain ⟨f,fd,gf,F⟩:=R0.ex
  exact ⟨f,fd,gf,F.kp,F.binds fun _ _ _ _ _ _ us hl=>match us,hl with | [_,_,_],_=>rfl,ok_m_reached_from_F T F⟩
theorem ok_m_fewest_blocks_F (T:Glb mg) {f:Addr} {fd:FuncData} (F:Fun c.K "fewest_blocks" "fewest_blocks" s_fewest_blocks f fd)
    (C_m_later_ones:Cal P w c.K mg base "later_ones" 2 ["states"] (spF c (fun x:(List Int)×Unit=>m_later_ones x.1) (fun x:(List (List Int))=>kNw c.K x)))
    (C_m_find_next:Cal P w c.K mg base "find_next" 71 ["one","later","ahead","seen"] (spIO2 c (fun (a:Int×(List (List Int))×Unit) (x:(List (Option Int))) (y:(Dk Int Bool))=>m_find_next 70 a.1 a.2.1 x y) (fun x:Bool=>kFr c.K x)))
    (C_m_chain_from:Cal P w c.K mg base "chain_from" 1 ["first","nexts"] (spF c (fun x:Int×(Dk Int Int)×Unit=>m_chain_from x.1 x.2.1) (fun x:(List Int)=>kNw c.K x)))
    (C_m_reached_from:Cal P w c.K mg base "reached_from" 1 ["free","later","ahead"] (spF c (fun x:(List Int)×(List (List Int))×(List (Option Int))×Unit=>m_reached_from x.1 x.2.1 x.2.2.1) (fun x:((Dk Int Bool)×(Dk Int Bool))=>kFr c.K x))) :
    FnOk P w c.K mg base (L2.CX P w) 72 f fd ["states"] (spF c (fun x:(List Int)×Unit=>m_fewest_blocks x.1) (fun x:((List (List Int))×(List Int))=>kFr c.K x)):=by
  obtain ⟨f_m_later_ones,fd_m_later_ones,g_m_later_ones,k_m_later_ones,b_m_later_ones,G_m_later_ones⟩:=C_m_later_ones.ex
  obtain ⟨f_m_find_next,fd_m_find_next,g_m_find_next,k_m_find_next,b_m_find_next,G_m_find_next⟩:=C_m_find_next.ex
  obtain ⟨f_m_chain_from,fd_m_chain_from,g_m_chain_from,k_m_chain_from,b_m_chain_from,G_m_chain_from⟩:=C_m_chain_from.ex
  obtain ⟨f_m_reached_from,fd_m_reached_from,g_m_reached_from,k_m_reached_from,b_m_reached_from,G_m_reached_from⟩:=C_m_reached_from.ex
  have nd:=sc_fewest_blocks.nd
  refine F.okX sc_fewest_blocks (fun vs H Q E h=>spF_len vs H Q E h) (fun cdv A outer s H vs Q E hr h=>?_)
  refine ⟨_,(pss_cons (ps_set (i:=1) nd rfl (by trivial) (pe_callS G_m_later_ones (hr.mono (by decide)) (by rfl) g_m_later_ones k_m_later_ones b_m_later_ones (fun σ=>passAt (takes_of rfl rfl rfl rfl) σ) (pa_cons (pv 0) pa_nil))) (pss_cons (ps_set (i:=2) nd rfl (by trivial) (pe_op op_rep (pe_lst (pa_cons pe_non pa_nil)) (pe_callB (r:=Fw.rLen c.K) call_len_seq (by rfl) T.b_len (by decide +kernel) (pa_cons (pv 0) pa_nil)))) (pss_cons (ps_for (passes_of rfl) rfl (pi_range1 (by rfl) T.b_range (pa_cons (pe_callB (r:=Fw.rLen c.K) call_len_seq (by rfl) T.b_len (by decide +kernel) (pa_cons (pv 0) pa_nil)) pa_nil)) (pg_name (i:=3) nd rfl (by trivial)) (pss_cons (ps_expr (pe_callS G_m_find_next (hr.mono (by decide)) (by rfl) g_m_find_next k_m_find_next b_m_find_next (fun σ=>passAt (takes_of rfl rfl rfl rfl) σ) (pa_cons (pv 3) (pa_cons (pv 1) (pa_cons (pv 2) (pa_cons pe_dnewK pa_nil)))))) pss_nil)) (pss_cons (ps_set (i:=4) nd rfl (by trivial) pe_dnewK) (pss_cons (ps_for (passes_of rfl) rfl (pi_enum (by rfl) T.b_enumerate (pa_cons (pv 2) pa_nil)) (pg_tup (by rfl) (pgs_cons (pg_name (i:=5) nd rfl (by trivial)) (pgs_cons (pg_name (i:=3) nd rfl (by trivial)) pgs_nil))) (pss_cons (ps_if (pt_cmpR op_notN (pv 3) pe_non (nomark _)) (pss_cons (ps_dput (hu1 hr) (pv 4) (pv 3) (pv 5) rfl) pss_nil) pss_nil) pss_nil)) (pss_lk (pss_cons (ps_setLc (i:=6) (own:=[("one",3)]) (by rfl) nd rfl (by rfl) (sw_true rfl (by rfl) rfl (by decide +kernel)) (pi_range1 (by rfl) T.b_range (pa_cons (pe_callB (r:=Fw.rLen c.K) call_len_seq (by rfl) T.b_len (by decide +kernel) (pa_cons (pv 0) pa_nil)) pa_nil)) (blkOk_by (own:=[("one",3)]) (N:=N_fewest_blocks) (sc:=(defScope s_fewest_blocks)) (by decide +kernel)) (fun _ _ _ _ _=>(pg_name (i:=3) nd rfl (by trivial))) (fun _ _ _ _ _=>(pts_one (pt_cmpR op_isN (pe_ix (r:=rIxL c.K) ix_list (pv 2) (pv 3) (fun _ _=>rfl)) pe_non (nomark _)))) (fun _ _ _ _ _=>(pe_callS G_m_chain_from (hr.mono (by decide)) (by rfl) g_m_chain_from k_m_chain_from b_m_chain_from (fun σ=>passAt takes0 σ) (pa_cons (pv 3) (pa_cons (pv 4) pa_nil))))) (pss_cons (ps_asg (pe_callS G_m_reached_from (hr.mono (by decide)) (by rfl) g_m_reached_from k_m_reached_from b_m_reached_from (fun σ=>passAt (takes_of rfl rfl rfl rfl) σ) (pa_cons (pe_lc (own:=[("one",3)]) (by rfl) nd (pi_range1 (by rfl) T.b_range (pa_cons (pe_callB (r:=Fw.rLen c.K) call_len_seq (by rfl) T.b_len (by decide +kernel) (pa_cons (pv 0) pa_nil)) pa_nil)) (blkOk_by (own:=[("one",3)]) (N:=N_fewest_blocks) (sc:=(defScope s_fewest_blocks)) (by decide +kernel)) (fun _ _ _ _ _=>(pg_name (i:=3) nd rfl (by trivial))) (fun _ _ _ _ _=>(pts_one (pt_cmp (pc_dniO (hu1 hr) (pv 3) (pv 4))))) (fun _ _ _ _ _=>(pv 3))) (pa_cons (pv 1) (pa_cons (pv 2) pa_nil)))) (pg_tup (by rfl) (pgs_cons (pg_name (i:=7) nd rfl (by trivial)) (pgs_cons (pg_name (i:=8) nd rfl (by trivial)) pgs_nil)))) (pss_cons (ps_ret (pe_tup (pa_cons (pv 6) (pa_cons (pe_lc (own:=[("one",3)]) (by rfl) nd (pi_range1 (by rfl) T.b_range (pa_cons (pe_callB (r:=Fw.rLen c.K) call_len_seq (by rfl) T.b_len (by decide +kernel) (pa_cons (pv 0) pa_nil)) pa_nil)) (blkOk_by (own:=[("one",3)]) (N:=N_fewest_blocks) (sc:=(defScope s_fewest_blocks)) (by decide +kernel)) (fun _ _ _ _ _=>(pg_name (i:=3) nd rfl (by trivial))) (fun _ _ _ _ _=>(pts_one (PW.pt (pw_and (pt_cmp (pc_dinO (hu1 hr) (pv 3) (pv 7))) (pw_and1 (pt_cmp (pc_dniO (hu1 hr) (pv 3) (pv 8)))))))) (fun _ _ _ _ _=>(pv 3))) pa_nil)))) pss_nil))))))))),?_⟩
  have hm:∀ x:(List Int)×Unit,(fun x:(List Int)×Unit=>m_fewest_blocks x.1) x = (m_fewest_blocks_b x.1).run:=fun _=>by unfold m_fewest_blocks; rfl
  have hN:N_fewest_blocks.length = Args.num ((List Int)×Unit) + 8:=rfl
  refine fn_run (Bs:=fun _=>uns 9) (n:=8) (m:=fun x=>m_fewest_blocks_b x.1) h ?hN ?hm ?hd
  case hN=>exact hN
  case hm=>exact hm
  intro W x
  obtain ⟨v_states,⟨⟩⟩:=x
  show Den _ _ _ _ _ _ _ [(.fr v_states),.un,.un,.un,.un,.un,.un,.un,.un] (m_fewest_blocks_b v_states) (fun _=>uns 9)
  unfold m_fewest_blocks_b
  exact (d_get 1 (wk_uns rfl) (r_fz (r_call1 (aa_cons (e_var 0) aa_nil) rfl)) fun v_later_1=>(d_getN 2 (wk_uns rfl) (r_op2 o_rep (exr_p (e_lsN (e_lst (xs:=[(none:(Option Int))]) (a_cons (e_none e_unit) a_nil) (szl (n:=1) rfl (by decide))))) (exr_p (e_opA (x:=(v_states,())) o_lenL (a_cons (e_sh (e_var 0)) a_nil) rfl))) fun v_ahead_4=>(d_for (Bs:=(fun (s6:(List (Option Int)))=>[(.fr v_states),(.fr v_later_1),(.ow none s6),.un,.un,.un,.un,.un,.un])) (wk_uns rfl) (i_rng1 (exr_p (e_opA (x:=(v_states,())) o_lenL (a_cons (e_sh (e_var 0)) a_nil) rfl))) (.same (.same (.same (.same (.same (.same (.same (.same (.same .nil))))))))) (fun _ _=>(g_nameS 3)) (fun s6 x7 B63=>(d_call2t (k:=fun (v_ahead_14:(List (Option Int)))=>
  (.nx v_ahead_14)) 2 rfl (wk_uns rfl) (ax2t_cons (r_get (exr_p (e_var 3))) (ax2t_cons (exr_p (e_var 1)) (ax2t_here (e_dnew rfl)))) fun v_ahead_14=>(d_nx (.same (.same (.same (.drop (.same (.same (.same (.same (.same .nil)))))))))))) (fun s15=>(d_letN 4 (e_dnew rfl) fun v_nexts_16=>(d_fz 2 rfl (d_for (Bs:=(fun (s18:(Dk Int Int))=>[(.fr v_states),(.fr v_later_1),(.fr s15),.un,(.ow none s18),.un,.un,.un,.un])) (wk_uns rfl) (i_enum (exr_p (e_var 2))) (.same (.same (.same (.same (.same (.same (.same (.same (.same .nil))))))))) (fun _ _=>(g_tup2 5 3)) (fun s18 x19 B61=>(d_ifp (Bs:=(fun (s20:(Dk Int Int))=>[(.fr v_states),(.fr v_later_1),(.fr s15),(.fr x19.2),(.ow none s20),(.fr x19.1),.un,.un,.un])) (t_e (e_op2 o_notN (e_var 3) e_unit rfl)) (d_dput 4 rfl (wk_uns rfl) (exr_p (e_var 5)) (r_get (exr_p (e_var 3))) fun v_nexts_21=>(d_nx (.same (.same (.same (.same (.same (.same (.same (.same (.same .nil))))))))))) (d_nx (.same (.same (.same (.same (.same (.same (.same (.same (.same .nil)))))))))) (fun s20=>(d_nx (.same (.same (.same (.drop (.same (.drop (.same (.same (.same .nil))))))))))))) (fun s24=>(d_lkD 4 rfl (d_get 6 (wk_uns rfl) (r_fz (r_lcG (ixh (i_rng1 (exr_p (e_opA (x:=(v_states,())) o_lenL (a_cons (e_sh (e_var 0)) a_nil) rfl)))) (gs_name 3) (fun x32=>(tr_e (r_op2 o_isN (r_op2 o_ixL (exr_p (e_sh (e_var 2))) (exr_p (e_var 3))) (exr_p e_unit)))) (fun x32=>(r_fz (r_call1 (aa_cons (e_var 3) (aa_cons (e_var 4) aa_nil)) rfl))))) fun v_chains_38=>(Fw.d_get2 7 8 (wk_uns rfl) (r_call (aar_cons (r_fz (r_lcT (ixh (i_rng1 (exr_p (e_opA (x:=(v_states,())) o_lenL (a_cons (e_sh (e_var 0)) a_nil) rfl)))) (gs_name 3) (fun x40=>(t_B (e_op2 o_dni (e_var 3) (e_dsF (e_var 4)) rfl))) (fun x40=>(e_var 3)))) (aar_cons (exr_p (e_var 1)) (aar_cons (exr_p (e_var 2)) aar_nil)))) fun v_firsts_49 v_passed_50=>(d_retR (wk_uns rfl) (r_pair (ar_cons (k:=fun (x:(List (List Int)))=>kFr c.K x) (exr_p (e_var 6)) (ar_cons (k:=fun (x:(List Int))=>kFr c.K x) (r_fz (r_lcT (ixh (i_rng1 (exr_p (e_opA (x:=(v_states,())) o_lenL (a_cons (e_sh (e_var 0)) a_nil) rfl)))) (gs_name 3) (fun x52=>(t_and (t_B (e_op2 o_din (e_var 3) (e_dsF (e_var 7)) rfl)) (t_B (e_op2 o_dni (e_var 3) (e_dsF (e_var 8)) rfl)))) (fun x52=>(e_var 3)))) (axr_p (k:=fun _=>aNil) a_nil))))))))))))))))
theorem ok_m_fewest_blocks (T:Glb mg) (R0:Raw c.K mg "fewest_blocks" "fewest_blocks" s_fewest_blocks)
    (C_m_later_ones:Cal P w c.K mg base "later_ones" 2 ["states"] (spF c (fun x:(List Int)×Unit=>m_later_ones x.1) (fun x:(List (List Int))=>kNw c.K x)))
    (C_m_find_next:Cal P w c.K mg base "find_next" 71 ["one","later","ahead","seen"] (spIO2 c (fun (a:Int×(List (List Int))×Unit) (x:(List (Option Int))) (y:(Dk Int Bool))=>m_find_next 70 a.1 a.2.1 x y) (fun x:Bool=>kFr c.K x)))
    (C_m_chain_from:Cal P w c.K mg base "chain_from" 1 ["first","nexts"] (spF c (fun x:Int×(Dk Int Int)×Unit=>m_chain_from x.1 x.2.1) (fun x:(List Int)=>kNw c.K x)))
    (C_m_reached_from:Cal P w c.K mg base "reached_from" 1 ["free","later","ahead"] (spF c (fun x:(List Int)×(List (List Int))×(List (Option Int))×Unit=>m_reached_from x.1 x.2.1 x.2.2.1) (fun x:((Dk Int Bool)×(Dk Int Bool))=>kFr c.K x))) :
    Cal P w c.K mg base "fewest_blocks" 72 ["states"] (spF c (fun x:(List Int)×Unit=>m_fewest_blocks x.1) (fun x:((List (List Int))×(List Int))=>kFr c.K x)):=by
  obtain ⟨f,fd,gf,F⟩:=R0.ex
  exact ⟨f,fd,gf,F.kp,F.binds fun _ _ _ _ _ _ us hl=>match us,hl with | [_],_=>rfl,ok_m_fewest_blocks_F T F C_m_later_ones C_m_find_next C_m_chain_from C_m_reached_from⟩
theorem ok_m_growing_F (T:Glb mg) {f:Addr} {fd:FuncData} (F:Fun c.K "_law_growing" "_law_growing" s_growing f fd) :
    FnOk P w c.K mg base (L2.CX P w) 1 f fd ["_law_states"] (spF c (fun x:(List Int)×Unit=>m_growing x.1) (fun x:Int=>kFr c.K x)):=by
  have nd:=sc_growing.nd
  refine F.okX sc_growing (fun vs H Q E h=>spF_len vs H Q E h) (fun cdv A outer s H vs Q E hr h=>?_)
  refine ⟨_,(pss_cons (ps_set (i:=1) nd rfl (by trivial) (pe_lst pa_nil)) (pss_cons (ps_for (passes_of rfl) rfl (pi_range1 (by rfl) T.b_range (pa_cons (pe_callB (r:=Fw.rLen c.K) call_len_seq (by rfl) T.b_len (by decide +kernel) (pa_cons (pv 0) pa_nil)) pa_nil)) (pg_name (i:=2) nd rfl (by trivial)) (pss_cons (ps_set (i:=3) nd rfl (by trivial) pe_int) (pss_cons (ps_for (passes_of rfl) rfl (pi_range1 (by rfl) T.b_range (pa_cons (pv 2) pa_nil)) (pg_name (i:=4) nd rfl (by trivial)) (pss_cons (ps_if (PW.pt (pw_and (pt_cmpR op_ne (pe_op op_or (pe_ix (r:=rIxL c.K) ix_list (pv 0) (pv 4) (fun _ _=>rfl)) (pe_ix (r:=rIxL c.K) ix_list (pv 0) (pv 2) (fun _ _=>rfl))) (pe_ix (r:=rIxL c.K) ix_list (pv 0) (pv 4) (fun _ _=>rfl)) (nomark _)) (pw_and1 (pt_cmpR op_ge (pe_ix (r:=rIxL c.K) ix_list (pv 1) (pv 4) (fun _ _=>rfl)) (pv 3) (nomark _))))) (pss_cons (ps_set (i:=3) nd rfl (by trivial) (pe_op op_add (pe_ix (r:=rIxL c.K) ix_list (pv 1) (pv 4) (fun _ _=>rfl)) pe_int)) pss_nil) pss_nil) pss_nil)) (pss_cons (ps_expr (pe_bm PySem.F.plainAttrs_list PySem.F.slot_list_append PySem.F.type_list_append mt_append (pv 1) (pa_cons (pv 3) pa_nil))) pss_nil)))) (pss_cons (ps_ret (pe_callB (r:=rMax c.K) (cr_max (by rfl)) (by rfl) T.b_max (by decide +kernel) (pa_cons (pv 1) pa_nil))) pss_nil))),?_⟩
  have hm:∀ x:(List Int)×Unit,(fun x:(List Int)×Unit=>m_growing x.1) x = (m_growing_b x.1).run:=fun _=>by unfold m_growing; rfl
  have hN:N_growing.length = Args.num ((List Int)×Unit) + 4:=rfl
  refine fn_run (Bs:=fun _=>uns 5) (n:=4) (m:=fun x=>m_growing_b x.1) h ?hN ?hm ?hd
  case hN=>exact hN
  case hm=>exact hm
  intro W x
  obtain ⟨v_states,⟨⟩⟩:=x
  show Den _ _ _ _ _ _ _ [(.fr v_states),.un,.un,.un,.un] (m_growing_b v_states) (fun _=>uns 5)
  unfold m_growing_b
  exact (d_letN 1 e_nil fun v_best_1=>(d_for (Bs:=(fun (s3:(List Int))=>[(.fr v_states),(.ow none s3),.un,.un,.un])) (wk_uns rfl) (i_rng1 (exr_p (e_opA (x:=(v_states,())) o_lenL (a_cons (e_sh (e_var 0)) a_nil) rfl))) (.same (.same (.same (.same (.same .nil))))) (fun _ _=>(g_name 2)) (fun s3 x4 B40=>(d_let 3 (e_int _) fun v_here_5=>(d_for (Bs:=(fun (s7:Int)=>[(.fr v_states),(.ow none s3),(.fr x4),(.fr s7),.un])) (wk_uns rfl) (i_rng1 (exr_p (e_var 2))) (.same (.same (.same (.same (.same .nil))))) (fun _ _=>(g_name 4)) (fun s7 x8 B34=>(d_if (Bs:=(fun (s23:Int)=>[(.fr v_states),(.ow none s3),(.fr x4),(.fr s23),(.fr x8)])) (wk_uns rfl) (tr_and (tr_e (r_op2 o_ne (r_op2 (o_int Builtin.bitOr) (r_op2 o_ixL (exr_p (e_sh (e_var 0))) (exr_p (e_var 4))) (r_op2 o_ixL (exr_p (e_sh (e_var 0))) (exr_p (e_var 2)))) (r_op2 o_ixL (exr_p (e_sh (e_var 0))) (exr_p (e_var 4))))) (tr_e (r_op2 (o_cmp fun i j=>decide (j ≤ i)) (r_op2 o_ixL (exr_p (e_varS 1)) (exr_p (e_var 4))) (exr_p (e_var 3))))) (d_get 3 (wk_uns rfl) (r_op2 (o_int fun i j=>i + j) (r_op2 o_ixL (exr_p (e_varS 1)) (exr_p (e_var 4))) (exr_p (e_int _))) fun v_here_28=>(d_nx (.same (.same (.same (.same (.same .nil))))))) (d_nx (.same (.same (.same (.same (.same .nil)))))) (fun s23=>(d_nx (.same (.same (.same (.same (.drop .nil))))))))) (fun s30=>(d_app 1 rfl (wk_uns rfl) (exr_p (e_var 3)) fun v_best_31=>(d_nx (.same (.same (.drop (.drop (.same .nil))))))))))) (fun s35=>(d_retR (wk_uns rfl) (r_opA o_maxL (ar_cons (k:=fun (x:(List Int))=>kSh c.K x) (exr_p (e_varS 1)) (axr_p (k:=fun _=>aNil) a_nil)))))))
theorem ok_m_growing (T:Glb mg) (R0:Raw c.K mg "_law_growing" "_law_growing" s_growing) :
    Cal P w c.K mg base "_law_growing" 1 ["_law_states"] (spF c (fun x:(List Int)×Unit=>m_growing x.1) (fun x:Int=>kFr c.K x)):=by
  obtain ⟨f,fd,gf,F⟩:=R0.ex
  exact ⟨f,fd,gf,F.kp,F.binds fun _ _ _ _ _ _ us hl=>match us,hl with | [_],_=>rfl,ok_m_growing_F T F⟩
theorem ok_m_law_F (T:Glb mg) {f cL PT:Addr} {oc kV doc pm ct:Value} {od an:Option Addr} {osl:Array (Option Value)} (lk:c.K.lookup f = some ⟨oc,od,.func (PySem.W.fnOf "law" "law" (defArgs s_law) (defBody s_law) (defScope s_law) .none kV doc pm an (.ref cL) ct),osl⟩) (hcd:PySem.W.codeIn c.K (.ref cL) "law" = true) (TB:LamX.TabB base mg cL PT)
    (C_m_cell_at:Cal P w c.K mg base "_law_cell_at" 1 ["_law_script","_law_k"] (spF c (fun x:(Sq Int)×Int×Unit=>m_cell_at x.1 x.2.1) (fun x:Int=>kFr c.K x)))
    (C_m_nested:Cal P w c.K mg base "_law_nested" 2 ["_law_script","_law_cells"] (spF c (fun x:(Sq Int)×Int×Unit=>m_nested x.1 x.2.1) (fun x:(List Int)=>kNw c.K x)))
    (C_m_mixed:Cal P w c.K mg base "_law_mixed" 1 ["_law_cell","_law_k"] (spF c (fun x:Int×Int×Unit=>m_mixed x.1 x.2.1) (fun x:Int=>kFr c.K x)))
    (C_m_fewest_blocks:Cal P w c.K mg base "fewest_blocks" 72 ["states"] (spF c (fun x:(List Int)×Unit=>m_fewest_blocks x.1) (fun x:((List (List Int))×(List Int))=>kFr c.K x)))
    (C_m_growing:Cal P w c.K mg base "_law_growing" 1 ["_law_states"] (spF c (fun x:(List Int)×Unit=>m_growing x.1) (fun x:Int=>kFr c.K x))) :
    FnOk P w c.K mg base (L2.CX P w) 73 f (PySem.W.fnOf "law" "law" (defArgs s_law) (defBody s_law) (defScope s_law) .none kV doc pm an (.ref cL) ct) ["_law_script"] (spTab c PT m_law):=by
  obtain ⟨f_m_cell_at,fd_m_cell_at,g_m_cell_at,k_m_cell_at,b_m_cell_at,G_m_cell_at⟩:=C_m_cell_at.ex
  obtain ⟨f_m_nested,fd_m_nested,g_m_nested,k_m_nested,b_m_nested,G_m_nested⟩:=C_m_nested.ex
  obtain ⟨f_m_mixed,fd_m_mixed,g_m_mixed,k_m_mixed,b_m_mixed,G_m_mixed⟩:=C_m_mixed.ex
  obtain ⟨f_m_fewest_blocks,fd_m_fewest_blocks,g_m_fewest_blocks,k_m_fewest_blocks,b_m_fewest_blocks,G_m_fewest_blocks⟩:=C_m_fewest_blocks.ex
  obtain ⟨f_m_growing,fd_m_growing,g_m_growing,k_m_growing,b_m_growing,G_m_growing⟩:=C_m_growing.ex
  have nd:=sc_law.nd
  refine fn_of lk hcd sc_law (fun vs H Q E h=>spTab_len vs H Q E h) (fun A outer s H vs Q E hr h=>?_)
  refine ⟨_,(pss_cons (ps_set (i:=1) nd rfl (by trivial) (pe_ix (r:=rIxL c.K) ix_list (pe_lst (pa_cons (pe_op op_add pe_int (pe_op op_mod (pe_op op_fdiv (pe_callS G_m_cell_at (hr.mono (by decide)) (by rfl) g_m_cell_at k_m_cell_at b_m_cell_at (fun σ=>passAt (takes_of rfl rfl rfl rfl) σ) (pa_cons (pv 0) (pa_cons pe_int pa_nil))) pe_int) pe_int)) (pa_cons pe_int (pa_cons pe_int (pa_cons pe_int pa_nil))))) (pe_op op_mod (pe_callS G_m_cell_at (hr.mono (by decide)) (by rfl) g_m_cell_at k_m_cell_at b_m_cell_at (fun σ=>passAt (takes_of rfl rfl rfl rfl) σ) (pa_cons (pv 0) (pa_cons pe_int pa_nil))) pe_int) (fun _ _=>rfl))) (pss_cons (ps_set (i:=2) nd rfl (by trivial) (pe_callS G_m_nested (hr.mono (by decide)) (by rfl) g_m_nested k_m_nested b_m_nested (fun σ=>passAt (takes_of rfl rfl rfl rfl) σ) (pa_cons (pv 0) (pa_cons (pv 1) pa_nil)))) (pss_cons (ps_set (i:=3) nd rfl (by trivial) (pe_callS G_m_mixed (hr.mono (by decide)) (by rfl) g_m_mixed k_m_mixed b_m_mixed (fun σ=>passAt (takes_of rfl rfl rfl rfl) σ) (pa_cons (pe_callS G_m_cell_at (hr.mono (by decide)) (by rfl) g_m_cell_at k_m_cell_at b_m_cell_at (fun σ=>passAt (takes_of rfl rfl rfl rfl) σ) (pa_cons (pv 0) (pa_cons pe_int pa_nil))) (pa_cons pe_int pa_nil)))) (pss_cons (ps_if (pt_cmpR op_eq (pe_op op_mod (pv 3) pe_int) pe_int (nomark _)) (pss_cons (ps_expr (pe_bm PySem.F.plainAttrs_list PySem.F.slot_list_insert PySem.F.type_list_insert (mt_insert:MtR _ _ rIns) (pv 2) (pa_cons (pe_op op_mod (pe_op op_fdiv (pv 3) pe_int) (pe_callB (r:=Fw.rLen c.K) call_len_seq (by rfl) T.b_len (by decide +kernel) (pa_cons (pv 2) pa_nil))) (pa_cons (pe_ix (r:=rIxL c.K) ix_list (pv 2) (pe_op op_mod (pe_op op_fdiv (pv 3) pe_int) (pe_callB (r:=Fw.rLen c.K) call_len_seq (by rfl) T.b_len (by decide +kernel) (pa_cons (pv 2) pa_nil))) (fun _ _=>rfl)) pa_nil)))) pss_nil) pss_nil) (pss_cons (ps_asg (pe_callS G_m_fewest_blocks (hr.mono (by decide)) (by rfl) g_m_fewest_blocks k_m_fewest_blocks b_m_fewest_blocks (fun σ=>passAt (takes_of rfl rfl rfl rfl) σ) (pa_cons (pv 2) pa_nil)) (pg_tup (by rfl) (pgs_cons (pg_name (i:=4) nd rfl (by trivial)) (pgs_cons (pg_name (i:=5) nd rfl (by trivial)) pgs_nil)))) (pss_cons (ps_if (PW.pt (pw_or (pt_cmpR (r:=rNeD c.K) (op_neD (hu64 hr)) (pv 4) (pe_lst (pa_cons (pe_listRg rfl (by rfl) T.b_list (prg_1 (by rfl) T.b_range (pe_callB (r:=Fw.rLen c.K) call_len_seq (by rfl) T.b_len (by decide +kernel) (pa_cons (pv 2) pa_nil)))) pa_nil)) (nomark _)) (pw_or1 (pt_cmpR op_ne (pe_callB (r:=Fw.rLen c.K) call_len_seq (by rfl) T.b_len (by decide +kernel) (pa_cons (pv 5) pa_nil)) pe_int (nomark _))))) (pss_cons (ps_ret pe_bl) pss_nil) pss_nil) (pss_cons (ps_set (i:=6) nd rfl (by trivial) (pe_slice3v (pv 2) po_none po_none (po_some (pe_un un_neg pe_int)))) (pss_cons (ps_asg (pe_callS G_m_fewest_blocks (hr.mono (by decide)) (by rfl) g_m_fewest_blocks k_m_fewest_blocks b_m_fewest_blocks (fun σ=>passAt (takes_of rfl rfl rfl rfl) σ) (pa_cons (pv 6) pa_nil)) (pg_tup (by rfl) (pgs_cons (pg_name (i:=4) nd rfl (by trivial)) (pgs_cons (pg_name (i:=5) nd rfl (by trivial)) pgs_nil)))) (pss_cons (ps_if (PW.pt (pw_or (pt_cmpR op_ne (pe_callB (r:=Fw.rLen c.K) call_len_seq (by rfl) T.b_len (by decide +kernel) (pa_cons (pv 4) pa_nil)) (pe_lenSetI (by rfl) (by rfl) T.b_len (by decide +kernel) (by rfl) T.b_set (by decide +kernel) (pv 6)) (nomark _)) (pw_or1 (pt_cmpR op_ne (pe_callB (r:=Fw.rLen c.K) call_len_seq (by rfl) T.b_len (by decide +kernel) (pa_cons (pv 5) pa_nil)) (pe_callB (r:=Fw.rLen c.K) call_len_seq (by rfl) T.b_len (by decide +kernel) (pa_cons (pv 4) pa_nil)) (nomark _))))) (pss_cons (ps_ret pe_bl) pss_nil) pss_nil) (pss_cons (ps_set (i:=7) nd rfl (by trivial) (LamK.pe_sortlam (i:=3) (par:="_law_one") (cap:="_law_number") (sc:=defScope s_law) (C:=fun n a=>CMulW (a + (1:Int)) n) (g:=fun n a=>(((a + (1:Int)) * n) % (((10:Int) ^ Int.toNat (30:Int)) + (57:Int)))) (by rfl) T.b_sorted (by decide +kernel) (pa_cons (pv 2) pa_nil) TB rfl hr rfl rfl rfl (by decide +kernel) rfl rfl rfl (by decide +kernel) rfl rfl (fun _ _ _ _ _ _=>rfl) (fun A env h m cc n a t u es hns hp hcc hcl hC=>(LamK.gi_mod (by decide) (LamK.gi_mulW hC (LamK.gi_add (LamK.gi_loc (by rw [es]) (by show env.scope.names.lookup _ = _; rw [es]; rfl) hns hp) LamK.gi_int) (LamK.gi_free (by rw [es]) (by show env.scope.names.lookup _ = _; rw [es]; rfl) hcc hcl)) (LamK.gi_add (LamK.gi_pow ⟨by decide,by decide,by decide⟩ LamK.gi_int LamK.gi_int) LamK.gi_int))))) (pss_cons (ps_asg (pe_callS G_m_fewest_blocks (hr.mono (by decide)) (by rfl) g_m_fewest_blocks k_m_fewest_blocks b_m_fewest_blocks (fun σ=>passAt (takes_of rfl rfl rfl rfl) σ) (pa_cons (pv 7) pa_nil)) (pg_tup (by rfl) (pgs_cons (pg_name (i:=4) nd rfl (by trivial)) (pgs_cons (pg_name (i:=5) nd rfl (by trivial)) pgs_nil)))) (pss_cons (ps_ret (pe_and (pe_cmpR op_eq (pe_callB (r:=Fw.rLen c.K) call_len_seq (by rfl) T.b_len (by decide +kernel) (pa_cons (pv 4) pa_nil)) (pe_callS G_m_growing (hr.mono (by decide)) (by rfl) g_m_growing k_m_growing b_m_growing (fun σ=>passAt (takes_of rfl rfl rfl rfl) σ) (pa_cons (pv 7) pa_nil)) (nomark _)) (pe_one (pe_cmpR op_eq (pe_callB (r:=Fw.rLen c.K) call_len_seq (by rfl) T.b_len (by decide +kernel) (pa_cons (pv 5) pa_nil)) (pe_callB (r:=Fw.rLen c.K) call_len_seq (by rfl) T.b_len (by decide +kernel) (pa_cons (pv 4) pa_nil)) (nomark _))))) pss_nil)))))))))))),?_⟩
  refine fn_tab (Bs:=fun _=>uns 8) (n:=7) (m:=fun x=>m_law_b x) h rfl (fun _=>by unfold m_law; rfl) ?hd
  intro W v_script pinv
  show Den _ _ _ _ _ _ _ [(.ow (some pinv) (SqT.mk v_script PT)),.un,.un,.un,.un,.un,.un,.un] (m_law_b v_script) (fun _=>uns 8)
  unfold m_law_b
  exact (d_get 1 (wk_uns rfl) (r_op2 o_ixL (r_shN (r_lst (g:=fun z13=>[z13.1,z13.2.1,z13.2.2.1,z13.2.2.2.1]) (ar_cons (k:=fun (x:Int)=>kFr c.K x) (r_op2 (o_int fun i j=>i + j) (exr_p (e_int _)) (r_cr (fun _=>(by decide:(0:Int) < 9)) (r_cr (fun _=>(⟨by decide,by decide⟩:CDiv _ 8)) (r_call1 (aa_cons (e_gh 0) (aa_cons (e_int _) aa_nil)) rfl) (e_int _)) (e_int _))) (ar_cons (k:=fun (x:Int)=>kFr c.K x) (exr_p (e_int _)) (ar_cons (k:=fun (x:Int)=>kFr c.K x) (exr_p (e_int _)) (ar_cons (k:=fun (x:Int)=>kFr c.K x) (exr_p (e_int _)) (axr_p (k:=fun _=>aNil) a_nil))))) (fun _=>rfl) (fun _=>szl (n:=4) rfl (by decide)))) (r_cr (fun _=>(by decide:(0:Int) < 4)) (r_call1 (aa_cons (e_gh 0) (aa_cons (e_int _) aa_nil)) rfl) (e_int _))) fun v_cells_17=>(d_getN 2 (wk_uns rfl) (r_call1 (aa_cons (e_gh 0) (aa_cons (e_var 1) aa_nil)) rfl) fun v_nested_here_18=>(d_get 3 (wk_uns rfl) (r_call (aar_cons (r_call1 (aa_cons (e_gh 0) (aa_cons (e_int _) aa_nil)) rfl) (aar_cons (exr_p (e_int _)) aar_nil))) fun v_number_24=>(d_ifp (Bs:=(fun (s25:(List Int))=>[(.ow (some pinv) (SqT.mk v_script PT)),(.fr v_cells_17),(.ow none s25),(.fr v_number_24),.un,.un,.un,.un])) (t_e (e_op2 o_eq (e_cr (fun _=>(by decide:(0:Int) < 3)) (e_var 3) (e_int _) rfl) (e_int _) rfl)) (d_ins 2 rfl (wk_uns rfl) (r_op2 o_mod (exr_p (e_cr (fun _=>(⟨by decide,by decide⟩:CDiv _ 10)) (e_var 3) (e_int _) rfl)) (exr_p (e_opA (x:=(v_nested_here_18,())) o_lenL (a_cons (e_varS 2) a_nil) rfl))) (r_op2 o_ixL (exr_p (e_varS 2)) (r_op2 o_mod (exr_p (e_cr (fun _=>(⟨by decide,by decide⟩:CDiv _ 10)) (e_var 3) (e_int _) rfl)) (exr_p (e_opA (x:=(v_nested_here_18,())) o_lenL (a_cons (e_varS 2) a_nil) rfl)))) fun v_nested_here_63=>(d_nx (.same (.same (.same (.same (.same (.same (.same (.same .nil)))))))))) (d_nx (.same (.same (.same (.same (.same (.same (.same (.same .nil))))))))) (fun s25=>(d_fz 2 rfl (Fw.d_get2 4 5 (wk_uns rfl) (r_call1 (aa_cons (e_var 2) aa_nil) rfl) fun v_chains_26 v_apart_27=>(d_ifa (wk_uns rfl) (tr_or (tr_e (r_op2 (o_neB (α:=(List (List Int)))) (exr_p (e_bw (e_var 4))) (r_bwN (r_lst (g:=fun z31=>[z31.1]) (ar_cons (k:=fun (x:(List Int))=>kFr c.K x) (r_fz (r_lstRg (exr_p (e_opA (x:=(s25,())) o_lenL (a_cons (e_sh (e_var 2)) a_nil) rfl)))) (axr_p (k:=fun _=>aNil) a_nil)) (fun _=>rfl) (fun _=>szl (n:=1) rfl (by decide)))))) (txr_p (t_e (e_op2 o_ne (e_opA (x:=(v_apart_27,())) o_lenL (a_cons (e_sh (e_var 5)) a_nil) rfl) (e_int _) rfl)))) (d_ret (e_bl _)) (d_get 6 (wk_uns rfl) (r_fz (r_sl3v (exr_p (e_sh (e_var 2))) po_none' po_none' (po_some' (exr_p (e_op1 o_neg (e_int _) rfl))))) fun v_rising_39=>(Fw.d_get2 4 5 (wk_uns rfl) (r_call1 (aa_cons (e_var 6) aa_nil) rfl) fun v_chains_40 v_apart_41=>(d_ifa (wk_uns rfl) (tr_or (tr_e (r_op2 o_ne (exr_p (e_opA (x:=(v_chains_40,())) o_lenL (a_cons (e_sh (e_var 4)) a_nil) rfl)) (r_opA o_lenSetI (ar_cons (k:=fun (x:(List Int))=>kSh c.K x) (exr_p (e_sh (e_var 6))) (axr_p (k:=fun _=>aNil) a_nil))))) (txr_p (t_e (e_op2 o_ne (e_opA (x:=(v_apart_41,())) o_lenL (a_cons (e_sh (e_var 5)) a_nil) rfl) (e_opA (x:=(v_chains_40,())) o_lenL (a_cons (e_sh (e_var 4)) a_nil) rfl) rfl)))) (d_ret (e_bl _)) (d_sortL (C:=fun n a=>CMulW (a + (1:Int)) n) (g:=fun n a=>(((a + (1:Int)) * n) % (((10:Int) ^ Int.toNat (30:Int)) + (57:Int)))) 0 3 7 rfl rfl (e_sh (e_var 2)) (fun a hC=>of_decide_eq_true hC) fun v_drawn_47=>(Fw.d_get2 4 5 (wk_uns rfl) (r_call1 (aa_cons (e_var 7) aa_nil) rfl) fun v_chains_48 v_apart_49=>(d_retR (wk_uns rfl) (r_andV (r_op2 o_eq (exr_p (e_opA (x:=(v_chains_48,())) o_lenL (a_cons (e_sh (e_var 4)) a_nil) rfl)) (r_call1 (aa_cons (e_var 7) aa_nil) rfl)) (exr_p (e_op2 o_eq (e_opA (x:=(v_apart_49,())) o_lenL (a_cons (e_sh (e_var 5)) a_nil) rfl) (e_opA (x:=(v_chains_48,())) o_lenL (a_cons (e_sh (e_var 4)) a_nil) rfl) rfl)))))))))))))))))
theorem ok_m_law_T:True:=trivial
end
theorem all_mk (HL:∀ ns:List Int,ns.length ≤ 63→m_law ⟨ns⟩ = .ok true) {l:PySem.W.OpenLaw} {w:World} {K:PySem.W.Frag} {h:Heap} {mg:Str→Option Value} {fa:Addr} (X:K.In h) (G:h.Ns mainGlobals mg) (hfa:mg "law" = some (.ref fa)) (own:LamX.OwnTab K fa h)
    {od0 an0:Option Addr} {sl0:Array (Option Value)} {oc0 kV0 dc0 pm0 cd0 ct0:Value} {f0:Addr}
    {od1 an1:Option Addr} {sl1:Array (Option Value)} {oc1 kV1 dc1 pm1 cd1 ct1:Value} {f1:Addr}
    {od2 an2:Option Addr} {sl2:Array (Option Value)} {oc2 kV2 dc2 pm2 cd2 ct2:Value} {f2:Addr}
    {od3 an3:Option Addr} {sl3:Array (Option Value)} {oc3 kV3 dc3 pm3 cd3 ct3:Value} {f3:Addr}
    {od4 an4:Option Addr} {sl4:Array (Option Value)} {oc4 kV4 dc4 pm4 cd4 ct4:Value} {f4:Addr}
    {od5 an5:Option Addr} {sl5:Array (Option Value)} {oc5 kV5 dc5 pm5 cd5 ct5:Value} {f5:Addr}
    {od6 an6:Option Addr} {sl6:Array (Option Value)} {oc6 kV6 dc6 pm6 cd6 ct6:Value} {f6:Addr}
    {od7 an7:Option Addr} {sl7:Array (Option Value)} {oc7 kV7 dc7 pm7 cd7 ct7:Value} {f7:Addr}
    {od8 an8:Option Addr} {sl8:Array (Option Value)} {oc8 kV8 dc8 pm8 cd8 ct8:Value} {f8:Addr}
    {od9 an9:Option Addr} {sl9:Array (Option Value)} {oc9 kV9 dc9 pm9 cd9 ct9:Value} {f9:Addr}
    {od10 an10:Option Addr} {sl10:Array (Option Value)} {oc10 kV10 dc10 pm10 ct10:Value} {f10:Addr}
    {cL PT:Addr} {ddc:Option Addr} {evs:Array Value} {slc:Array (Option Value)} {filec:Str} {tfc tgc ttc:Tok} {flagsc textc:Int} {inFc:Bool}
    (hb_enumerate:PySem.W.nsIn K mainGlobals "enumerate" = some none)
    (hb_len:PySem.W.nsIn K mainGlobals "len" = some none)
    (hb_list:PySem.W.nsIn K mainGlobals "list" = some none)
    (hb_max:PySem.W.nsIn K mainGlobals "max" = some none)
    (hb_min:PySem.W.nsIn K mainGlobals "min" = some none)
    (hb_range:PySem.W.nsIn K mainGlobals "range" = some none)
    (hb_set:PySem.W.nsIn K mainGlobals "set" = some none)
    (hb_sorted:PySem.W.nsIn K mainGlobals "sorted" = some none)
    (a0:PySem.W.nsIn K mainGlobals "_law_cell_at" = some (some (.ref f0))) (l0:K.lookup f0 = some ⟨oc0,od0,.func (PySem.W.fnOf "_law_cell_at" "_law_cell_at" (defArgs s_cell_at) (defBody s_cell_at) (defScope s_cell_at) .none kV0 dc0 pm0 an0 cd0 ct0),sl0⟩) (c0:PySem.W.codeIn K cd0 "_law_cell_at" = true) (k0:PySem.W.keepIn K (.ref f0) = true)
    (a1:PySem.W.nsIn K mainGlobals "_law_mixed" = some (some (.ref f1))) (l1:K.lookup f1 = some ⟨oc1,od1,.func (PySem.W.fnOf "_law_mixed" "_law_mixed" (defArgs s_mixed) (defBody s_mixed) (defScope s_mixed) .none kV1 dc1 pm1 an1 cd1 ct1),sl1⟩) (c1:PySem.W.codeIn K cd1 "_law_mixed" = true) (k1:PySem.W.keepIn K (.ref f1) = true)
    (a2:PySem.W.nsIn K mainGlobals "_law_nested" = some (some (.ref f2))) (l2:K.lookup f2 = some ⟨oc2,od2,.func (PySem.W.fnOf "_law_nested" "_law_nested" (defArgs s_nested) (defBody s_nested) (defScope s_nested) .none kV2 dc2 pm2 an2 cd2 ct2),sl2⟩) (c2:PySem.W.codeIn K cd2 "_law_nested" = true) (k2:PySem.W.keepIn K (.ref f2) = true)
    (a3:PySem.W.nsIn K mainGlobals "within" = some (some (.ref f3))) (l3:K.lookup f3 = some ⟨oc3,od3,.func (PySem.W.fnOf "within" "within" (defArgs s_within) (defBody s_within) (defScope s_within) .none kV3 dc3 pm3 an3 cd3 ct3),sl3⟩) (c3:PySem.W.codeIn K cd3 "within" = true) (k3:PySem.W.keepIn K (.ref f3) = true)
    (a4:PySem.W.nsIn K mainGlobals "later_ones" = some (some (.ref f4))) (l4:K.lookup f4 = some ⟨oc4,od4,.func (PySem.W.fnOf "later_ones" "later_ones" (defArgs s_later_ones) (defBody s_later_ones) (defScope s_later_ones) .none kV4 dc4 pm4 an4 cd4 ct4),sl4⟩) (c4:PySem.W.codeIn K cd4 "later_ones" = true) (k4:PySem.W.keepIn K (.ref f4) = true)
    (a5:PySem.W.nsIn K mainGlobals "find_next" = some (some (.ref f5))) (l5:K.lookup f5 = some ⟨oc5,od5,.func (PySem.W.fnOf "find_next" "find_next" (defArgs s_find_next) (defBody s_find_next) (defScope s_find_next) .none kV5 dc5 pm5 an5 cd5 ct5),sl5⟩) (c5:PySem.W.codeIn K cd5 "find_next" = true) (k5:PySem.W.keepIn K (.ref f5) = true)
    (a6:PySem.W.nsIn K mainGlobals "chain_from" = some (some (.ref f6))) (l6:K.lookup f6 = some ⟨oc6,od6,.func (PySem.W.fnOf "chain_from" "chain_from" (defArgs s_chain_from) (defBody s_chain_from) (defScope s_chain_from) .none kV6 dc6 pm6 an6 cd6 ct6),sl6⟩) (c6:PySem.W.codeIn K cd6 "chain_from" = true) (k6:PySem.W.keepIn K (.ref f6) = true)
    (a7:PySem.W.nsIn K mainGlobals "reached_from" = some (some (.ref f7))) (l7:K.lookup f7 = some ⟨oc7,od7,.func (PySem.W.fnOf "reached_from" "reached_from" (defArgs s_reached_from) (defBody s_reached_from) (defScope s_reached_from) .none kV7 dc7 pm7 an7 cd7 ct7),sl7⟩) (c7:PySem.W.codeIn K cd7 "reached_from" = true) (k7:PySem.W.keepIn K (.ref f7) = true)
    (a8:PySem.W.nsIn K mainGlobals "fewest_blocks" = some (some (.ref f8))) (l8:K.lookup f8 = some ⟨oc8,od8,.func (PySem.W.fnOf "fewest_blocks" "fewest_blocks" (defArgs s_fewest_blocks) (defBody s_fewest_blocks) (defScope s_fewest_blocks) .none kV8 dc8 pm8 an8 cd8 ct8),sl8⟩) (c8:PySem.W.codeIn K cd8 "fewest_blocks" = true) (k8:PySem.W.keepIn K (.ref f8) = true)
    (a9:PySem.W.nsIn K mainGlobals "_law_growing" = some (some (.ref f9))) (l9:K.lookup f9 = some ⟨oc9,od9,.func (PySem.W.fnOf "_law_growing" "_law_growing" (defArgs s_growing) (defBody s_growing) (defScope s_growing) .none kV9 dc9 pm9 an9 cd9 ct9),sl9⟩) (c9:PySem.W.codeIn K cd9 "_law_growing" = true) (k9:PySem.W.keepIn K (.ref f9) = true)
    (a10:PySem.W.nsIn K mainGlobals "law" = some (some (.ref f10))) (l10:K.lookup f10 = some ⟨oc10,od10,.func (PySem.W.fnOf "law" "law" (defArgs s_law) (defBody s_law) (defScope s_law) .none kV10 dc10 pm10 an10 (.ref cL) ct10),sl10⟩) (c10:PySem.W.codeIn K (.ref cL) "law" = true) (k10:PySem.W.keepIn K (.ref f10) = true)
    (kc:K.lookup cL = some ⟨.type "code",ddc,.fields evs,slc⟩)
    (v11:evs[11]? = some (.ref PT))
    (v18:evs.getD 18 .none = .str filec tfc)
    (v7:evs.getD 7 .none = .int flagsc tgc)
    (v9:evs.getD 9 .none = .bool inFc)
    (v10:evs.getD 10 .none = .int textc ttc)
    (cne:cL ≠ PT)
    (nP:K.lookup PT = none) :
    LamX.LawAtS l w K (L2.CX l.prog w) 73 63 "_law_script" mg fa h:=by
  have R_cell_at:Raw K mg "_law_cell_at" "_law_cell_at" s_cell_at:=⟨_,_,PySem.W.mg_of X G a0,fun_mk (st:=s_cell_at) l0 c0 k0⟩
  have R_mixed:Raw K mg "_law_mixed" "_law_mixed" s_mixed:=⟨_,_,PySem.W.mg_of X G a1,fun_mk (st:=s_mixed) l1 c1 k1⟩
  have R_nested:Raw K mg "_law_nested" "_law_nested" s_nested:=⟨_,_,PySem.W.mg_of X G a2,fun_mk (st:=s_nested) l2 c2 k2⟩
  have R_within:Raw K mg "within" "within" s_within:=⟨_,_,PySem.W.mg_of X G a3,fun_mk (st:=s_within) l3 c3 k3⟩
  have R_later_ones:Raw K mg "later_ones" "later_ones" s_later_ones:=⟨_,_,PySem.W.mg_of X G a4,fun_mk (st:=s_later_ones) l4 c4 k4⟩
  have R_find_next:Raw K mg "find_next" "find_next" s_find_next:=⟨_,_,PySem.W.mg_of X G a5,fun_mk (st:=s_find_next) l5 c5 k5⟩
  have R_chain_from:Raw K mg "chain_from" "chain_from" s_chain_from:=⟨_,_,PySem.W.mg_of X G a6,fun_mk (st:=s_chain_from) l6 c6 k6⟩
  have R_reached_from:Raw K mg "reached_from" "reached_from" s_reached_from:=⟨_,_,PySem.W.mg_of X G a7,fun_mk (st:=s_reached_from) l7 c7 k7⟩
  have R_fewest_blocks:Raw K mg "fewest_blocks" "fewest_blocks" s_fewest_blocks:=⟨_,_,PySem.W.mg_of X G a8,fun_mk (st:=s_fewest_blocks) l8 c8 k8⟩
  have R_growing:Raw K mg "_law_growing" "_law_growing" s_growing:=⟨_,_,PySem.W.mg_of X G a9,fun_mk (st:=s_growing) l9 c9 k9⟩
  have T:Glb mg:=⟨PySem.W.mg_none_of X G hb_enumerate,PySem.W.mg_none_of X G hb_len,PySem.W.mg_none_of X G hb_list,PySem.W.mg_none_of X G hb_max,PySem.W.mg_none_of X G hb_min,PySem.W.mg_none_of X G hb_range,PySem.W.mg_none_of X G hb_set,PySem.W.mg_none_of X G hb_sorted⟩
  have e:=hfa.symm.trans (PySem.W.mg_of X G a10)
  cases e
  refine ⟨PySem.W.fnOf "law" "law" (defArgs s_law) (defBody s_law) (defScope s_law) .none kV10 dc10 pm10 an10 (.ref cL) ct10,[(cL,PT)],spTab ⟨K,mK K⟩ PT m_law,fun p hp=>?_,fun p hp=>?_,fun p hp=>?_,fun s v=>.of_eq rfl,fun H a ns hl _ hT hS=>?_,fun base _ _ hTB=>?_⟩
  · rw [List.mem_singleton.mp hp]
    exact own cL PT _ _ _ _ _ _ l10 rfl rfl kc v11
  · rw [List.mem_singleton.mp hp]
    exact nP
  · rw [List.mem_singleton.mp hp]
    exact codeHd_of X kc v11 v18 v7 v9 v10 cne
  · exact law_endT HL H a ns hl (hT _ (List.mem_singleton.mpr rfl)) hS
  · have C_m_cell_at:=ok_m_cell_at (P:=l.prog) (w:=w) (c:=⟨K,mK K⟩) (base:=base) T R_cell_at
    have C_m_mixed:=ok_m_mixed (P:=l.prog) (w:=w) (c:=⟨K,mK K⟩) (base:=base) T R_mixed 
    have C_m_nested:=ok_m_nested (P:=l.prog) (w:=w) (c:=⟨K,mK K⟩) (base:=base) T R_nested C_m_mixed C_m_cell_at
    have C_m_within:=ok_m_within (P:=l.prog) (w:=w) (c:=⟨K,mK K⟩) (base:=base) T R_within 
    have C_m_later_ones:=ok_m_later_ones (P:=l.prog) (w:=w) (c:=⟨K,mK K⟩) (base:=base) T R_later_ones C_m_within
    have C_m_find_next:=ok_m_find_next (P:=l.prog) (w:=w) (c:=⟨K,mK K⟩) (base:=base) T R_find_next 70
    have C_m_chain_from:=ok_m_chain_from (P:=l.prog) (w:=w) (c:=⟨K,mK K⟩) (base:=base) T R_chain_from 
    have C_m_reached_from:=ok_m_reached_from (P:=l.prog) (w:=w) (c:=⟨K,mK K⟩) (base:=base) T R_reached_from 
    have C_m_fewest_blocks:=ok_m_fewest_blocks (P:=l.prog) (w:=w) (c:=⟨K,mK K⟩) (base:=base) T R_fewest_blocks C_m_later_ones C_m_find_next C_m_chain_from C_m_reached_from
    have C_m_growing:=ok_m_growing (P:=l.prog) (w:=w) (c:=⟨K,mK K⟩) (base:=base) T R_growing 
    exact ok_m_law_F T l10 c10 (hTB _ (List.mem_singleton.mpr rfl)) C_m_cell_at C_m_nested C_m_mixed C_m_fewest_blocks C_m_growing
end Wk

open PySem PySem.W PySem.Calls PyProof.Rows
set_option maxRecDepth 100000 in
set_option maxHeartbeats 0 in
theorem PySem.Challenge.cw_lostblock_k25_order_tells_holds : PySem.Challenge.rw_lostblock_k25_order_tells.Holds := by
  w_on; o_law
  refine HandSHeadRun.head_any (r := Hd.R) (q := Hd.q) (H := kHook Hd.z.heap_1 Hd.as0 Hd.ek) (ob := Hd.ob) (M := 880) (loose := Hd.names) (d := HandSHeadRun.topDef Hd.R.prog 13) (kwd := []) Hd.ob_eq (by kernel_rfl) (fun s => by kernel_rfl) Hd.run (by kernel_rfl) (by kernel_rfl) (by kernel_rfl) (by rfl) (by first | assumption | decide +kernel) (by decide +kernel) ⟨rfl, rfl, rfl, rfl, rfl, by decide +kernel⟩ ?hw ?hc
  case hw => w_witness2
  case hc =>
    k_fill
    refine Fw.walk_lawT (l := PySem.Challenge.rw_lostblock_k25_order_tells) (k := 73) (x := "_law_script") rfl rfl ⟨rfl, by decide, by decide⟩ (by kernel_rfl) (fun w h Y => PySem.W.kIn_of Y) ?F
    case F =>
      intro w mg fa h Y KX G hmg own
      refine' Wk.all_mk Ma.law_true KX G hmg own ?x0 ?x1 ?x2 ?x3 ?x4 ?x5 ?x6 ?x7 ?x8 ?x9 ?x10 ?x11 ?x12 ?x13 ?x14 ?x15 ?x16 ?x17 ?x18 ?x19 ?x20 ?x21 ?x22 ?x23 ?x24 ?x25 ?x26 ?x27 ?x28 ?x29 ?x30 ?x31 ?x32 ?x33 ?x34 ?x35 ?x36 ?x37 ?x38 ?x39 ?x40 ?x41 ?x42 ?x43 ?x44 ?x45 ?x46 ?x47 ?x48 ?x49 ?x50 ?x51 ?x52 ?x53 ?x54 ?x55 ?x56 ?x57 ?x58 ?x59
      (case x0 => k_is)
      (case x1 => k_is)
      (case x2 => k_is)
      (case x3 => k_is)
      (case x4 => k_is)
      (case x5 => k_is)
      (case x6 => k_is)
      (case x7 => k_is)
      (case x8 => k_is)
      (case x9 => k_is)
      (case x10 => k_is)
      (case x11 => k_is)
      (case x12 => k_is)
      (case x13 => k_is)
      (case x14 => k_is)
      (case x15 => k_is)
      (case x16 => k_is)
      (case x17 => k_is)
      (case x18 => k_is)
      (case x19 => k_is)
      (case x20 => k_is)
      (case x21 => k_is)
      (case x22 => k_is)
      (case x23 => k_is)
      (case x24 => k_is)
      (case x25 => k_is)
      (case x26 => k_is)
      (case x27 => k_is)
      (case x28 => k_is)
      (case x29 => k_is)
      (case x30 => k_is)
      (case x31 => k_is)
      (case x32 => k_is)
      (case x33 => k_is)
      (case x34 => k_is)
      (case x35 => k_is)
      (case x36 => k_is)
      (case x37 => k_is)
      (case x38 => k_is)
      (case x39 => k_is)
      (case x40 => k_is)
      (case x41 => k_is)
      (case x42 => k_is)
      (case x43 => k_is)
      (case x44 => k_is)
      (case x45 => k_is)
      (case x46 => k_is)
      (case x47 => k_is)
      (case x48 => k_is)
      (case x49 => k_is)
      (case x50 => k_is)
      (case x51 => k_is)
      (case x52 => k_is)
      (case x53 => exact rfl)
      (case x54 => exact rfl)
      (case x55 => exact rfl)
      (case x56 => exact rfl)
      (case x57 => exact rfl)
      (case x58 => decide)
      (case x59 => first | kernel_rfl | exact rfl)
#print axioms PySem.Challenge.cw_lostblock_k25_order_tells_holds
