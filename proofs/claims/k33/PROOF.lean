import PyProof.Rows.All
import Wide.All
import OpenK.AllK
import Wide.FinOn
import HandS.ForMost
import HandS.Evl
import HandS.ForExc
import HandS.CallSlots
import HandS.Wide
import HandS.TupLe
import HandS.Zip
import HandS.IsInst
import HandS.TupAny
import HandS.Deep
import PyProof.StrOps2
import PyProof.AttrMissHeap
import PyProof.TupleIter
import HandS.Replace
import HandS.Dict
import HandS.RevRange
import HandS.Iter
import HandS.ExcInit
import HandS.ExcIs
import HandS.ExcField
import HandS.WordsExc
import KE.SortKeyHeap
import HandS.More
import HandS.SortKw
import HandS.Keys
import HandS.SetFor
import HandS.Strs
import PyProof.Rows.SortShellAny
import HandS.WordsDict
import HandS.WideBits
import HandS.Conv
import HandS.ListItems
import HandS.SetKeys
import HandS.SortRule
import PyProof.DictMoreH
import HandS.TryOnly
import KE.DataCmp
import PyProof.FactsAll.dict
import HandS.ExcOwn
import PyProof.ExcBaseAll.ValueError
import KE.KDictZip
import KE.GoesEnum
import HandS.Finally
import PyProof.SumWalkG
import PyProof.EqKinds
import KE.KIndexOf
import HandS.DictEq
import HandS.OwnEq
import HandS.TryMany
import HandS.RaiseMore
import HandS.ReplaceLit
import KE.KDictCopyH
import HandS.Head2
import PySem.Challenge.RW_lostblock_k33_replayed
set_option Elab.async false
set_option linter.all false
set_option maxRecDepth 100000
set_option synthInstance.maxSize 4000
set_option maxHeartbeats 8000000
namespace Hd
open PySem PySem.W PySem.Calls PyProof.Rows
abbrev R : OpenRow := OpenLaw.row PySem.Challenge.rw_lostblock_k33_replayed
section
local macro_rules | `(tactic| o_head $H) => `(tactic| assumption)
set_option maxHeartbeats 0 in
theorem z (z : R.Holds) : R.Holds := by k_head
end
noncomputable section
def q : Program := view R.prog [23]
def n0 : List PySem.Str := [("__name__" : PySem.Str), ("BlockError" : PySem.Str), ("NoDeed" : PySem.Str), ("all_of" : PySem.Str), ("set_of" : PySem.Str), ("is_number" : PySem.Str), ("is_number_strokes" : PySem.Str), ("lies_on" : PySem.Str), ("cells_cut" : PySem.Str), ("is_number_plans" : PySem.Str), ("is_deed" : PySem.Str), ("replayed" : PySem.Str), ("_law_cell" : PySem.Str), ("_law_mixed" : PySem.Str), ("_law_size" : PySem.Str), ("_law_cells" : PySem.Str), ("_law_stroke" : PySem.Str), ("_law_plan" : PySem.Str)]
def names : List PySem.Str := n0
def a0 : List Addr := [2, 3, 6, 15, 22, 23, 24, 25, 28, 35, 37, 38, 40, 41, 42, 43, 44, 47, 49, 50, 52, 53, 54, 56, 57, 59, 60, 61, 63, 64, 66, 67, 68, 70, 71, 73, 74, 75, 78, 79, 80, 82, 83, 85, 86, 87, 89, 90, 92, 93, 94, 96, 97, 99, 100, 101, 103, 104, 106, 107, 108, 110, 111, 113, 114, 115, 117, 118, 120, 121, 122, 125, 126, 127, 129, 130, 132, 133, 134, 136, 137, 139, 140, 141, 143, 144, 146, 147]
def as0 : List Addr := a0
theorem ek (P : Params) : as0 = (z.heap_1 P).map (·.1) := by kernel_rfl
abbrev E (w : World) (os : OsState) := HandSHeadRun.endF (HandSHeadRun.stepQ (HandSHeadRun.denQ HandSHeadRun.tabQ) R.prog w) 2074 R.prog w os
theorem two {α β γ : Type} {o : Option α} {f : α → β} {g : α → γ} {x : β} {y : γ} (h1 : o.map f = some x) (h2 : o.map g = some y) : o.map (fun s => (f s, g s)) = some (x, y) := by
  cases o with
  | none => cases h1
  | some a => cases h1; cases h2; rfl
theorem app {α β : Type} {o : Option α} {f g : α → List β} {x y : List β} (h1 : o.map f = some x) (h2 : o.map g = some y) : o.map (fun s => f s ++ g s) = some (x ++ y) := by
  cases o with
  | none => cases h1
  | some a => cases h1; cases h2; rfl
set_option maxHeartbeats 0 in
theorem r1 (w : World) (os : OsState) : (E w os).map (fun s => HandSHeadRun.looksF R.prog (boot_heap w.params) s.abs) = some true := by kernel_rfl
set_option maxHeartbeats 0 in
theorem r2 (w : World) (os : OsState) : (E w os).map (fun s => HandSHeadRun.seenQ q names (importedModules R.prog.main.body) (fun s => xlAt q [] s && recOk R.toRowW.records s) s.abs) = some (openGood q names) := by kernel_rfl
set_option maxHeartbeats 0 in
theorem o0 (w : World) (os : OsState) : (E w os).map (fun s => a0.map (HandSHeadRun.getT s)) = some ((((z.heap_1 w.params).drop 0).take 88).map fun p => some p.2) := by kernel_rfl
def ob (s : SharedT) : List (Option Obj) := as0.map (HandSHeadRun.getT s)
theorem ob_eq (s : SharedT) : ob s = (kHook z.heap_1 as0 ek).obs s.abs := List.map_congr_left fun a _ => HandSHeadRun.getT_eq s a
theorem ob_s (s : SharedT) : ob s = a0.map (HandSHeadRun.getT s) := by
  unfold ob as0
  simp only [List.map_append]
theorem val_s (w : World) : ((z.heap_1 w.params).map fun p => some p.2) = ((((z.heap_1 w.params).drop 0).take 88).map fun p => some p.2) := by kernel_rfl
theorem run (w : World) : HandSHeadRun.RunEq R q (kHook z.heap_1 as0 ek) ob 2074 names w := by
  intro os
  refine two (r1 w os) (two (r2 w os) ?_)
  show (E w os).map ob = some ((z.heap_1 w.params).map fun p => some p.2)
  rw [show ob = _ from funext ob_s, val_s]
  exact (o0 w os)
end
end Hd
namespace Fw
open PySem L2
abbrev Frag := PySem.W.Frag
def Inc (G H : Hp) : Prop := ∀ a o, G a = some o → H a = some o
theorem Inc.refl (H : Hp) : Inc H H := fun _ _ h => h
theorem Inc.trans {H H1 H2 : Hp} (a : Inc H H1) (b : Inc H1 H2) : Inc H H2 := fun x o h => b x o (a x o h)
theorem Inc.nope {G H : Hp} (s : Inc G H) {a : Addr} (h : H a = none) : G a = none := by
  cases e : G a with
  | none => rfl
  | some o => rw [s a o e] at h; cases h
theorem Inc.new {G : Hp} {a : Addr} {o : HO} (h : G a = none) : Inc G (upd G a o) := fun b u e => by
  rw [upd_ne (ne_of_none e h)]; exact e
theorem Inc.mut {G H : Hp} {a : Addr} {o : HO} (s : Inc G H) (h : G a = none) : Inc G (upd H a o) := fun b u e => by
  rw [upd_ne (ne_of_none e h)]; exact s b u e
theorem Inc.both {G H : Hp} {a : Addr} {o : HO} (s : Inc G H) : Inc (upd G a o) (upd H a o) := fun b u e => by
  by_cases q : b = a
  · subst q; rw [upd_same] at e ⊢; exact e
  · rw [upd_ne q] at e ⊢; exact s b u e
theorem Inc.rd {G H : Hp} {a : Addr} {u : HO} (e : Inc G H) (h : Rd G a u) : Rd H a u := by
  rcases h with h | ⟨o, h⟩
  · exact .inl (e a _ h)
  · exact .inr ⟨o, e a _ h⟩
theorem Inc.sql {K : Frag} {G H : Hp} {a : Addr} {xs : List V} (e : Inc G H) (h : SqL K G a xs) : SqL K H a xs := by
  rcases h with h | h
  · exact .inl (e.rd h)
  · exact .inr h
theorem Inc.sqt {K : Frag} {G H : Hp} {a : Addr} {xs : List V} (e : Inc G H) (h : SqT K G a xs) : SqT K H a xs := by
  rcases h with h | h
  · exact .inl (e.rd h)
  · exact .inr h
/-- what never changes -/
def imm : HO → Bool
  | .tup _ => true
  | .frz _ _ => true
  | .xd _ => true
  | .own _ => true
  | _ => false
/-- a world: what is frozen for good, and all that is tracked; what never changes is frozen -/
structure Wd where
  G : Hp
  H : Hp
  sub : Inc G H
  im : ∀ a u, H a = some u → imm u = true → G a = some u
theorem im_upd {G H : Hp} {p : Addr} {o : HO} (im : ∀ a u, H a = some u → imm u = true → G a = some u) (hi : imm o = false) : ∀ a u, upd H p o a = some u → imm u = true → G a = some u := fun a u h i => by
  by_cases q : a = p
  · subst q
    rw [upd_same] at h
    cases h
    rw [hi] at i; cases i
  · rw [upd_ne q] at h
    exact im a u h i
theorem im_both {G H : Hp} {p : Addr} {o : HO} (im : ∀ a u, H a = some u → imm u = true → G a = some u) : ∀ a u, upd H p o a = some u → imm u = true → upd G p o a = some u := fun a u h i => by
  by_cases q : a = p
  · subst q
    rw [upd_same] at h ⊢
    exact h
  · rw [upd_ne q] at h ⊢
    exact im a u h i
/-- all is frozen -/
def Wd.all (H : Hp) : Wd := ⟨H, H, fun _ _ h => h, fun _ _ h _ => h⟩
structure Le (W W' : Wd) : Prop where
  g : Inc W.G W'.G
  h : Inc W.H W'.H
  o : ∀ a, W.G a = none → W.H a ≠ none → W'.G a = none
theorem Le.refl (W : Wd) : Le W W := ⟨Inc.refl _, Inc.refl _, fun _ h _ => h⟩
theorem Le.trans {A B C : Wd} (x : Le A B) (y : Le B C) : Le A C := ⟨x.g.trans y.g, x.h.trans y.h, fun a h n => by
  refine y.o a (x.o a h n) fun q => ?_
  exact n (x.h.nope q)⟩
/-- a new frozen thing | a new owned thing -/
def Wd.nf (W : Wd) (p : Addr) (o : HO) : Wd := ⟨upd W.G p o, upd W.H p o, W.sub.both, im_both W.im⟩
def Wd.no (W : Wd) (p : Addr) (o : HO) (h : W.H p = none) (hi : imm o = false := by rfl) : Wd := ⟨W.G, upd W.H p o, W.sub.mut (W.sub.nope h), im_upd W.im hi⟩
def Wd.mt (W : Wd) (p : Addr) (o : HO) (h : W.G p = none) (hi : imm o = false := by rfl) : Wd := ⟨W.G, upd W.H p o, W.sub.mut h, im_upd W.im hi⟩
theorem Le.nf {W : Wd} {p : Addr} {o : HO} (h : W.H p = none) : Le W (W.nf p o) :=
  ⟨Inc.new (W.sub.nope h), Inc.new h, fun a g n => by
    show upd W.G p o a = none
    rw [upd_ne (fun q => n (by rw [q]; exact h))]; exact g⟩
theorem Le.no {W : Wd} {p : Addr} {o : HO} (h : W.H p = none) {hi : imm o = false} : Le W (W.no p o h hi) :=
  ⟨Inc.refl _, Inc.new h, fun a g n => g⟩
theorem Le.mt {W W' : Wd} {p : Addr} {o : HO} (e : Le W W') (h : W'.G p = none) (n : W.H p = none) {hi : imm o = false} : Le W (W'.mt p o h hi) :=
  ⟨e.g, fun b u q => by
    show upd W'.H p o b = _
    rw [upd_ne (ne_of_none q n)]; exact e.h b u q, fun a g n => e.o a g n⟩
theorem Le.fr {W W' : Wd} {p : Addr} (e : Le W W') (h : W'.H p = none) : W.H p = none := e.h.nope h
/-- an owned thing is frozen -/
def Wd.fz (W : Wd) (f : List Addr) : Wd := ⟨fun a => if a ∈ f then W.H a else W.G a, W.H, fun a o e => by
  dsimp only at e
  by_cases q : a ∈ f
  · rw [if_pos q] at e; exact e
  · rw [if_neg q] at e; exact W.sub a o e, fun a u h i => by
  show (if a ∈ f then W.H a else W.G a) = some u
  by_cases q : a ∈ f
  · rw [if_pos q]; exact h
  · rw [if_neg q]; exact W.im a u h i⟩
theorem Wd.fz_in {W : Wd} {f : List Addr} {a : Addr} (h : a ∈ f) : (W.fz f).G a = W.H a := if_pos h
theorem Wd.fz_ni {W : Wd} {f : List Addr} {a : Addr} (h : a ∉ f) : (W.fz f).G a = W.G a := if_neg h
theorem Wd.fz_sub {W : Wd} {f : List Addr} : Inc W.G (W.fz f).G := fun a o e => by
  by_cases q : a ∈ f
  · rw [Wd.fz_in q]; exact W.sub a o e
  · rw [Wd.fz_ni q]; exact e
theorem Le.fz {W W' : Wd} {f : List Addr} (e : Le W W') (h : ∀ a ∈ f, W.H a = none) : Le W (W'.fz f) :=
  ⟨e.g.trans Wd.fz_sub, e.h, fun a g n => by
    rw [Wd.fz_ni (fun q => n (h a q))]; exact e.o a g n⟩

/-! ### mirror values and what represents them -/
class Rp (α : Type) where
  rep : Frag → α → V → Hp → Prop
  mono : ∀ {K : Frag} {x : α} {v : V} {G H : Hp}, Inc G H → rep K x v G → rep K x v H
class Ob (α : Type) where
  own : Frag → α → V → List Addr → Wd → Prop
  keep : ∀ {K : Frag} {x : α} {v : V} {f : List Addr} {W W' : Wd}, own K x v f W → Inc W.G W'.G → (∀ a ∈ f, W'.G a = none) → (∀ a ∈ f, W'.H a = W.H a) → own K x v f W'
  foot : ∀ {K : Frag} {x : α} {v : V} {f : List Addr} {W : Wd}, own K x v f W → ∀ a ∈ f, W.G a = none ∧ W.H a ≠ none
class Fz (α : Type) extends Rp α, Ob α where
  fz : ∀ {K : Frag} {x : α} {v : V} {f : List Addr} {W : Wd}, own K x v f W → rep K x v (W.fz f).G

instance : Rp Int := ⟨fun _ x v _ => v = .int x, fun _ h => h⟩
instance : Rp Bool := ⟨fun _ x v _ => v = .bl x, fun _ h => h⟩
def SOk (x : Str) : Prop := x.length ≤ sizeLine ∧ x.cps.all (· < 0x110000) = true
instance : Rp Str := ⟨fun _ x v _ => v = .str x ∧ SOk x, fun _ h => h⟩
instance : Rp Unit := ⟨fun _ _ v _ => v = .non, fun _ h => h⟩
/-- values of which the heap says nothing -/
class Sc (α : Type) extends Rp α where
  any : ∀ {K : Frag} {x : α} {v : V} {G H : Hp}, rep K x v G → rep K x v H
  nn : ∀ {K : Frag} {x : α} {v : V} {G : Hp}, rep K x v G → ∃ u : V, v = u
instance : Sc Int := ⟨fun h => h, fun _ => ⟨_, rfl⟩⟩
instance : Sc Bool := ⟨fun h => h, fun _ => ⟨_, rfl⟩⟩
instance : Sc Str := ⟨fun h => h, fun _ => ⟨_, rfl⟩⟩
instance : Sc Unit := ⟨fun h => h, fun _ => ⟨_, rfl⟩⟩
/-- place by place -/
def Al {α : Type} (P : α → V → Prop) (xs : List α) (vs : List V) : Prop := xs.length = vs.length ∧ ∀ (i : Nat) x v, xs[i]? = some x → vs[i]? = some v → P x v
section
variable {α β : Type} {P Q : α → V → Prop} {xs ys : List α} {vs ws : List V} {x : α} {v : V}
theorem Al.imp (h : Al P xs vs) (k : ∀ x v, P x v → Q x v) : Al Q xs vs := ⟨h.1, fun i x v a b => k x v (h.2 i x v a b)⟩
theorem Al.nil : Al P [] [] := ⟨rfl, fun i x v a _ => by simp at a⟩
theorem Al.one (h : P x v) : Al P [x] [v] := ⟨rfl, fun i y w a b => by
  cases i with
  | zero => cases a; cases b; exact h
  | succ i => simp at a⟩
theorem Al.cons (h : P x v) (t : Al P xs vs) : Al P (x :: xs) (v :: vs) := ⟨by simp [t.1], fun i y w a b => by
  cases i with
  | zero => cases a; cases b; exact h
  | succ i => exact t.2 i y w a b⟩
theorem Al.app (h : Al P xs vs) (t : Al P ys ws) : Al P (xs ++ ys) (vs ++ ws) := ⟨by simp [h.1, t.1], fun i y w a b => by
  by_cases q : i < xs.length
  · rw [List.getElem?_append_left q] at a
    rw [List.getElem?_append_left (h.1 ▸ q)] at b
    exact h.2 i y w a b
  · rw [List.getElem?_append_right (by omega)] at a
    rw [List.getElem?_append_right (by have := h.1; omega)] at b
    rw [← h.1] at b
    exact t.2 _ y w a b⟩
theorem Al.get {i : Nat} (h : Al P xs vs) (a : xs[i]? = some x) : ∃ v, vs[i]? = some v ∧ P x v := by
  have hi : i < vs.length := h.1 ▸ (List.getElem?_eq_some_iff.mp a).1
  exact ⟨vs[i], List.getElem?_eq_getElem hi, h.2 i x _ a (List.getElem?_eq_getElem hi)⟩
theorem Al.set (h : Al P xs vs) (r : P x v) (i : Nat) : Al P (xs.set i x) (vs.set i v) := ⟨by simp [h.1], fun j y w a b => by
  rw [List.getElem?_set] at a b
  by_cases q : i = j
  · subst q
    simp only [if_true] at a b
    split at a
    · rename_i c
      rw [if_pos (h.1 ▸ c)] at b
      cases a; cases b; exact r
    · cases a
  · rw [if_neg q] at a b
    exact h.2 j y w a b⟩
theorem Al.take (h : Al P xs vs) (n : Nat) : Al P (xs.take n) (vs.take n) := ⟨by simp [h.1], fun i y w a b => by
  rw [List.getElem?_take] at a b
  split at a
  · rename_i c; rw [if_pos c] at b; exact h.2 i y w a b
  · cases a⟩
theorem Al.drop (h : Al P xs vs) (n : Nat) : Al P (xs.drop n) (vs.drop n) := ⟨by simp [h.1], fun i y w a b => by
  rw [List.getElem?_drop] at a b
  exact h.2 _ y w a b⟩
end
section
variable {α β γ δ : Type} [Rp α] [Rp β] [Rp γ] [Rp δ]
def repL (K : Frag) (xs : List α) (v : V) (G : Hp) : Prop := ∃ p vs, v = .ref p ∧ G p = some (.lst vs) ∧ Al (fun x v => Rp.rep K x v G) xs vs ∧ xs.length ≤ sizeLine
instance : Rp (List α) := ⟨repL, fun s ⟨p, vs, e, h, a, l⟩ => ⟨p, vs, e, s _ _ h, a.imp fun _ _ r => Rp.mono s r, l⟩⟩
instance : Rp (α × β) := ⟨fun K x v G => ∃ p a b, v = .ref p ∧ SqT K G p [a, b] ∧ Rp.rep K x.1 a G ∧ Rp.rep K x.2 b G, fun s ⟨p, a, b, e, h, r1, r2⟩ => ⟨p, a, b, e, s.sqt h, Rp.mono s r1, Rp.mono s r2⟩⟩
end
/-- a list that is only read: the script, what is written -/
structure Sq (α : Type) where
  l : List α
deriving DecidableEq
/-- a tuple of any length, of one kind -/
structure Tup (α : Type) where
  l : List α
deriving DecidableEq
structure T3 (α β γ : Type) where
  a : α
  b : β
  c : γ
deriving DecidableEq
structure T4 (α β γ δ : Type) where
  a : α
  b : β
  c : γ
  d : δ
deriving DecidableEq
section
variable {α β γ δ : Type} [Rp α] [Rp β] [Rp γ] [Rp δ]
instance : Rp (Sq α) := ⟨fun K xs v G => ∃ p vs, v = .ref p ∧ SqL K G p vs ∧ Al (fun x v => Rp.rep K x v G) xs.l vs ∧ xs.l.length ≤ sizeLine, fun s ⟨p, vs, e, h, a, l⟩ => ⟨p, vs, e, s.sql h, a.imp fun _ _ r => Rp.mono s r, l⟩⟩
instance : Rp (Tup α) := ⟨fun K xs v G => ∃ p vs, v = .ref p ∧ SqT K G p vs ∧ Al (fun x v => Rp.rep K x v G) xs.l vs ∧ xs.l.length ≤ sizeLine, fun s ⟨p, vs, e, h, a, l⟩ => ⟨p, vs, e, s.sqt h, a.imp fun _ _ r => Rp.mono s r, l⟩⟩
instance : Rp (T3 α β γ) := ⟨fun K x v G => ∃ p a b c, v = .ref p ∧ SqT K G p [a, b, c] ∧ Rp.rep K x.a a G ∧ Rp.rep K x.b b G ∧ Rp.rep K x.c c G,
  fun s ⟨p, a, b, c, e, h, r1, r2, r3⟩ => ⟨p, a, b, c, e, s.sqt h, Rp.mono s r1, Rp.mono s r2, Rp.mono s r3⟩⟩
instance : Rp (T4 α β γ δ) := ⟨fun K x v G => ∃ p a b c d, v = .ref p ∧ SqT K G p [a, b, c, d] ∧ Rp.rep K x.a a G ∧ Rp.rep K x.b b G ∧ Rp.rep K x.c c G ∧ Rp.rep K x.d d G,
  fun s ⟨p, a, b, c, d, e, h, r1, r2, r3, r4⟩ => ⟨p, a, b, c, d, e, s.sqt h, Rp.mono s r1, Rp.mono s r2, Rp.mono s r3, Rp.mono s r4⟩⟩
instance : Rp (Option α) := ⟨fun K x v G => match x with
  | none => v = .non
  | some y => v ≠ .non ∧ Rp.rep K y v G, fun {K x v G H} s h => by
    cases x with
    | none => exact h
    | some y => exact ⟨h.1, Rp.mono s h.2⟩⟩
/-- an owned list -/
def ownL (K : Frag) (xs : List α) (v : V) (f : List Addr) (W : Wd) : Prop := ∃ p vs, v = .ref p ∧ f = [p] ∧ W.G p = none ∧ W.H p = some (.lst vs) ∧ Al (fun x v => Rp.rep K x v W.G) xs vs ∧ xs.length ≤ sizeLine
instance : Fz (List α) where
  own := ownL
  keep := fun {K x v f W W'} ⟨p, vs, e, ef, g, h, a, l⟩ s n k => by
    subst ef
    exact ⟨p, vs, e, rfl, n p (List.mem_singleton.mpr rfl), (k p (List.mem_singleton.mpr rfl)).trans h, a.imp fun _ _ r => Rp.mono s r, l⟩
  foot := fun {K x v f W} ⟨p, vs, e, ef, g, h, a, l⟩ b hb => by
    subst ef
    obtain rfl := List.mem_singleton.mp hb
    exact ⟨g, by rw [h]; exact fun z => nomatch z⟩
  fz := fun {K x v f W} ⟨p, vs, e, ef, g, h, a, l⟩ => by
    subst ef
    exact ⟨p, vs, e, (Wd.fz_in (List.mem_singleton.mpr rfl)).trans h, a.imp fun _ _ r => Rp.mono Wd.fz_sub r, l⟩
end
/-! ### what the slots hold -/
inductive Sl : Type 1 where
  | un
  | fr {α : Type} [Rp α] (x : α)
  | ow {α : Type} [Ob α] (pin : Option V) (x : α)
def Hd (K : Frag) : Sl → Option V → Wd → List Addr → Prop
  | .un, _, _, _ => True
  | @Sl.fr _ _ x, o, W, _ => ∃ v, o = some v ∧ Rp.rep K x v W.G
  | @Sl.ow _ _ pin x, o, W, f => ∃ v, o = some v ∧ Ob.own K x v f W ∧ ∀ u, pin = some u → v = u
structure At (K : Frag) (W0 : Wd) (As : List Sl) (σ : St) (W : Wd) : Prop where
  len : σ.length = As.length
  le : Le W0 W
  fp : ∃ F : Nat → List Addr, (∀ (i : Nat) A o, As[i]? = some A → σ[i]? = some o → Hd K A o W (F i)) ∧ (∀ i j a, i ≠ j → a ∈ F i → a ∉ F j) ∧ ∀ i a, a ∈ F i → W.G a = none ∧ W.H a ≠ none ∧ W0.H a = none
section
variable {K : Frag} {W0 W W' : Wd} {As Bs : List Sl} {σ : St} {i : Nat} {v : V}
theorem Hd.mono {A : Sl} {o : Option V} {f : List Addr} (e : Le W W') (hf : ∀ a ∈ f, W.G a = none ∧ W.H a ≠ none) (h : Hd K A o W f) : Hd K A o W' f := by
  cases A with
  | un => trivial
  | fr x => obtain ⟨v, e1, r⟩ := h; exact ⟨v, e1, Rp.mono e.g r⟩
  | ow x =>
    obtain ⟨v, e1, r, pn⟩ := h
    refine ⟨v, e1, Ob.keep r e.g (fun a ha => e.o a (hf a ha).1 (hf a ha).2) fun a ha => ?_, pn⟩
    cases q : W.H a with
    | none => exact absurd q (hf a ha).2
    | some u => exact e.h a u q
theorem At.mono (h : At K W0 As σ W) (e : Le W W') : At K W0 As σ W' := by
  obtain ⟨l, le, F, h1, h2, h3⟩ := h
  refine ⟨l, le.trans e, F, fun i A o a b => Hd.mono e (fun x hx => ⟨(h3 i x hx).1, (h3 i x hx).2.1⟩) (h1 i A o a b), h2, fun i a ha => ?_⟩
  obtain ⟨g, n, z⟩ := h3 i a ha
  exact ⟨e.o a g n, fun q => n (e.h.nope q), z⟩
theorem At.var {α : Type} [Rp α] {x : α} (h : At K W0 As σ W) (hi : As[i]? = some (.fr x)) : ∃ v, σ[i]? = some (some v) ∧ Rp.rep K x v W.G := by
  obtain ⟨l, le, F, h1, h2, h3⟩ := h
  have hl : i < σ.length := l ▸ (List.getElem?_eq_some_iff.mp hi).1
  obtain ⟨v, e, r⟩ := h1 i _ _ hi (List.getElem?_eq_getElem hl)
  exact ⟨v, by rw [List.getElem?_eq_getElem hl, e], r⟩
theorem At.varO {α : Type} [Ob α] {x : α} {pin : Option V} (h : At K W0 As σ W) (hi : As[i]? = some (.ow pin x)) : ∃ v f, σ[i]? = some (some v) ∧ Ob.own K x v f W ∧ (∀ u, pin = some u → v = u) ∧ ∀ a ∈ f, W0.H a = none := by
  obtain ⟨l, le, F, h1, h2, h3⟩ := h
  have hl : i < σ.length := l ▸ (List.getElem?_eq_some_iff.mp hi).1
  obtain ⟨v, e, r, pn⟩ := h1 i _ _ hi (List.getElem?_eq_getElem hl)
  exact ⟨v, F i, by rw [List.getElem?_eq_getElem hl, e], r, pn, fun a ha => (h3 i a ha).2.2⟩
theorem get_set_ne.{u} {α : Type u} {l : List α} {i j : Nat} {x : α} (h : i ≠ j) : (l.set i x)[j]? = l[j]? := by
  rw [List.getElem?_set, if_neg h]
theorem get_set_eq.{u} {α : Type u} {l : List α} {i : Nat} {x y : α} (h : (l.set i x)[i]? = some y) : y = x := by
  rw [List.getElem?_set] at h
  simp only [if_true] at h
  split at h
  · exact (Option.some.inj h).symm
  · cases h
/-- slot i gets a frozen value, or one of which nothing is known -/
theorem At.set {A : Sl} {o : Option V} (h : At K W0 As σ W) (hA : Hd K A o W []) : At K W0 (As.set i A) (σ.set i o) W := by
  obtain ⟨l, le, F, h1, h2, h3⟩ := h
  refine ⟨by simp [l], le, fun j => if j = i then [] else F j, fun j B p a b => ?_, fun j k a n ha hb => ?_, fun j a ha => ?_⟩
  · by_cases q : i = j
    · subst q
      rw [get_set_eq a, get_set_eq b]
      simpa using hA
    · rw [get_set_ne q] at a b
      dsimp only
      rw [if_neg (Ne.symm q)]
      exact h1 j B p a b
  · dsimp only at ha hb
    split at ha
    · cases ha
    · split at hb
      · cases hb
      · exact h2 j k a n ha hb
  · dsimp only at ha
    split at ha
    · cases ha
    · exact h3 j a ha
/-- slot i gets an owned thing on new ground -/
theorem At.setO {α : Type} [Ob α] {x : α} {f : List Addr} {W1 : Wd} (h : At K W0 As σ W1) (e : Le W1 W) (r : Ob.own K x v f W) (hf : ∀ a ∈ f, W1.H a = none) : At K W0 (As.set i (.ow none x)) (σ.set i (some v)) W := by
  have h' := h.mono e
  obtain ⟨l, le, F, h1, h2, h3⟩ := h
  obtain ⟨_, le', _⟩ := h'
  refine ⟨by simp [l], le', fun j => if j = i then f else F j, fun j B p a b => ?_, fun j k a n ha hb => ?_, fun j a ha => ?_⟩
  · by_cases q : i = j
    · subst q
      rw [get_set_eq a, get_set_eq b]
      simp only [if_true]
      exact ⟨v, rfl, r, fun u z => nomatch z⟩
    · rw [get_set_ne q] at a b
      dsimp only
      rw [if_neg (Ne.symm q)]
      exact Hd.mono e (fun x hx => ⟨(h3 j x hx).1, (h3 j x hx).2.1⟩) (h1 j B p a b)
  · dsimp only at ha hb
    split at ha
    · split at hb
      · rename_i c d; exact n (c.trans d.symm)
      · exact (h3 k a hb).2.1 (hf a ha)
    · split at hb
      · exact (h3 j a ha).2.1 (hf a hb)
      · exact h2 j k a n ha hb
  · dsimp only at ha
    split at ha
    · exact ⟨(Ob.foot r a ha).1, (Ob.foot r a ha).2, le.h.nope (hf a ha)⟩
    · obtain ⟨g, n, z⟩ := h3 j a ha
      exact ⟨e.o a g n, fun q => n (e.h.nope q), z⟩
/-- the owned thing of slot i changes, on its own and on new ground -/
theorem At.chg {α β : Type} [Ob α] [Ob β] {x : α} {y : β} {pin : Option V} (h : At K W0 As σ W) (hi : As[i]? = some (.ow pin x)) :
    ∃ v f, σ[i]? = some (some v) ∧ Ob.own K x v f W ∧ (∀ a ∈ f, W0.H a = none) ∧ ∀ (W' : Wd) f', Inc W.G W'.G → (∀ a, a ∉ f → W.G a = none → W.H a ≠ none → W'.G a = none) → (∀ a, a ∉ f → W.H a ≠ none → W'.H a = W.H a) →
      Ob.own K y v f' W' → (∀ a ∈ f', a ∈ f ∨ W.H a = none) → At K W0 (As.set i (.ow pin y)) σ W' := by
  obtain ⟨l, le, F, h1, h2, h3⟩ := h
  have hl : i < σ.length := l ▸ (List.getElem?_eq_some_iff.mp hi).1
  obtain ⟨v, e, r, pn⟩ := h1 i _ _ hi (List.getElem?_eq_getElem hl)
  refine ⟨v, F i, by rw [List.getElem?_eq_getElem hl, e], r, fun a ha => (h3 i a ha).2.2, fun W' f' sg so sh r' hf => ?_⟩
  have z0 : ∀ a ∈ f', W0.H a = none := fun a ha => by
    rcases hf a ha with q | q
    · exact (h3 i a q).2.2
    · exact le.h.nope q
  have lw : Le W0 W' := ⟨le.g.trans sg, fun a o q => by
    have n0 : W0.H a ≠ none := by rw [q]; exact fun z => nomatch z
    have w := le.h a o q
    rw [sh a (fun ha => n0 ((h3 i a ha).2.2)) (by rw [w]; exact fun z => nomatch z)]
    exact w, fun a g n => so a (fun ha => n ((h3 i a ha).2.2)) (le.o a g n) (fun q => n (le.h.nope q))⟩
  refine ⟨by simp [l], lw, fun j => if j = i then f' else F j, fun j B p a b => ?_, fun j k a n ha hb => ?_, fun j a ha => ?_⟩
  · by_cases q : i = j
    · subst q
      rw [get_set_eq a]
      rw [List.getElem?_eq_getElem hl, e] at b
      cases b
      simp only [if_true]
      exact ⟨v, rfl, r', pn⟩
    · rw [get_set_ne q] at a
      dsimp only
      rw [if_neg (Ne.symm q)]
      have hd := h1 j B p a b
      cases B with
      | un => trivial
      | fr x => obtain ⟨v, e1, r⟩ := hd; exact ⟨v, e1, Rp.mono sg r⟩
      | ow x =>
        obtain ⟨v, e1, r, pn⟩ := hd
        exact ⟨v, e1, Ob.keep r sg (fun a ha => so a (fun z => h2 j i a (Ne.symm q) ha z) (h3 j a ha).1 (h3 j a ha).2.1) fun a ha => sh a (fun z => h2 j i a (Ne.symm q) ha z) (h3 j a ha).2.1, pn⟩
  · dsimp only at ha hb
    split at ha
    · split at hb
      · rename_i c d; exact n (c.trans d.symm)
      · rename_i c d
        rcases hf a ha with q | q
        · exact h2 i k a (Ne.symm d) q hb
        · exact (h3 k a hb).2.1 q
    · split at hb
      · rename_i c d
        rcases hf a hb with q | q
        · exact h2 j i a c ha q
        · exact (h3 j a ha).2.1 q
      · exact h2 j k a n ha hb
  · dsimp only at ha
    split at ha
    · exact ⟨(Ob.foot r' a ha).1, (Ob.foot r' a ha).2, z0 a ha⟩
    · rename_i c
      obtain ⟨g, n, z⟩ := h3 j a ha
      refine ⟨so a (fun q => h2 j i a c ha q) g n, ?_, z⟩
      rw [sh a (fun q => h2 j i a c ha q) n]
      exact n
/-- an owned thing is frozen -/
theorem At.fz {α : Type} [Fz α] {x : α} {pin : Option V} (h : At K W0 As σ W) (hi : As[i]? = some (.ow pin x)) : ∃ W', W'.H = W.H ∧ At K W0 (As.set i (.fr x)) σ W' := by
  obtain ⟨l, le, F, h1, h2, h3⟩ := h
  have hl : i < σ.length := l ▸ (List.getElem?_eq_some_iff.mp hi).1
  obtain ⟨v, e, r, _⟩ := h1 i _ _ hi (List.getElem?_eq_getElem hl)
  refine ⟨W.fz (F i), rfl, by simp [l], le.fz fun a ha => (h3 i a ha).2.2, fun j => if j = i then [] else F j, fun j B p a b => ?_, fun j k a n ha hb => ?_, fun j a ha => ?_⟩
  · by_cases q : i = j
    · subst q
      rw [get_set_eq a]
      rw [List.getElem?_eq_getElem hl, e] at b
      cases b
      exact ⟨v, rfl, Fz.fz r⟩
    · rw [get_set_ne q] at a
      dsimp only
      rw [if_neg (Ne.symm q)]
      have hd := h1 j B p a b
      cases B with
      | un => trivial
      | fr x => obtain ⟨v, e1, r⟩ := hd; exact ⟨v, e1, Rp.mono Wd.fz_sub r⟩
      | ow x =>
        obtain ⟨v, e1, r, pn⟩ := hd
        refine ⟨v, e1, Ob.keep r Wd.fz_sub (fun a ha => ?_) (fun _ _ => rfl), pn⟩
        rw [Wd.fz_ni (fun z => h2 j i a (Ne.symm q) ha z)]
        exact (h3 j a ha).1
  · dsimp only at ha hb
    split at ha
    · cases ha
    · split at hb
      · cases hb
      · exact h2 j k a n ha hb
  · dsimp only at ha
    split at ha
    · cases ha
    · rename_i c
      obtain ⟨g, n, z⟩ := h3 j a ha
      refine ⟨?_, n, z⟩
      rw [Wd.fz_ni (fun z => h2 j i a c ha z)]
      exact g
theorem At.re {W1 : Wd} (h : At K W1 As σ W) (e : Le W0 W1) : At K W0 As σ W := by
  obtain ⟨l, le, F, h1, h2, h3⟩ := h
  exact ⟨l, e.trans le, F, h1, h2, fun i a ha => ⟨(h3 i a ha).1, (h3 i a ha).2.1, e.h.nope (h3 i a ha).2.2⟩⟩
/-- a later ground, by what is frozen now -/
def Wd.rb (W0 W : Wd) (le : Le W0 W) : Wd := ⟨W.G, fun a => match W0.H a with | some o => some o | none => W.G a, fun a o e => by
  show (match W0.H a with | some o => some o | none => W.G a) = some o
  cases q : W0.H a with
  | none => exact e
  | some u => exact (le.h a u q).symm.trans (W.sub a o e), fun a u h i => by
  have h' : (match W0.H a with | some o => some o | none => W.G a) = some u := h
  cases q : W0.H a with
  | none => rw [q] at h'; exact h'
  | some o => rw [q] at h'; cases h'; exact le.g a _ (W0.im a _ q i)⟩
theorem Wd.rb_none {W0 W : Wd} {le : Le W0 W} {a : Addr} (h : W0.H a = none) (g : W.G a = none) : (W0.rb W le).H a = none := by
  show (match W0.H a with | some o => some o | none => W.G a) = none
  rw [h]; exact g
theorem Le.rb0 {W0 W : Wd} (le : Le W0 W) : Le W0 (W0.rb W le) := ⟨le.g, fun a o e => by
  show (match W0.H a with | some o => some o | none => W.G a) = some o
  rw [e], fun a g n => le.o a g n⟩
theorem Le.rb1 {W0 W : Wd} (le : Le W0 W) : Le (W0.rb W le) W := ⟨Inc.refl _, fun a o e => by
  have e' : (match W0.H a with | some o => some o | none => W.G a) = some o := e
  cases q : W0.H a with
  | none => rw [q] at e'; exact W.sub a o e'
  | some u => rw [q] at e'; cases e'; exact le.h a _ q, fun _ g _ => g⟩
theorem At.rb (h : At K W0 As σ W) : At K (W0.rb W h.le) As σ W := by
  have le' := h.le
  obtain ⟨l, le, F, h1, h2, h3⟩ := h
  exact ⟨l, Le.rb1 le, F, h1, h2, fun i a ha => ⟨(h3 i a ha).1, (h3 i a ha).2.1, Wd.rb_none (h3 i a ha).2.2 (h3 i a ha).1⟩⟩
/-- less is known -/
inductive Wk : List Sl → List Sl → Prop
  | nil : Wk [] []
  | same {A As Bs} : Wk As Bs → Wk (A :: As) (A :: Bs)
  | drop {A As Bs} : Wk As Bs → Wk (A :: As) (.un :: Bs)
theorem Wk.get : ∀ {As Bs : List Sl} {i : Nat} {B : Sl}, Wk As Bs → Bs[i]? = some B → B = .un ∨ As[i]? = some B
  | _, _, _, _, .nil, h => by simp at h
  | _, _, 0, _, .same _, h => .inr h
  | _, _, i + 1, _, .same t, h => Wk.get (i := i) t h
  | _, _, 0, _, .drop _, h => .inl (Option.some.inj h).symm
  | _, _, i + 1, _, .drop t, h => Wk.get (i := i) t h
theorem Wk.len : ∀ {As Bs : List Sl}, Wk As Bs → As.length = Bs.length
  | _, _, .nil => rfl
  | _, _, .same t => congrArg (· + 1) (Wk.len t)
  | _, _, .drop t => congrArg (· + 1) (Wk.len t)
theorem Wk.refl : ∀ {As : List Sl}, Wk As As
  | [] => .nil
  | _ :: _ => .same Wk.refl
theorem At.wk (h : At K W0 As σ W) (w : Wk As Bs) : At K W0 Bs σ W := by
  obtain ⟨l, le, F, h1, h2, h3⟩ := h
  refine ⟨l.trans w.len, le, F, fun i B o a b => ?_, h2, h3⟩
  rcases w.get a with q | q
  · rw [q]; trivial
  · exact h1 i B o q b
end
end Fw

namespace Fw
open PySem L2
/-! ### kinds of what an expression hands back -/
structure Kd where
  p : Wd → V → Wd → Prop
  up : ∀ {A B C : Wd} {v : V}, p A v B → Le B C → p A v C
  dn : ∀ {A B C : Wd} {v : V}, Le A B → p B v C → p A v C
def kFr (K : Frag) {α : Type} [Rp α] (x : α) : Kd := ⟨fun _ v W => Rp.rep K x v W.G, fun h e => Rp.mono e.g h, fun _ h => h⟩
theorem own_up {K : Frag} {α : Type} [Ob α] {x : α} {v : V} {f : List Addr} {W W' : Wd} (h : Ob.own K x v f W) (e : Le W W') : Ob.own K x v f W' :=
  Ob.keep h e.g (fun a ha => e.o a (Ob.foot h a ha).1 (Ob.foot h a ha).2) fun a ha => by
    cases q : W.H a with
    | none => exact absurd q (Ob.foot h a ha).2
    | some u => exact e.h a u q
def kNw (K : Frag) {α : Type} [Ob α] (x : α) : Kd := ⟨fun A v W => ∃ f, Ob.own K x v f W ∧ ∀ a ∈ f, A.H a = none,
  fun ⟨f, r, n⟩ e => ⟨f, own_up r e, n⟩, fun e ⟨f, r, n⟩ => ⟨f, r, fun a ha => e.h.nope (n a ha)⟩⟩
/-- a list that may be read: frozen or owned -/
def kSh (K : Frag) {α : Type} [Rp α] (xs : List α) : Kd := ⟨fun _ v W => ∃ p vs, v = .ref p ∧ SqL K W.H p vs ∧ Al (fun x v => Rp.rep K x v W.G) xs vs ∧ xs.length ≤ sizeLine,
  fun ⟨p, vs, e, h, a, l⟩ q => ⟨p, vs, e, q.h.sql h, a.imp fun _ _ r => Rp.mono q.g r, l⟩, fun _ h => h⟩
/-- a value of which the heap says nothing more -/
def kV (v : V) : Kd := ⟨fun _ u _ => u = v, fun h _ => h, fun _ h => h⟩
def Ev (te : TE) (σ : St) (W : Wd) (k : Kd) : Prop := ∀ W1, Le W W1 → ∀ Q : VK, (∀ v W2, Le W1 W2 → k.p W1 v W2 → Q v W2.H) → te σ W1.H Q
def EvT (tt : TT) (σ : St) (W : Wd) (b : Bool) : Prop := ∀ W1, Le W W1 → ∀ Q : Bool → Hp → Prop, (∀ W2, Le W1 W2 → Q b W2.H) → tt σ W1.H Q

/-! ### the mirror's monad -/
structure Exc where
  cls : Str
  fs : List (Str × V)
inductive R (α : Type) where
  | ok (x : α)
  | ex (e : Exc)
  | no
namespace R
variable {α β γ : Type}
def bind (m : R α) (f : α → R β) : R β := match m with
  | .ok x => f x
  | .ex e => .ex e
  | .no => .no
@[simp] theorem bind_ok (x : α) (f : α → R β) : (R.ok x).bind f = f x := rfl
@[simp] theorem bind_no (f : α → R β) : (R.no : R α).bind f = .no := rfl
@[simp] theorem bind_ex (e : Exc) (f : α → R β) : (R.ex e : R α).bind f = .ex e := rfl
/-- checked -/
def chk (c : Bool) (x : α) : R α := if c then .ok x else .no
@[simp] theorem chk_t (x : α) : chk true x = .ok x := rfl
/-- of an option -/
def opt (o : Option α) : R α := match o with
  | some x => .ok x
  | none => .no
@[simp] theorem opt_some (x : α) : opt (some x) = .ok x := rfl
def and (a b : R Bool) : R Bool := a.bind fun c => if c then b else .ok false
def or (a b : R Bool) : R Bool := a.bind fun c => if c then .ok true else b
/-- what can't be raised here -/
def np (m : R α) : R α := match m with
  | .ok x => .ok x
  | _ => .no
@[simp] theorem np_ok (x : α) : np (.ok x) = .ok x := rfl
end R
/-- what a raised exception is: its class, its own dict -/
structure ExM where
  C : Str → Value
/-- what a field of an exception may be -/
def VOk : V → Prop
  | .str s => s.length ≤ sizeLine ∧ s.cps.all (· < 0x110000) = true
  | _ => True
/-- its own dict -/
def ExD (fs : List (Str × V)) (d : Option Addr) (G : Hp) : Prop := match fs with
  | [] => d = none
  | fs => ∃ a, d = some a ∧ G a = some (.xd fs)
def ExAt (M : Str → Value) (e : Exc) (cls : Value) (d : Option Addr) (W : Wd) : Prop := cls = M e.cls ∧ ExD e.fs d W.G ∧ ∀ p ∈ e.fs, VOk p.2
/-- what stands fixed in a def: the written part, the classes of exceptions -/
structure Cn where
  K : Frag
  M : Str → Value
section
variable {c : Cn} {W0 : Wd} {X : WX} {As Bs : List Sl} {α β γ δ τ ρ : Type}
def Exp (c : Cn) (W0 : Wd) (te : TE) (As : List Sl) (k : Kd) : Prop := ∀ σ W, At c.K W0 As σ W → Ev te σ W k
def Rz (c : Cn) (X : WX) (te : TE) (σ : St) (W : Wd) (e : Exc) : Prop := ∀ W1, Le W W1 → ∀ Q, (∀ cls d W2, Le W1 W2 → ExAt c.M e cls d W2 → X cls d σ W2.H) → te σ W1.H Q
def SatR (m : R α) (P : α → Prop) (E : Exc → Prop) : Prop := match m with
  | .ok x => P x
  | .ex e => E e
  | .no => True
def Exr (c : Cn) (W0 : Wd) (X : WX) (te : TE) (As : List Sl) (m : R α) (k : α → Kd) : Prop := ∀ σ W, At c.K W0 As σ W → SatR m (fun x => Ev te σ W (k x)) (Rz c X te σ W)
def Txp (c : Cn) (W0 : Wd) (tt : TT) (As : List Sl) (b : Bool) : Prop := ∀ σ W, At c.K W0 As σ W → EvT tt σ W b
def RzT (c : Cn) (X : WX) (tt : TT) (σ : St) (W : Wd) (e : Exc) : Prop := ∀ W1, Le W W1 → ∀ Q, (∀ cls d W2, Le W1 W2 → ExAt c.M e cls d W2 → X cls d σ W2.H) → tt σ W1.H Q
def Txr (c : Cn) (W0 : Wd) (X : WX) (tt : TT) (As : List Sl) (m : R Bool) : Prop := ∀ σ W, At c.K W0 As σ W → SatR m (EvT tt σ W) (RzT c X tt σ W)
theorem exr_p {te : TE} {x : α} {k : α → Kd} (h : Exp c W0 te As (k x)) : Exr c W0 X te As (.ok x) k := h
theorem txr_p {tt : TT} {b : Bool} (h : Txp c W0 tt As b) : Txr c W0 X tt As (.ok b) := h
theorem exp_w {te : TE} {k k' : Kd} (h : Exp c W0 te As k) (w : ∀ A v B, k.p A v B → k'.p A v B) : Exp c W0 te As k' := fun σ W a W1 e Q q => h σ W a W1 e Q fun v W2 e2 p => q v W2 e2 (w _ _ _ p)
theorem exr_w {te : TE} {m : R α} {k k' : α → Kd} (h : Exr c W0 X te As m k) (w : ∀ x A v B, (k x).p A v B → (k' x).p A v B) : Exr c W0 X te As m k' := fun σ W a => by
  have h' := h σ W a
  cases m with
  | ok x => exact fun W1 e Q q => h' W1 e Q fun v W2 e2 p => q v W2 e2 (w _ _ _ _ p)
  | ex e => exact h'
  | no => trivial
/-! leaves -/
theorem e_var [Rp α] {x : α} (i : Nat) (h : As[i]? = some (.fr x) := by rfl) : Exp c W0 (tVar i) As (kFr c.K x) := fun σ W a W1 e Q q => by
  obtain ⟨v, hv, r⟩ := a.var h
  exact ⟨v, hv, q v W1 (Le.refl _) (Rp.mono e.g r)⟩
/-- an owned list, read -/
theorem own_sh [Rp α] {K : Frag} {x : List α} {v : V} {f : List Addr} {W A : Wd} (h : Ob.own K x v f W) : (kSh K x).p A v W := by
  obtain ⟨p, vs, e, ef, g, hh, a, l⟩ := h
  exact ⟨p, vs, e, .inl (.inl hh), a, l⟩
theorem fr_sh [Rp α] {K : Frag} {x : List α} {v : V} {W A : Wd} (h : (kFr K x).p A v W) : (kSh K x).p A v W := by
  obtain ⟨p, vs, e, hh, a, l⟩ := h
  exact ⟨p, vs, e, .inl (.inl (W.sub _ _ hh)), a, l⟩
theorem sq_sh [Rp α] {K : Frag} {x : Sq α} {v : V} {W A : Wd} (h : (kFr K x).p A v W) : (kSh K x.l).p A v W := by
  obtain ⟨p, vs, e, hh, a, l⟩ := h
  exact ⟨p, vs, e, W.sub.sql hh, a, l⟩
theorem nw_sh [Rp α] {K : Frag} {x : List α} {v : V} {W A : Wd} (h : (kNw K x).p A v W) : (kSh K x).p A v W := by
  obtain ⟨f, o, _⟩ := h
  exact own_sh o
theorem e_int (i : Int) : Exp c W0 (tC (.int i)) As (kFr c.K i) := fun σ W a W1 e Q q => q _ W1 (Le.refl _) rfl
theorem e_bl (b : Bool) : Exp c W0 (tC (.bl b)) As (kFr c.K b) := fun σ W a W1 e Q q => q _ W1 (Le.refl _) rfl
theorem sok_of {s : Str} (h : (decide (s.length ≤ 16777216) && s.cps.all (· < 0x110000)) = true) : SOk s := by
  rw [Bool.and_eq_true] at h
  exact ⟨by have := of_decide_eq_true h.1; rw [sizeLine_eq]; exact this, h.2⟩
theorem e_str (s : Str) (h : SOk s := by exact sok_of (by decide +kernel)) : Exp c W0 (tC (.str s)) As (kFr c.K s) := fun σ W a W1 e Q q => q _ W1 (Le.refl _) ⟨rfl, h⟩
theorem e_nil [Rp α] : Exp c W0 (tLst tNil) As (kNw c.K ([] : List α)) := fun σ W a W1 e Q q =>
  ⟨Nat.zero_le _, fun p hp => q _ (W1.no p _ hp) (Le.no hp) ⟨[p], ⟨p, [], rfl, rfl, W1.sub.nope hp, upd_same, Al.nil, Nat.zero_le _⟩, fun a ha => by rw [List.mem_singleton.mp ha]; exact hp⟩⟩
/-- a new thing is left as it is for good -/
theorem nw_fr [Fz α] {K : Frag} {x : α} {v : V} {A W : Wd} (h : (kNw K x).p A v W) : ∃ W', W'.H = W.H ∧ (Le A W → Le A W') ∧ Inc W.G W'.G ∧ (kFr K x).p A v W' := by
  obtain ⟨f, o, n⟩ := h
  exact ⟨W.fz f, rfl, fun e => e.fz n, Wd.fz_sub, Fz.fz o⟩
theorem e_fz [Fz α] {te : TE} {x : α} (h : Exp c W0 te As (kNw c.K x)) : Exp c W0 te As (kFr c.K x) := fun σ W a W1 e Q q => h σ W a W1 e Q fun v W2 e2 p => by
  obtain ⟨W', eh, le, _, r⟩ := nw_fr p
  rw [← eh]
  exact q v W' (le e2) r
theorem r_fz [Fz α] {te : TE} {m : R α} (h : Exr c W0 X te As m fun x => kNw c.K x) : Exr c W0 X te As m fun x => kFr c.K x := fun σ W a => by
  have h' := h σ W a
  cases m with
  | ok x => exact e_fz (fun σ W a => by exact h σ W a) σ W a
  | ex e => exact h'
  | no => trivial
theorem e_sh [Rp α] {te : TE} {x : List α} (h : Exp c W0 te As (kFr c.K x)) : Exp c W0 te As (kSh c.K x) := exp_w h fun _ _ _ => fr_sh
theorem e_shQ [Rp α] {te : TE} {x : Sq α} (h : Exp c W0 te As (kFr c.K x)) : Exp c W0 te As (kSh c.K x.l) := exp_w h fun _ _ _ => sq_sh
theorem e_shN [Rp α] {te : TE} {x : List α} (h : Exp c W0 te As (kNw c.K x)) : Exp c W0 te As (kSh c.K x) := exp_w h fun _ _ _ => nw_sh
/-! operators of one and of two places -/
def Op1 (r : V → Hp → VK → Prop) (k1 : α → Kd) (f : α → R γ) (k3 : γ → Kd) : Prop := ∀ x, match f x with
  | .ok z => ∀ (W0 W : Wd) v, (k1 x).p W0 v W → ∀ Q : VK, (∀ u W', Le W W' → (k3 z).p W u W' → Q u W'.H) → r v W.H Q
  | .ex _ => False
  | .no => True
def Op2 (r : R2) (k1 : α → Kd) (k2 : β → Kd) (f : α → β → R γ) (k3 : γ → Kd) : Prop := ∀ x y, match f x y with
  | .ok z => ∀ (W0 W : Wd) v w, (k1 x).p W0 v W → (k2 y).p W0 w W → ∀ Q : VK, (∀ u W', Le W W' → (k3 z).p W u W' → Q u W'.H) → r v w W.H Q
  | .ex _ => False
  | .no => True
theorem e_op1 {r : V → Hp → VK → Prop} {ta : TE} {k1 : α → Kd} {k3 : γ → Kd} {g : α → γ} {x : α} (h : Op1 r k1 (fun x => .ok (g x)) k3) (ha : Exp c W0 ta As (k1 x)) {k : Kd} (hk : k3 (g x) = k) : Exp c W0 (tUn r ta) As k := hk ▸ fun σ W a W1 e Q q =>
  ha σ W a W1 e _ fun v W2 e2 p => h x _ _ v p Q fun u W3 e3 p3 => q u W3 (e2.trans e3) ((k3 (g x)).dn e2 p3)
theorem e_op2 {r : R2} {ta tb : TE} {k1 : α → Kd} {k2 : β → Kd} {k3 : γ → Kd} {g : α → β → γ} {x : α} {y : β} (h : Op2 r k1 k2 (fun x y => .ok (g x y)) k3) (ha : Exp c W0 ta As (k1 x)) (hb : Exp c W0 tb As (k2 y)) {k : Kd} (hk : k3 (g x y) = k) : Exp c W0 (tOp r ta tb) As k := hk ▸ fun σ W a W1 e Q q =>
  ha σ W a W1 e _ fun v W2 e2 p => hb σ W a W2 (e.trans e2) _ fun w W3 e3 p3 => h x y W1 W3 v w ((k1 x).up p e3) ((k2 y).dn e2 p3) Q fun u W4 e4 p4 => q u W4 (e2.trans (e3.trans e4)) ((k3 (g x y)).dn (e2.trans e3) p4)
theorem r_op2 {r : R2} {ta tb : TE} {k1 : α → Kd} {k2 : β → Kd} {k3 : γ → Kd} {f : α → β → R γ} {m : R α} {n : R β} (h : Op2 r k1 k2 f k3) (ha : Exr c W0 X ta As m k1) (hb : Exr c W0 X tb As n k2) :
    Exr c W0 X (tOp r ta tb) As (m.bind fun x => n.bind fun y => f x y) k3 := fun σ W a => by
  have ha' := ha σ W a
  have hb' := hb σ W a
  cases m with
  | no => trivial
  | ex e => exact fun W1 e1 Q q => ha' W1 e1 _ q
  | ok x =>
    cases n with
    | no => trivial
    | ex e => exact fun W1 e1 Q q => ha' W1 e1 _ fun v W2 e2 p => hb' W2 (e1.trans e2) _ fun cls d W3 e3 z => q cls d W3 (e2.trans e3) z
    | ok y =>
      have h' := h x y
      show SatR (f x y) _ _
      cases hf : f x y with
      | no => trivial
      | ex e => rw [hf] at h'; exact h'.elim
      | ok z =>
        rw [hf] at h'
        exact fun W1 e Q q => ha' W1 e _ fun v W2 e2 p => hb' W2 (e.trans e2) _ fun w W3 e3 p3 => h' W1 W3 v w ((k1 x).up p e3) ((k2 y).dn e2 p3) Q fun u W4 e4 p4 => q u W4 (e2.trans (e3.trans e4)) ((k3 z).dn (e2.trans e3) p4)
/-! arguments -/
structure KdA where
  p : Wd → List V → Wd → Prop
  up : ∀ {A B C : Wd} {v : List V}, p A v B → Le B C → p A v C
  dn : ∀ {A B C : Wd} {v : List V}, Le A B → p B v C → p A v C
def aNil : KdA := ⟨fun _ vs _ => vs = [], fun h _ => h, fun _ h => h⟩
def aCons (k : Kd) (ks : KdA) : KdA := ⟨fun A vs W => ∃ v r, vs = v :: r ∧ k.p A v W ∧ ks.p A r W, fun ⟨v, r, e, a, b⟩ q => ⟨v, r, e, k.up a q, ks.up b q⟩, fun q ⟨v, r, e, a, b⟩ => ⟨v, r, e, k.dn q a, ks.dn q b⟩⟩
def EvA (ta : TA) (σ : St) (W : Wd) (k : KdA) : Prop := ∀ W1, Le W W1 → ∀ Q : List V → Hp → Prop, (∀ v W2, Le W1 W2 → k.p W1 v W2 → Q v W2.H) → ta σ W1.H Q
def RzA (c : Cn) (X : WX) (ta : TA) (σ : St) (W : Wd) (e : Exc) : Prop := ∀ W1, Le W W1 → ∀ Q, (∀ cls d W2, Le W1 W2 → ExAt c.M e cls d W2 → X cls d σ W2.H) → ta σ W1.H Q
def Axp (c : Cn) (W0 : Wd) (ta : TA) (As : List Sl) (k : KdA) : Prop := ∀ σ W, At c.K W0 As σ W → EvA ta σ W k
def Axr (c : Cn) (W0 : Wd) (X : WX) (ta : TA) (As : List Sl) (m : R τ) (k : τ → KdA) : Prop := ∀ σ W, At c.K W0 As σ W → SatR m (fun x => EvA ta σ W (k x)) (RzA c X ta σ W)
theorem axr_p {ta : TA} {x : τ} {k : τ → KdA} (h : Axp c W0 ta As (k x)) : Axr c W0 X ta As (.ok x) k := h
theorem a_nil : Axp c W0 tNil As aNil := fun σ W a W1 e Q q => q [] W1 (Le.refl _) rfl
theorem a_cons {te : TE} {ta : TA} {k : Kd} {ks : KdA} (h : Exp c W0 te As k) (hr : Axp c W0 ta As ks) : Axp c W0 (tCons te ta) As (aCons k ks) := fun σ W a W1 e Q q =>
  h σ W a W1 e _ fun v W2 e2 p => hr σ W a W2 (e.trans e2) _ fun vs W3 e3 ps => q _ W3 (e2.trans e3) ⟨v, vs, rfl, k.up p e3, ks.dn e2 ps⟩
theorem ar_cons {te : TE} {ta : TA} {m : R α} {n : R τ} {k : α → Kd} {ks : τ → KdA} (h : Exr c W0 X te As m k) (hr : Axr c W0 X ta As n ks) :
    Axr c W0 X (tCons te ta) As (m.bind fun x => n.bind fun y => .ok (x, y)) (fun z => aCons (k z.1) (ks z.2)) := fun σ W a => by
  have h' := h σ W a
  have hr' := hr σ W a
  cases m with
  | no => trivial
  | ex e => exact fun W1 e1 Q q => h' W1 e1 _ q
  | ok x =>
    cases n with
    | no => trivial
    | ex e => exact fun W1 e1 Q q => h' W1 e1 _ fun v W2 e2 p => hr' W2 (e1.trans e2) _ fun cls d W3 e3 z => q cls d W3 (e2.trans e3) z
    | ok y => exact fun W1 e Q q => h' W1 e _ fun v W2 e2 p => hr' W2 (e.trans e2) _ fun vs W3 e3 ps => q _ W3 (e2.trans e3) ⟨v, vs, rfl, (k x).up p e3, (ks y).dn e2 ps⟩
/-- what is reckoned of arguments -/
def OpA (r : List V → Hp → VK → Prop) (ks : τ → KdA) (f : τ → R γ) (k3 : γ → Kd) : Prop := ∀ x, match f x with
  | .ok z => ∀ (W0 W : Wd) vs, (ks x).p W0 vs W → ∀ Q : VK, (∀ u W', Le W W' → (k3 z).p W u W' → Q u W'.H) → r vs W.H Q
  | .ex _ => False
  | .no => True
/-- any reading that goes by its arguments -/
theorem e_opA {r : List V → Hp → VK → Prop} {ta : TA} {ks : τ → KdA} {k3 : γ → Kd} {g : τ → γ} {x : τ} (h : OpA r ks (fun x => .ok (g x)) k3) (ha : Axp c W0 ta As (ks x)) {k : Kd} (hk : k3 (g x) = k) : Exp c W0 (fun σ H Q => ta σ H fun vs H1 => r vs H1 Q) As k := hk ▸ fun σ W a W1 e Q q =>
  ha σ W a W1 e _ fun v W2 e2 p => h x _ _ v p Q fun u W3 e3 p3 => q u W3 (e2.trans e3) ((k3 (g x)).dn e2 p3)
/-! displays of tuples and lists -/
theorem e_pair [Rp α] [Rp β] {ta : TA} {x : α} {y : β} (h : Axp c W0 ta As (aCons (kFr c.K x) (aCons (kFr c.K y) aNil))) : Exp c W0 (tTup ta) As (kFr c.K (x, y)) := fun σ W a W1 e Q q =>
  h σ W a W1 e _ fun vs W2 e2 ⟨v, r, ev, p1, w, r2, ew, p2, en⟩ => by
    subst ev ew en
    exact ⟨by show 2 ≤ sizeLine; decide, fun p hp => q _ (W2.nf p _) (e2.trans (Le.nf hp)) ⟨p, v, w, rfl, .inl (.inl upd_same), Rp.mono (Le.nf hp).g p1, Rp.mono (Le.nf hp).g p2⟩⟩
theorem rz_tup {ta : TA} {σ : St} {W : Wd} {e : Exc} (h : RzA c X ta σ W e) : Rz c X (tTup ta) σ W e := fun W1 e1 Q q => h W1 e1 _ q
/-- a reading over arguments lifts -/
theorem r_ofA {ta : TA} {m : R τ} {g : τ → γ} {ks : τ → KdA} {k : γ → Kd} {te : TA → TE} (ha : Axr c W0 X ta As m ks) (h : ∀ x, m = .ok x → Axp c W0 ta As (ks x) → Exp c W0 (te ta) As (k (g x)))
    (hz : ∀ σ W e, RzA c X ta σ W e → Rz c X (te ta) σ W e) : Exr c W0 X (te ta) As (m.bind fun x => .ok (g x)) k := fun σ W a => by
  cases m with
  | no => trivial
  | ex e => exact hz σ W e (ha σ W a)
  | ok x => exact h x rfl (fun σ W a => ha σ W a) σ W a
theorem r_pair [Rp α] [Rp β] {ta : TA} {m : R (α × β × Unit)} (h : Axr c W0 X ta As m fun z => aCons (kFr c.K z.1) (aCons (kFr c.K z.2.1) aNil)) : Exr c W0 X (tTup ta) As (m.bind fun z => .ok (z.1, z.2.1)) fun x => kFr c.K x :=
  r_ofA (te := tTup) h (fun x _ h' => e_pair h') fun _ _ _ => rz_tup
theorem e_t3 [Rp α] [Rp β] [Rp γ] {ta : TA} {x : α} {y : β} {z : γ} (h : Axp c W0 ta As (aCons (kFr c.K x) (aCons (kFr c.K y) (aCons (kFr c.K z) aNil)))) : Exp c W0 (tTup ta) As (kFr c.K (T3.mk x y z)) := fun σ W a W1 e Q q =>
  h σ W a W1 e _ fun vs W2 e2 ⟨v, r, ev, p1, w, r2, ew, p2, u, r3, eu, p3, en⟩ => by
    subst ev ew eu en
    exact ⟨by show 3 ≤ sizeLine; decide, fun p hp => q _ (W2.nf p _) (e2.trans (Le.nf hp)) ⟨p, v, w, u, rfl, .inl (.inl upd_same), Rp.mono (Le.nf hp).g p1, Rp.mono (Le.nf hp).g p2, Rp.mono (Le.nf hp).g p3⟩⟩
theorem r_t3 [Rp α] [Rp β] [Rp γ] {ta : TA} {m : R (α × β × γ × Unit)} (h : Axr c W0 X ta As m fun z => aCons (kFr c.K z.1) (aCons (kFr c.K z.2.1) (aCons (kFr c.K z.2.2.1) aNil))) : Exr c W0 X (tTup ta) As (m.bind fun z => .ok (T3.mk z.1 z.2.1 z.2.2.1)) fun x => kFr c.K x :=
  r_ofA (te := tTup) h (fun x _ h' => e_t3 h') fun _ _ _ => rz_tup
theorem e_t4 [Rp α] [Rp β] [Rp γ] [Rp δ] {ta : TA} {x : α} {y : β} {z : γ} {t : δ} (h : Axp c W0 ta As (aCons (kFr c.K x) (aCons (kFr c.K y) (aCons (kFr c.K z) (aCons (kFr c.K t) aNil))))) : Exp c W0 (tTup ta) As (kFr c.K (T4.mk x y z t)) := fun σ W a W1 e Q q =>
  h σ W a W1 e _ fun vs W2 e2 ⟨v, r, ev, p1, w, r2, ew, p2, u, r3, eu, p3, t', r4, et, p4, en⟩ => by
    subst ev ew eu et en
    exact ⟨by show 4 ≤ sizeLine; decide, fun p hp => q _ (W2.nf p _) (e2.trans (Le.nf hp)) ⟨p, v, w, u, t', rfl, .inl (.inl upd_same), Rp.mono (Le.nf hp).g p1, Rp.mono (Le.nf hp).g p2, Rp.mono (Le.nf hp).g p3, Rp.mono (Le.nf hp).g p4⟩⟩
theorem r_t4 [Rp α] [Rp β] [Rp γ] [Rp δ] {ta : TA} {m : R (α × β × γ × δ × Unit)} (h : Axr c W0 X ta As m fun z => aCons (kFr c.K z.1) (aCons (kFr c.K z.2.1) (aCons (kFr c.K z.2.2.1) (aCons (kFr c.K z.2.2.2.1) aNil)))) :
    Exr c W0 X (tTup ta) As (m.bind fun z => .ok (T4.mk z.1 z.2.1 z.2.2.1 z.2.2.2.1)) fun x => kFr c.K x :=
  r_ofA (te := tTup) h (fun x _ h' => e_t4 h') fun _ _ _ => rz_tup
/-- all arguments of one kind -/
def aAll (k : α → Kd) : List α → KdA
  | [] => aNil
  | x :: xs => aCons (k x) (aAll k xs)
theorem aAll_al [Rp α] {K : Frag} : ∀ {xs : List α} {A B : Wd} {vs : List V}, (aAll (fun x => kFr K x) xs).p A vs B → Al (fun x v => Rp.rep K x v B.G) xs vs
  | [], _, _, _, h => by cases h; exact Al.nil
  | x :: xs, _, _, _, ⟨v, r, e, p, q⟩ => by subst e; exact Al.cons p (aAll_al q)
theorem szl {xs : List α} {n : Nat} (h : xs.length = n) (hn : n ≤ 1000) : xs.length ≤ sizeLine := by
  rw [h, sizeLine_eq]
  omega
theorem e_lst [Rp α] {ta : TA} {xs : List α} (h : Axp c W0 ta As (aAll (fun x => kFr c.K x) xs)) (hl : xs.length ≤ sizeLine) : Exp c W0 (tLst ta) As (kNw c.K xs) := fun σ W a W1 e Q q =>
  h σ W a W1 e _ fun vs W2 e2 ps => by
    have al := aAll_al ps
    exact ⟨al.1 ▸ hl, fun p hp => q _ (W2.no p _ hp) (e2.trans (Le.no hp)) ⟨[p], ⟨p, vs, rfl, rfl, W2.sub.nope hp, upd_same, al, hl⟩, fun b hb => by rw [List.mem_singleton.mp hb]; exact e2.fr hp⟩⟩
/-! tests -/
theorem t_e {te : TE} {b : Bool} (h : Exp c W0 te As (kFr c.K b)) : Txp c W0 (tTest te) As b := fun σ W a W1 e Q q => h σ W a W1 e _ fun v W2 e2 p => ⟨b, p, q W2 e2⟩
theorem tr_e {te : TE} {m : R Bool} (h : Exr c W0 X te As m fun b => kFr c.K b) : Txr c W0 X (tTest te) As m := fun σ W a => by
  have h' := h σ W a
  cases m with
  | no => trivial
  | ex e => exact fun W1 e1 Q q => h' W1 e1 _ q
  | ok b => exact fun W1 e Q q => h' W1 e _ fun v W2 e2 p => ⟨b, p, q W2 e2⟩
theorem t_B {te : TE} {b : Bool} (h : Exp c W0 te As (kFr c.K b)) : Txp c W0 (tB te) As b := fun σ W a W1 e Q q => h σ W a W1 e _ fun v W2 e2 p => ⟨b, p, q W2 e2⟩
theorem tr_B {te : TE} {m : R Bool} (h : Exr c W0 X te As m fun b => kFr c.K b) : Txr c W0 X (tB te) As m := fun σ W a => by
  have h' := h σ W a
  cases m with
  | no => trivial
  | ex e => exact fun W1 e1 Q q => h' W1 e1 _ q
  | ok b => exact fun W1 e Q q => h' W1 e _ fun v W2 e2 p => ⟨b, p, q W2 e2⟩
theorem t_not {t : TT} {b : Bool} (h : Txp c W0 t As b) : Txp c W0 (tNot t) As (!b) := fun σ W a W1 e Q q => h σ W a W1 e _ fun W2 e2 => q W2 e2
theorem tr_not {t : TT} {m : R Bool} (h : Txr c W0 X t As m) : Txr c W0 X (tNot t) As (m.bind fun b => .ok (!b)) := fun σ W a => by
  have h' := h σ W a
  cases m with
  | no => trivial
  | ex e => exact fun W1 e1 Q q => h' W1 e1 _ q
  | ok b => exact fun W1 e Q q => h' W1 e _ fun W2 e2 => q W2 e2
theorem t_or {t u : TT} {a b : Bool} (h : Txp c W0 t As a) (h2 : Txp c W0 u As b) : Txp c W0 (tOr t u) As (a || b) := fun σ W at_ W1 e Q q => h σ W at_ W1 e _ fun W2 e2 => by
  cases a with
  | false => exact h2 σ W at_ W2 (e.trans e2) Q fun W3 e3 => q W3 (e2.trans e3)
  | true => exact q W2 e2
theorem tr_and {t u : TT} {m n : R Bool} (h : Txr c W0 X t As m) (h2 : Txr c W0 X u As n) : Txr c W0 X (tAnd t u) As (m.and n) := fun σ W a => by
  have h' := h σ W a
  have h2' := h2 σ W a
  cases m with
  | no => trivial
  | ex e => exact fun W1 e1 Q q => h' W1 e1 _ q
  | ok b =>
    cases b with
    | false => exact fun W1 e Q q => h' W1 e _ fun W2 e2 => q W2 e2
    | true =>
      show SatR (n) _ _
      cases n with
      | no => trivial
      | ex e => exact fun W1 e1 Q q => h' W1 e1 _ fun W2 e2 => h2' W2 (e1.trans e2) _ fun cls d W3 e3 z => q cls d W3 (e2.trans e3) z
      | ok b => exact fun W1 e Q q => h' W1 e _ fun W2 e2 => h2' W2 (e.trans e2) Q fun W3 e3 => q W3 (e2.trans e3)
theorem tr_or {t u : TT} {m n : R Bool} (h : Txr c W0 X t As m) (h2 : Txr c W0 X u As n) : Txr c W0 X (tOr t u) As (m.or n) := fun σ W a => by
  have h' := h σ W a
  have h2' := h2 σ W a
  cases m with
  | no => trivial
  | ex e => exact fun W1 e1 Q q => h' W1 e1 _ q
  | ok b =>
    cases b with
    | true => exact fun W1 e Q q => h' W1 e _ fun W2 e2 => q W2 e2
    | false =>
      show SatR (n) _ _
      cases n with
      | no => trivial
      | ex e => exact fun W1 e1 Q q => h' W1 e1 _ fun W2 e2 => h2' W2 (e1.trans e2) _ fun cls d W3 e3 z => q cls d W3 (e2.trans e3) z
      | ok b => exact fun W1 e Q q => h' W1 e _ fun W2 e2 => h2' W2 (e.trans e2) Q fun W3 e3 => q W3 (e2.trans e3)
/-! and, or, not, if as values -/
theorem e_andV {ta tb : TE} {a b : Bool} (h : Exp c W0 ta As (kFr c.K a)) (h2 : Exp c W0 tb As (kFr c.K b)) : Exp c W0 (tAndV ta tb) As (kFr c.K (a && b)) := fun σ W at_ W1 e Q q => h σ W at_ W1 e _ fun v W2 e2 p => ⟨a, p, by
  cases a with
  | true => exact h2 σ W at_ W2 (e.trans e2) Q fun w W3 e3 p3 => q w W3 (e2.trans e3) p3
  | false => exact q _ W2 e2 rfl⟩
theorem r_andV {ta tb : TE} {m n : R Bool} (h : Exr c W0 X ta As m fun b => kFr c.K b) (h2 : Exr c W0 X tb As n fun b => kFr c.K b) : Exr c W0 X (tAndV ta tb) As (m.and n) fun b => kFr c.K b := fun σ W a => by
  have h' := h σ W a
  have h2' := h2 σ W a
  cases m with
  | no => trivial
  | ex e => exact fun W1 e1 Q q => h' W1 e1 _ q
  | ok b =>
    cases b with
    | false => exact fun W1 e Q q => h' W1 e _ fun v W2 e2 p => ⟨false, p, q _ W2 e2 rfl⟩
    | true =>
      show SatR (n) _ _
      cases n with
      | no => trivial
      | ex e => exact fun W1 e1 Q q => h' W1 e1 _ fun v W2 e2 p => ⟨true, p, h2' W2 (e1.trans e2) _ fun cls d W3 e3 z => q cls d W3 (e2.trans e3) z⟩
      | ok b => exact fun W1 e Q q => h' W1 e _ fun v W2 e2 p => ⟨true, p, h2' W2 (e.trans e2) Q fun w W3 e3 p3 => q w W3 (e2.trans e3) p3⟩
theorem e_notV {ta : TE} {a : Bool} (h : Exp c W0 ta As (kFr c.K a)) : Exp c W0 (tNotV ta) As (kFr c.K (!a)) := fun σ W at_ W1 e Q q => h σ W at_ W1 e _ fun v W2 e2 p => ⟨a, p, q _ W2 e2 rfl⟩
end
end Fw

namespace Fw
open PySem L2
inductive Out (S J ρ : Type) where
  | nx (s : S)
  | rt (r : ρ)
  | bk (j : J)
  | ct (j : J)
  | ex (e : Exc)
  | no
namespace Out
variable {S T J ρ α : Type}
def bind (m : Out S J ρ) (k : S → Out T J ρ) : Out T J ρ := match m with
  | .nx s => k s
  | .rt r => .rt r
  | .bk j => .bk j
  | .ct j => .ct j
  | .ex e => .ex e
  | .no => .no
@[simp] theorem bind_nx (s : S) (k : S → Out T J ρ) : (Out.nx s : Out S J ρ).bind k = k s := rfl
@[simp] theorem bind_rt (r : ρ) (k : S → Out T J ρ) : (Out.rt r : Out S J ρ).bind k = .rt r := rfl
@[simp] theorem bind_bk (r : J) (k : S → Out T J ρ) : (Out.bk r : Out S J ρ).bind k = .bk r := rfl
@[simp] theorem bind_ct (r : J) (k : S → Out T J ρ) : (Out.ct r : Out S J ρ).bind k = .ct r := rfl
@[simp] theorem bind_ex (r : Exc) (k : S → Out T J ρ) : (Out.ex r : Out S J ρ).bind k = .ex r := rfl
@[simp] theorem bind_no (k : S → Out T J ρ) : (Out.no : Out S J ρ).bind k = .no := rfl
end Out
/-- go on with what was reckoned -/
def R.to {α S J ρ : Type} (m : R α) (k : α → Out S J ρ) : Out S J ρ := match m with
  | .ok x => k x
  | .ex e => .ex e
  | .no => .no
section
variable {α S J ρ : Type}
@[simp] theorem R.to_ok (x : α) (k : α → Out S J ρ) : (R.ok x).to k = k x := rfl
@[simp] theorem R.to_no (k : α → Out S J ρ) : (R.no : R α).to k = .no := rfl
@[simp] theorem R.to_ex (e : Exc) (k : α → Out S J ρ) : (R.ex e : R α).to k = .ex e := rfl
/-- a def all of whose ways return -/
def Out.run (m : Out Unit Unit ρ) : R ρ := match m with
  | .rt r => .ok r
  | _ => .no
@[simp] theorem Out.run_rt (r : ρ) : (Out.rt r : Out Unit Unit ρ).run = .ok r := rfl
@[simp] theorem Out.run_ex (e : Exc) : (Out.ex e : Out Unit Unit ρ).run = .no := rfl
@[simp] theorem Out.run_no : (Out.no : Out Unit Unit ρ).run = .no := rfl
def lt {β : Type} (x : α) (k : α → β) : β := k x
def R.to2 {β : Type} (m : R (α × β)) (k : α → β → Out S J ρ) : Out S J ρ := m.to fun z => k z.1 z.2
def R.toS {β : Type} (m : R (β × α)) (k : α → Out S J ρ) : Out S J ρ := m.to fun z => k z.2
@[simp] theorem R.to2_ok {β : Type} (x : α × β) (k : α → β → Out S J ρ) : (R.ok x).to2 k = k x.1 x.2 := rfl
@[simp] theorem R.toS_ok {β : Type} (x : β × α) (k : α → Out S J ρ) : (R.ok x).toS k = k x.2 := rfl
def forL : List α → S → (S → α → Out S S ρ) → Out S J ρ
  | [], s, _ => .nx s
  | x :: xs, s, f => match f s x with
    | .nx s' => forL xs s' f
    | .ct s' => forL xs s' f
    | .bk s' => .nx s'
    | .rt r => .rt r
    | .ex e => .ex e
    | .no => .no
end
/-- the grounds of a block: its own, the def's, that of what is raised -/
structure Bd where
  W0 : Wd
  Wo : Wd
  We : Wd
  le : Le Wo W0
  lx : Le We W0
def Bd.re (B : Bd) (W1 : Wd) (e : Le B.W0 W1) : Bd := ⟨W1, B.Wo, B.We, B.le.trans e, B.lx.trans e⟩
section
variable {J S T U ρ α β γ : Type} {c : Cn} {X : WX} {kr : ρ → Kd} {Ls : List Sl} {Js : J → List Sl} {B : Bd} {As Bs' : List Sl} {Bs : S → List Sl} {Cs : T → List Sl}
def Fin (c : Cn) (X : WX) (kr : ρ → Kd) (Ls : List Sl) (Js : J → List Sl) (B : Bd) (Bs : S → List Sl) (D : Ends) (m : Out S J ρ) : Prop := match m with
  | .nx s => ∀ σ W, At c.K B.W0 (Bs s) σ W → D.nx σ W.H
  | .rt r => ∀ v W, Le B.W0 W → (kr r).p B.Wo v W → D.rt v W.H
  | .bk j => ∀ σ W, At c.K B.W0 (Js j) σ W → D.bk σ W.H
  | .ct j => ∀ σ W, At c.K B.W0 (Js j) σ W → D.ct σ W.H
  | .ex e => ∀ cls d σ W, At c.K B.We Ls σ W → ExAt c.M e cls d W → X cls d σ W.H
  | .no => False
def Den (c : Cn) (X : WX) (kr : ρ → Kd) (Ls : List Sl) (Js : J → List Sl) (B : Bd) (t : TS) (As : List Sl) (m : Out S J ρ) (Bs : S → List Sl) : Prop := ∀ D σ W, At c.K B.W0 As σ W → Fin c X kr Ls Js B Bs D m → t D σ W.H
/-- what may leave the block where the slots are so -/
abbrev Lx (Ls : List Sl) (As : List Sl) : Prop := Wk As Ls
theorem lx_at {K : Frag} {W : Wd} {σ : St} (h : Lx Ls As) (a : At K B.W0 As σ W) : At K B.We Ls σ W := (a.wk h).re B.lx
theorem At.setF [Rp α] {K : Frag} {W0 W : Wd} {σ : St} {x : α} {v : V} {i : Nat} (h : At K W0 As σ W) (r : Rp.rep K x v W.G) : At K W0 (As.set i (.fr x)) (σ.set i (some v)) W := h.set ⟨v, rfl, r⟩
theorem d_seq {t u : TS} {m : Out S J ρ} {k : S → Out T J ρ} (h : Den c X kr Ls Js B t As m Bs) (hk : ∀ s, Den c X kr Ls Js B u (Bs s) (k s) Cs) : Den c X kr Ls Js B (tSeq t u) As (m.bind k) Cs := fun D σ W a f => by
  refine h { D with nx := u D } σ W a ?_
  cases m with
  | nx s => exact fun σ' W' a' => hk s D σ' W' a' f
  | _ => exact f
theorem d_nx {s : S} (w : Wk As (Bs s)) : Den c X kr Ls Js B tNext As (.nx s) Bs := fun D σ W a f => f σ W (a.wk w)
/-- x = e -/
theorem d_let [Rp α] {te : TE} {u : TS} {x : α} {k : α → Out S J ρ} (i : Nat) (h : Exp c B.W0 te As (kFr c.K x)) (hk : ∀ y, Den c X kr Ls Js B u (As.set i (.fr y)) (k y) Bs) : Den c X kr Ls Js B (tSeq (tAsg te (gName i)) u) As (lt x k) Bs := fun D σ W a f =>
  h σ W a W (Le.refl _) _ fun v W2 e p => hk x D _ W2 ((a.mono e).setF p) f
theorem d_get [Rp α] {te : TE} {u : TS} {m : R α} {k : α → Out S J ρ} (i : Nat) (lx : Lx Ls As) (h : Exr c B.W0 X te As m fun x => kFr c.K x) (hk : ∀ y, Den c X kr Ls Js B u (As.set i (.fr y)) (k y) Bs) : Den c X kr Ls Js B (tSeq (tAsg te (gName i)) u) As (m.to k) Bs := fun D σ W a f => by
  have h' := h σ W a
  cases m with
  | no => exact False.elim f
  | ex e => exact h' W (Le.refl _) _ fun cls d W2 e2 z => f cls d σ W2 (lx_at lx (a.mono e2)) z
  | ok x => exact h' W (Le.refl _) _ fun v W2 e p => hk x D _ W2 ((a.mono e).setF p) f
theorem d_letN [Ob α] {te : TE} {u : TS} {x : α} {k : α → Out S J ρ} (i : Nat) (h : Exp c B.W0 te As (kNw c.K x)) (hk : ∀ y, Den c X kr Ls Js B u (As.set i (.ow none y)) (k y) Bs) : Den c X kr Ls Js B (tSeq (tAsg te (gName i)) u) As (lt x k) Bs := fun D σ W a f =>
  h σ W a W (Le.refl _) _ fun v W2 e ⟨fp, o, n⟩ => hk x D _ W2 (a.setO e o n) f
theorem d_getN [Ob α] {te : TE} {u : TS} {m : R α} {k : α → Out S J ρ} (i : Nat) (lx : Lx Ls As) (h : Exr c B.W0 X te As m fun x => kNw c.K x) (hk : ∀ y, Den c X kr Ls Js B u (As.set i (.ow none y)) (k y) Bs) : Den c X kr Ls Js B (tSeq (tAsg te (gName i)) u) As (m.to k) Bs := fun D σ W a f => by
  have h' := h σ W a
  cases m with
  | no => exact False.elim f
  | ex e => exact h' W (Le.refl _) _ fun cls d W2 e2 z => f cls d σ W2 (lx_at lx (a.mono e2)) z
  | ok x => exact h' W (Le.refl _) _ fun v W2 e ⟨fp, o, n⟩ => hk x D _ W2 (a.setO e o n) f
/-- return e -/
theorem kr_ok {r : ρ} {v : V} {A W : Wd} (e : Le B.W0 A) (h : (kr r).p A v W) : (kr r).p B.Wo v W := (kr r).dn (B.le.trans e) h
theorem d_ret {te : TE} {u : TS} {r : ρ} (h : Exp c B.W0 te As (kr r)) : Den c X kr Ls Js B (tSeq (tRet te) u) As (.rt r) Bs := fun D σ W a f =>
  h σ W a W (Le.refl _) _ fun v W2 e p => f v W2 (a.le.trans e) (kr_ok a.le p)
theorem d_retR {te : TE} {u : TS} {m : R ρ} (lx : Lx Ls As) (h : Exr c B.W0 X te As m kr) : Den c X kr Ls Js B (tSeq (tRet te) u) As (m.to .rt) Bs := fun D σ W a f => by
  have h' := h σ W a
  cases m with
  | no => exact False.elim f
  | ex e => exact h' W (Le.refl _) _ fun cls d W2 e2 z => f cls d σ W2 (lx_at lx (a.mono e2)) z
  | ok x => exact h' W (Le.refl _) _ fun v W2 e p => f v W2 (a.le.trans e) (kr_ok a.le p)
/-- return x, x an owned thing of this def -/
theorem d_retO [Ob ρ] {pin : Option V} {u : TS} {r : ρ} (i : Nat) (hi : As[i]? = some (.ow pin r)) (hr : kr = fun x => kNw c.K x) : Den c X kr Ls Js B (tSeq (tRet (tVar i)) u) As (.rt r) Bs := fun D σ W a f => by
  obtain ⟨v, fp, hv, o, n, _⟩ := a.chg (β := ρ) (y := r) hi
  refine ⟨v, hv, f v W a.le ?_⟩
  rw [hr]
  exact ⟨fp, o, fun b hb => B.le.h.nope (n b hb)⟩
theorem d_ifp {tc : TT} {t u v : TS} {z : Bool} {a b : Out S J ρ} {k : S → Out T J ρ} (hc : Txp c B.W0 tc As z) (h1 : Den c X kr Ls Js B t As a Bs) (h2 : Den c X kr Ls Js B u As b Bs) (hk : ∀ s, Den c X kr Ls Js B v (Bs s) (k s) Cs) :
    Den c X kr Ls Js B (tSeq (tIfS tc t u) v) As ((if z then a else b).bind k) Cs := fun D σ W at_ f => by
  refine hc σ W at_ W (Le.refl _) _ fun W2 e2 => ?_
  cases z with
  | true => exact d_seq h1 hk D σ W2 (at_.mono e2) f
  | false => exact d_seq h2 hk D σ W2 (at_.mono e2) f
/-- a block that never goes on: its state is of the type Empty -/
def Out.abs (m : Out Empty J ρ) : Out S J ρ := m.bind fun e => nomatch e
@[simp] theorem Out.abs_rt (r : ρ) : (Out.rt r : Out Empty J ρ).abs = (Out.rt r : Out S J ρ) := rfl
@[simp] theorem Out.abs_bk (r : J) : (Out.bk r : Out Empty J ρ).abs = (Out.bk r : Out S J ρ) := rfl
@[simp] theorem Out.abs_ct (r : J) : (Out.ct r : Out Empty J ρ).abs = (Out.ct r : Out S J ρ) := rfl
@[simp] theorem Out.abs_ex (r : Exc) : (Out.ex r : Out Empty J ρ).abs = (Out.ex r : Out S J ρ) := rfl
@[simp] theorem Out.abs_no : (Out.no : Out Empty J ρ).abs = (Out.no : Out S J ρ) := rfl
def noSl : Empty → List Sl := fun e => nomatch e
/-- if c: a block that never goes on -/
theorem d_abs {t v : TS} {a : Out Empty J ρ} (h : Den c X kr Ls Js B t As a noSl) (D : Ends) : ∀ σ W, At c.K B.W0 As σ W → Fin c X kr Ls Js B Cs D a.abs → t { D with nx := v D } σ W.H := fun σ W at_ f => by
  refine h { D with nx := v D } σ W at_ ?_
  cases a with
  | nx s => exact s.elim
  | _ => exact f
theorem d_ifa {tc : TT} {t v : TS} {m : R Bool} {a : Out Empty J ρ} {k : Out T J ρ} (lx : Lx Ls As) (hc : Txr c B.W0 X tc As m) (h1 : Den c X kr Ls Js B t As a noSl) (hk : Den c X kr Ls Js B v As k Cs) :
    Den c X kr Ls Js B (tSeq (tIfS tc t tNext) v) As (m.to fun z => if z then a.abs else k) Cs := fun D σ W at_ f => by
  have h' := hc σ W at_
  cases m with
  | no => exact False.elim f
  | ex e => exact h' W (Le.refl _) _ fun cls d W2 e2 z => f cls d σ W2 (lx_at lx (at_.mono e2)) z
  | ok z =>
    refine h' W (Le.refl _) _ fun W2 e2 => ?_
    cases z with
    | true => exact d_abs (v := v) h1 D σ W2 (at_.mono e2) f
    | false => exact hk D σ W2 (at_.mono e2) f
theorem d_ifap {tc : TT} {t v : TS} {z : Bool} {a : Out Empty J ρ} {k : Out T J ρ} (hc : Txp c B.W0 tc As z) (h1 : Den c X kr Ls Js B t As a noSl) (hk : Den c X kr Ls Js B v As k Cs) :
    Den c X kr Ls Js B (tSeq (tIfS tc t tNext) v) As (if z then a.abs else k) Cs := fun D σ W at_ f => by
  refine hc σ W at_ W (Le.refl _) _ fun W2 e2 => ?_
  cases z with
  | true => exact d_abs (v := v) h1 D σ W2 (at_.mono e2) f
  | false => exact hk D σ W2 (at_.mono e2) f
/-- xs.append(e) -/
@[irreducible] def R.app (xs : List α) (x : α) : R (List α) := if xs.length < sizeLine then .ok (xs ++ [x]) else .no
@[irreducible] def R.ext (xs ys : List α) : R (List α) := if xs.length + ys.length ≤ sizeLine then .ok (xs ++ ys) else .no
theorem al_mono {K : Frag} [Rp α] {xs : List α} {vs : List V} {G H : Hp} (h : Al (fun x v => Rp.rep K x v G) xs vs) (s : Inc G H) : Al (fun x v => Rp.rep K x v H) xs vs := h.imp fun _ _ r => Rp.mono s r
theorem mut_keep {W : Wd} {p : Addr} {o : HO} (g : W.G p = none) {hi : imm o = false} (a : Addr) (h : a ∉ [p]) (n : W.H a ≠ none) : (W.mt p o g hi).H a = W.H a := upd_ne (fun q => h (List.mem_singleton.mpr q))
theorem d_app [Rp α] {pin : Option V} {te : TE} {u : TS} {xs : List α} {m : R α} {k : List α → Out S J ρ} (i : Nat) (hi : As[i]? = some (.ow pin xs)) (lx : Lx Ls As) (h : Exr c B.W0 X te As m fun x => kFr c.K x) (hk : ∀ ys : List α, Den c X kr Ls Js B u (As.set i (.ow pin ys)) (k ys) Bs) :
    Den c X kr Ls Js B (tSeq (tDrop (tBM c.K "list" rAppend (tVar i) (tCons te tNil))) u) As (m.to fun y => (R.app xs y).to k) Bs := fun D σ W a f => by
  have h' := h σ W a
  obtain ⟨w, fp, hw, rw_, n0, chg⟩ := a.chg (β := List α) (y := xs) hi
  obtain ⟨p, vs, ew, ef, g, hh, al, l⟩ := rw_
  subst ew ef
  refine ⟨_, hw, .inl ⟨rfl, vs, .inl (.inl hh)⟩, ?_⟩
  cases m with
  | no => exact False.elim f
  | ex e => exact h' W (Le.refl _) _ fun cls d W2 e2 z => f cls d σ W2 (lx_at lx (a.mono e2)) z
  | ok y =>
    refine h' W (Le.refl _) _ fun v W2 e r => ?_
    have f' : Fin c X kr Ls Js B Bs D (R.to (if xs.length < sizeLine then R.ok (xs ++ [y]) else R.no) k) := by
      have f2 : Fin c X kr Ls Js B Bs D ((R.app xs y).to k) := f
      unfold R.app at f2
      exact f2
    have g2 : W2.G p = none := e.o p g (by rw [hh]; exact fun z => nomatch z)
    by_cases cz : xs.length < sizeLine
    · rw [if_pos cz] at f'
      refine ⟨p, vs, v, rfl, rfl, e.h _ _ hh, al.1 ▸ cz, ?_⟩
      obtain ⟨w', fp', hw', rw', n0', chg'⟩ := (a.mono e).chg (β := List α) (y := xs ++ [y]) hi
      rw [hw] at hw'
      cases hw'
      obtain ⟨p', vs', ep, ef', g', hh', al', l'⟩ := rw'
      cases ep
      subst ef'
      have a3 := chg' (W2.mt p (.lst (vs ++ [v])) g2) [p] (Inc.refl _) (fun b _ hb _ => hb) (fun b hb n => mut_keep g2 b hb n) ⟨p, _, rfl, rfl, g2, upd_same, (al_mono al e.g).app (Al.one r), by simp; omega⟩ (fun b hb => .inl hb)
      exact hk _ D _ _ a3 f'
    · rw [if_neg cz] at f'
      exact False.elim f'
/-- xs[i] = e -/
@[irreducible] def R.set (xs : List α) (i : Int) (y : α) : R (List α) := match ixN xs.length i with
  | some j => .ok (xs.set j y)
  | none => .no
/-! ### what is walked -/
def Gives (J : It) (G1 : Hp) (xs : List α) (k : α → Kd) : Prop := ∀ (i : Nat) (W : Wd), Inc G1 W.G → (xs.length ≤ i → J.stop i W.H) ∧ ∀ x, xs[i]? = some x → J.go i W.H ∧ ∀ v H', J.yld i W.H v H' → ∃ W', W'.H = H' ∧ Le W W' ∧ (k x).p W v W'
def Ixr (c : Cn) (W0 : Wd) (X : WX) (wi : TI) (As : List Sl) (m : R (List α)) (k : α → Kd) : Prop := ∀ σ W, At c.K W0 As σ W →
  SatR m (fun xs => ∀ W1, Le W W1 → ∀ Q : It → Hp → Prop, (∀ J W2, Le W1 W2 → Gives J W2.G xs k → Q J W2.H) → wi σ W1.H Q) (fun e => ∀ W1, Le W W1 → ∀ Q, (∀ cls d W2, Le W1 W2 → ExAt c.M e cls d W2 → X cls d σ W2.H) → wi σ W1.H Q)
def Tg (c : Cn) (W0 : Wd) (g : TG) (As : List Sl) (k : α → Kd) (Bs : α → List Sl) : Prop := ∀ x σ W A v, At c.K W0 As σ W → (k x).p A v W → ∀ Q : St → Hp → Prop, (∀ σ', At c.K W0 (Bs x) σ' W → Q σ' W.H) → g v σ W.H Q
theorem g_name {W0 : Wd} [Rp α] (i : Nat) : Tg c W0 (gName i) As (fun x : α => kFr c.K x) (fun x => As.set i (.fr x)) := fun x σ W A v a r Q q => q _ (a.setF r)
theorem g_tup2 {W0 : Wd} [Rp α] [Rp β] (i j : Nat) : Tg c W0 (gTup c.K 2 (gCons (gName i) (gCons (gName j) gNil))) As (fun x : α × β => kFr c.K x) (fun x => (As.set i (.fr x.1)).set j (.fr x.2)) := fun x σ W A v a ⟨p, va, vb, ev, hp, r1, r2⟩ Q q =>
  ⟨p, [va, vb], ev, W.sub.sqt hp, rfl, va, [vb], rfl, vb, [], rfl, rfl, q _ ((a.setF r1).setF r2)⟩
theorem drop_cons {l : List α} {i : Nat} {x : α} (h : l[i]? = some x) : l.drop i = x :: l.drop (i + 1) := by
  obtain ⟨hi, e⟩ := List.getElem?_eq_some_iff.mp h
  rw [← e]
  exact List.drop_eq_getElem_cons hi
/-- for -/
theorem d_for {wi : TI} {g : TG} {tb u : TS} {m : R (List α)} {k : α → Kd} {s0 : S} {Ts : S → α → List Sl} {f : S → α → Out S S ρ} {kk : S → Out T J ρ} (lx : Lx Ls As) (hi : Ixr c B.W0 X wi As m k) (w : Wk As (Bs s0)) (hg : ∀ s (W1 : Wd), Tg c W1 g (Bs s) k (Ts s))
    (hb : ∀ s x B', Den c X kr Ls Bs B' tb (Ts s x) (f s x) Bs) (hk : ∀ s, Den c X kr Ls Js B u (Bs s) (kk s) Cs) : Den c X kr Ls Js B (tSeq (tFor wi g tb) u) As (m.to fun xs => (forL xs s0 f).bind kk) Cs := fun D σ W a fn => by
  have h' := hi σ W a
  cases m with
  | no => exact False.elim fn
  | ex e => exact h' W (Le.refl _) _ fun cls d W2 e2 z => fn cls d σ W2 (lx_at lx (a.mono e2)) z
  | ok xs =>
    refine h' W (Le.refl _) _ fun Jt W2 e2 gv => ?_
    have a2 : At c.K B.W0 (Bs s0) σ W2 := (a.mono e2).wk w
    let Wb := B.W0.rb W2 a2.le
    have eb : Le B.W0 Wb := Le.rb0 a2.le
    have fin0 : Fin c X kr Ls Js B Bs { D with nx := u D } (forL xs s0 f) := by
      have fn' : Fin c X kr Ls Js B Cs D ((forL xs s0 f).bind kk) := fn
      revert fn'
      generalize (forL xs s0 f : Out S J ρ) = o
      intro fn'
      cases o with
      | nx s => exact fun σ' W' a' => hk s D σ' W' a' fn'
      | _ => exact fn'
    refine ⟨fun i n σ H => ∃ (Wd' : Wd) (s : S), H = Wd'.H ∧ At c.K Wb (Bs s) σ Wd' ∧ n = xs.length - i ∧ i ≤ xs.length ∧ Fin c X kr Ls Js B Bs { D with nx := u D } (forL (xs.drop i) s f), ⟨xs.length, W2, s0, rfl, a2.rb, by simp, Nat.zero_le _, fin0⟩, ?_⟩
    rintro i n σ H ⟨Wi, s, rfl, ai, rfl, il, fi⟩
    have gi : Inc W2.G Wi.G := ai.le.g
    obtain ⟨g1, g2⟩ := gv i Wi gi
    by_cases ci : i = xs.length
    · refine .inl ⟨g1 (by omega), ?_⟩
      rw [ci, List.drop_length] at fi
      exact fi σ Wi (ai.re eb)
    · have hx : xs[i]? = some (xs[i]'(by omega)) := List.getElem?_eq_getElem (by omega)
      obtain ⟨go, yl⟩ := g2 _ hx
      rw [drop_cons hx] at fi
      refine .inr ⟨go, fun σ' H' => ∃ (Wd' : Wd) (s : S), H' = Wd'.H ∧ At c.K Wb (Bs s) σ' Wd' ∧ Fin c X kr Ls Js B Bs { D with nx := u D } (forL (xs.drop (i + 1)) s f), fun σ' H' ⟨W', s', e1, e2', e3⟩ => ⟨xs.length - (i + 1), by omega, W', s', e1, e2', rfl, by omega, e3⟩, fun v H' hy => ?_⟩
      obtain ⟨W', eh, le', kp⟩ := yl v H' hy
      subst eh
      refine hg s Wb _ σ W' Wi v (ai.mono le') kp _ fun σ2 a2' => ?_
      refine hb s _ (B.re Wb eb) _ σ2 W' a2' ?_
      have fi' : Fin c X kr Ls Js B Bs { D with nx := u D } (match f s (xs[i]'(by omega)) with
        | .nx s' => forL (xs.drop (i + 1)) s' f
        | .ct s' => forL (xs.drop (i + 1)) s' f
        | .bk s' => .nx s'
        | .rt r => .rt r
        | .ex e => .ex e
        | .no => .no) := fi
      revert fi'
      generalize f s (xs[i]'(by omega)) = o
      intro fi'
      cases o with
      | nx s' => exact fun σ3 W3 a3 => ⟨W3, s', rfl, a3, fi'⟩
      | ct s' => exact fun σ3 W3 a3 => ⟨W3, s', rfl, a3, fi'⟩
      | bk s' => exact fun σ3 W3 a3 => fi' σ3 W3 (a3.re eb)
      | rt r => exact fun v W3 l p => fi' v W3 (eb.trans l) p
      | ex e => exact fi'
      | no => exact fi'
end
end Fw

namespace Fw
open PySem L2
/-! ### what is walked -/
section
variable {c : Cn} {W0 : Wd} {X : WX} {As Bs : List Sl} {α β γ δ τ ρ : Type}
theorem i_list [Rp α] {te : TE} {m : R (List α)} (h : Exr c W0 X te As m fun x => kFr c.K x) : Ixr c W0 X (iList c.K te) As m fun x => kFr c.K x := fun σ W a => by
  have h' := h σ W a
  cases m with
  | no => trivial
  | ex e => exact fun W1 e1 Q q => h' W1 e1 _ q
  | ok xs =>
    refine fun W1 e1 Q q => h' W1 e1 _ fun v W2 e2 ⟨p, vs, ev, hp, al, l⟩ => ⟨p, ev, ⟨vs, .inl (.inl (W2.sub _ _ hp))⟩, q _ W2 e2 fun i W g => ?_⟩
    have hs : SqL c.K W.H p vs := .inl (.inl (W.sub _ _ (g _ _ hp)))
    refine ⟨fun hi => ⟨vs, hs, al.1 ▸ hi⟩, fun x hx => ?_⟩
    obtain ⟨u, hu, r⟩ := al.get hx
    refine ⟨⟨vs, u, hs, hu⟩, fun v H' ⟨eh, k⟩ => ⟨W, eh.symm, Le.refl _, ?_⟩⟩
    have := k vs hs
    rw [hu] at this
    cases this
    exact Rp.mono g r
theorem i_tup [Rp α] {te : TE} {m : R (Tup α)} (h : Exr c W0 X te As m fun x => kFr c.K x) : Ixr c W0 X (iTup c.K te) As (m.bind fun x => .ok x.l) fun x => kFr c.K x := fun σ W a => by
  have h' := h σ W a
  cases m with
  | no => trivial
  | ex e => exact fun W1 e1 Q q => h' W1 e1 _ q
  | ok xs =>
    refine fun W1 e1 Q q => h' W1 e1 _ fun v W2 e2 ⟨p, vs, ev, hp, al, l⟩ => ⟨p, ev, ⟨vs, W2.sub.sqt hp⟩, q _ W2 e2 fun i W g => ?_⟩
    have hs : SqT c.K W.H p vs := W.sub.sqt (g.sqt hp)
    refine ⟨fun hi => ⟨vs, hs, al.1 ▸ hi⟩, fun x hx => ?_⟩
    obtain ⟨u, hu, r⟩ := al.get hx
    refine ⟨⟨vs, u, hs, hu⟩, fun v H' ⟨eh, k⟩ => ⟨W, eh.symm, Le.refl _, ?_⟩⟩
    have := k vs hs
    rw [hu] at this
    cases this
    exact Rp.mono g r
/-- range -/
def rng (lo hi : Int) : List Int := (List.range (hi - lo).toNat).map fun i => lo + (i : Nat)
@[irreducible] def R.rng (lo hi : Int) : R (List Int) := if -16777216 ≤ lo ∧ lo ≤ 16777216 ∧ -16777216 ≤ hi ∧ hi ≤ 16777216 then .ok (Fw.rng lo hi) else .no
theorem rng_len (lo hi : Int) : (rng lo hi).length = (hi - lo).toNat := by simp [rng]
theorem rng_get {lo hi : Int} {i : Nat} {x : Int} (h : (rng lo hi)[i]? = some x) : i < (hi - lo).toNat ∧ x = lo + (i : Nat) := by
  unfold rng at h
  rw [List.getElem?_map] at h
  by_cases c : i < (hi - lo).toNat
  · rw [List.getElem?_range c] at h
    exact ⟨c, (Option.some.inj h).symm⟩
  · rw [List.getElem?_eq_none (by simp; omega)] at h
    cases h
theorem gives_rng (lo hi : Int) (G : Hp) : Gives (Itr lo (hi - lo).toNat) G (rng lo hi) fun x => kFr c.K x := fun i W g => by
  refine ⟨fun hi' => by rw [rng_len] at hi'; exact hi', fun x hx => ?_⟩
  obtain ⟨h1, h2⟩ := rng_get hx
  refine ⟨h1, fun v H' ⟨eh, ev⟩ => ⟨W, eh.symm, Le.refl _, ?_⟩⟩
  rw [h2]
  exact ev
theorem i_rng1 {te : TE} {m : R Int} (h : Exr c W0 X te As m fun x => kFr c.K x) : Ixr c W0 X (iRng1 (tCons te tNil)) As (m.bind fun n => R.rng 0 n) fun x => kFr c.K x := fun σ W a => by
  have h' := h σ W a
  cases m with
  | no => trivial
  | ex e => exact fun W1 e1 Q q => h' W1 e1 _ q
  | ok n =>
    show SatR (R.rng 0 n) _ _
    unfold R.rng
    split
    · rename_i z
      refine fun W1 e1 Q q => h' W1 e1 _ fun v W2 e2 r => ⟨n, by rw [show v = .int n from r], by omega, by omega, ?_⟩
      have g := gives_rng (c := c) 0 n W2.G
      rw [Int.sub_zero] at g
      exact q _ W2 e2 g
    · trivial
theorem i_rng2 {te tf : TE} {m n : R Int} (h : Exr c W0 X te As m fun x => kFr c.K x) (h2 : Exr c W0 X tf As n fun x => kFr c.K x) : Ixr c W0 X (iRng2 (tCons te (tCons tf tNil))) As (m.bind fun a => n.bind fun b => R.rng a b) fun x => kFr c.K x := fun σ W a => by
  have h' := h σ W a
  have h2' := h2 σ W a
  cases m with
  | no => trivial
  | ex e => exact fun W1 e1 Q q => h' W1 e1 _ q
  | ok lo =>
    cases n with
    | no => trivial
    | ex e => exact fun W1 e1 Q q => h' W1 e1 _ fun v W2 e2 r => h2' W2 (e1.trans e2) _ fun cls d W3 e3 z => q cls d W3 (e2.trans e3) z
    | ok hi =>
      show SatR (R.rng lo hi) _ _
      unfold R.rng
      split
      · rename_i z
        refine fun W1 e1 Q q => h' W1 e1 _ fun v W2 e2 r => h2' W2 (e1.trans e2) _ fun u W3 e3 r2 => ⟨lo, hi, by rw [show v = .int lo from r, show u = .int hi from r2], by omega, q _ W3 (e2.trans e3) (gives_rng (c := c) lo hi W3.G)⟩
      · trivial
/-- enumerate of a list -/
def enum (xs : List α) : List (Int × α) := (List.range xs.length).zipWith (fun i x => ((i : Nat), x)) xs
theorem enum_len (xs : List α) : (enum xs).length = xs.length := by simp [enum]
theorem enum_get {xs : List α} {i : Nat} {x : Int × α} (h : (enum xs)[i]? = some x) : x.1 = (i : Nat) ∧ xs[i]? = some x.2 := by
  unfold enum at h
  rw [List.getElem?_zipWith] at h
  by_cases q : i < xs.length
  · rw [List.getElem?_range q, List.getElem?_eq_getElem q] at h
    cases h
    exact ⟨rfl, List.getElem?_eq_getElem q⟩
  · rw [List.getElem?_eq_none (l := List.range xs.length) (by simp; omega)] at h
    cases h
theorem i_enum [Rp α] {te : TE} {m : R (List α)} (h : Exr c W0 X te As m fun x => kFr c.K x) : Ixr c W0 X (iEnum c.K (tCons te tNil)) As (m.bind fun xs => .ok (enum xs)) fun x => kFr c.K x := fun σ W a => by
  have h' := h σ W a
  cases m with
  | no => trivial
  | ex e => exact fun W1 e1 Q q => h' W1 e1 _ q
  | ok xs =>
    refine fun W1 e1 Q q => h' W1 e1 _ fun v W2 e2 ⟨p, vs, ev, hp, al, l⟩ => ⟨p, vs, by rw [ev], .inl (.inl (W2.sub _ _ hp)), q _ W2 e2 fun i W g => ?_⟩
    have hs : SqL c.K W.H p vs := .inl (.inl (W.sub _ _ (g _ _ hp)))
    refine ⟨fun hi => ⟨vs, hs, by rw [enum_len] at hi; exact al.1 ▸ hi⟩, fun x hx => ?_⟩
    obtain ⟨x1, x2⟩ := enum_get hx
    obtain ⟨u, hu, r⟩ := al.get x2
    refine ⟨⟨vs, u, hs, hu⟩, fun v H' ⟨T, y, ev, nT, eh, k⟩ => ⟨W.nf T _, eh.symm, Le.nf nT, ?_⟩⟩
    have := k vs hs
    rw [hu] at this
    cases this
    exact ⟨T, _, _, ev, .inl (.inl upd_same), by rw [x1]; rfl, Rp.mono (Le.nf nT).g (Rp.mono g r)⟩
/-! ### comprehensions -/
def lcGo : List α → (α → R Bool) → (α → R β) → R (List β)
  | [], _, _ => .ok []
  | x :: xs, p, f => match p x with
    | .ok true => match f x with
      | .ok y => match lcGo xs p f with
        | .ok ys => .ok (y :: ys)
        | _ => .no
      | _ => .no
    | .ok false => lcGo xs p f
    | _ => .no
@[irreducible] def R.lc (xs : List α) (p : α → R Bool) (f : α → R β) : R (List β) := if xs.length ≤ sizeLine then lcGo xs p f else .no
theorem lcGo_ok (p : α → Bool) (f : α → β) : ∀ xs : List α, lcGo xs (fun x => .ok (p x)) (fun x => .ok (f x)) = .ok ((xs.filter p).map f)
  | [] => rfl
  | x :: xs => by
    unfold lcGo
    rw [lcGo_ok p f xs]
    cases h : p x with
    | true => simp [List.filter_cons, h]
    | false => simp [List.filter_cons, h]
def wipeS (As : List Sl) : List Nat → List Sl
  | [] => As
  | v :: vs => (wipeS As vs).set v .un
theorem At.wipe {K : Frag} {W : Wd} {σ : St} (h : At K W0 As σ W) : ∀ vs, At K W0 (wipeS As vs) (wipe σ vs) W
  | [] => h
  | v :: vs => (At.wipe h vs).set trivial
/-- what stands outside some slots is as it was -/
def Same (is : List Nat) (σ σ' : St) : Prop := σ'.length = σ.length ∧ ∀ j, j ∉ is → σ'[j]? = σ[j]?
theorem wipe_get {σ : St} {j : Nat} : ∀ {vs : List Nat}, (L2.wipe σ vs)[j]? = if j ∈ vs then (if j < σ.length then some none else none) else σ[j]?
  | [] => by simp [L2.wipe]
  | v :: vs => by
    show ((L2.wipe σ vs).set v none)[j]? = _
    rw [List.getElem?_set]
    by_cases q : v = j
    · subst q
      simp [wipe_length]
    · rw [if_neg q, wipe_get (vs := vs)]
      by_cases z : j ∈ vs
      · rw [if_pos z, if_pos (List.mem_cons_of_mem _ z)]
      · rw [if_neg z, if_neg (fun m => (List.mem_cons.mp m).elim (fun w => q w.symm) z)]
theorem wipe_same {σ σ2 : St} {vs : List Nat} (h : Same vs (L2.wipe σ vs) σ2) : L2.wipe σ2 vs = L2.wipe σ vs := by
  apply List.ext_getElem?
  intro j
  rw [wipe_get]
  by_cases z : j ∈ vs
  · rw [if_pos z, wipe_get, if_pos z, h.1, wipe_length]
  · rw [if_neg z]
    exact h.2 j z
/-- a target that touches some slots alone -/
def TgS (c : Cn) (g : TG) (is : List Nat) (As : List Sl) (k : α → Kd) (Bs : α → List Sl) : Prop := ∀ W0 x σ W A v, At c.K W0 As σ W → (k x).p A v W → ∀ Q : St → Hp → Prop, (∀ σ', Same is σ σ' → At c.K W0 (Bs x) σ' W → Q σ' W.H) → g v σ W.H Q
theorem same_set {σ : St} {i : Nat} {o : Option V} {is : List Nat} (h : i ∈ is) : Same is σ (σ.set i o) := ⟨by simp, fun j hj => by
  rw [List.getElem?_set, if_neg]
  intro q
  subst q
  exact hj h⟩
theorem Same.trans {is : List Nat} {a b d : St} (h : Same is a b) (k : Same is b d) : Same is a d := ⟨k.1.trans h.1, fun j hj => (k.2 j hj).trans (h.2 j hj)⟩
theorem gs_name [Rp α] (i : Nat) : TgS c (gName i) [i] As (fun x : α => kFr c.K x) (fun x => As.set i (.fr x)) := fun W0 x σ W A v a r Q q => q _ (same_set (by simp)) (a.setF r)
def xF : WX := fun _ _ _ _ => False
theorem t_yes : Txp c W0 tYes As true := fun σ W a W1 e Q q => q W1 (Le.refl _)
/-- what a comprehension walks: owned things too stay as they are meanwhile -/
def GivesH (J : It) (W1 : Wd) (xs : List α) (k : α → Kd) : Prop := ∀ (i : Nat) (W : Wd), Le W1 W → (xs.length ≤ i → J.stop i W.H) ∧ ∀ x, xs[i]? = some x → J.go i W.H ∧ ∀ v H', J.yld i W.H v H' → ∃ W', W'.H = H' ∧ Le W W' ∧ (k x).p W v W'
def IxH (c : Cn) (W0 : Wd) (X : WX) (wi : TI) (As : List Sl) (m : R (List α)) (k : α → Kd) : Prop := ∀ σ W, At c.K W0 As σ W →
  SatR m (fun xs => ∀ W1, Le W W1 → ∀ Q : It → Hp → Prop, (∀ J W2, Le W1 W2 → GivesH J W2 xs k → Q J W2.H) → wi σ W1.H Q) (fun e => ∀ W1, Le W W1 → ∀ Q, (∀ cls d W2, Le W1 W2 → ExAt c.M e cls d W2 → X cls d σ W2.H) → wi σ W1.H Q)
theorem ixh {wi : TI} {m : R (List α)} {k : α → Kd} (h : Ixr c W0 X wi As m k) : IxH c W0 X wi As m k := fun σ W a => by
  have h' := h σ W a
  cases m with
  | no => trivial
  | ex e => exact h'
  | ok xs => exact fun W1 e1 Q q => h' W1 e1 Q fun J W2 e2 g => q J W2 e2 fun i W e => g i W e.g
/-- [e for x in xs if t] -/
theorem r_lcG [Rp β] {wi : TI} {g : TG} {tt : TT} {te : TE} {vs : List Nat} {m : R (List α)} {k : α → Kd} {Ts : α → List Sl} {p : α → R Bool} {f : α → R β} (hi : IxH c W0 X wi As m k) (hg : TgS c g vs (wipeS As vs) k Ts)
    (ht : ∀ x, Txr c W0 xF tt (Ts x) (p x)) (he : ∀ x, Exr c W0 xF te (Ts x) (f x) fun y => kFr c.K y) : Exr c W0 X (tLc wi g tt te vs) As (m.bind fun xs => R.lc xs p f) fun ys => kNw c.K ys := fun σ W a => by
  have h' := hi σ W a
  cases m with
  | no => trivial
  | ex e => exact fun W1 e1 Q q => h' W1 e1 _ q
  | ok xs =>
    show SatR (R.lc xs p f) _ _
    unfold R.lc
    by_cases hl : xs.length ≤ sizeLine
    · rw [if_pos hl]
      cases hz : lcGo xs p f with
      | no => trivial
      | ex e =>
        exfalso
        revert hz
        clear hi h' ht he hl a
        induction xs with
        | nil => intro z; cases z
        | cons x xs ih =>
          unfold lcGo
          intro z
          split at z
          · split at z
            · split at z <;> cases z
            · cases z
          · exact ih z
          · cases z
      | ok zs =>
        refine fun W1 e1 Q q => h' W1 e1 _ fun Jt W2 e2 gv Dl hD => ?_
        refine ⟨fun i n H => ∃ (Wd' : Wd) (ys ws : List _) (ls : List V), H = Wd'.H ∧ Le W2 Wd' ∧ Wd'.G Dl = none ∧ Wd'.H Dl = some (.lst ls) ∧ Al (fun x v => Rp.rep c.K x v Wd'.G) ys ls ∧ ys.length ≤ i ∧ lcGo (xs.drop i) p f = .ok ws ∧ zs = ys ++ ws ∧ n = xs.length - i ∧ i ≤ xs.length,
          ⟨xs.length, W2.no Dl _ hD, [], zs, [], rfl, Le.no hD, W2.sub.nope hD, upd_same, Al.nil, Nat.zero_le _, hz, rfl, rfl, Nat.zero_le _⟩, ?_⟩
        rintro i n H ⟨Wi, ys, ws, ls, rfl, ei, gD, hDl, al, yl, hw, ez, rfl, il⟩
        obtain ⟨g1, g2⟩ := gv i Wi ei
        by_cases ci : i = xs.length
        · refine .inl ⟨g1 (by omega), ?_⟩
          rw [ci, List.drop_length] at hw
          cases hw
          rw [List.append_nil] at ez
          subst ez
          exact q _ Wi (e2.trans ei) ⟨[Dl], ⟨Dl, ls, rfl, rfl, gD, hDl, al, by omega⟩, fun b hb => by rw [List.mem_singleton.mp hb]; exact e2.fr hD⟩
        · have hx : xs[i]? = some (xs[i]'(by omega)) := List.getElem?_eq_getElem (by omega)
          obtain ⟨go, yld⟩ := g2 _ hx
          rw [drop_cons hx] at hw
          refine .inr ⟨go, fun H' => ∃ (Wd' : Wd) (ys ws : List _) (ls : List V), H' = Wd'.H ∧ Le W2 Wd' ∧ Wd'.G Dl = none ∧ Wd'.H Dl = some (.lst ls) ∧ Al (fun x v => Rp.rep c.K x v Wd'.G) ys ls ∧ ys.length ≤ i + 1 ∧ lcGo (xs.drop (i + 1)) p f = .ok ws ∧ zs = ys ++ ws,
            fun H' ⟨W', ys', ws', ls', a1, a2, a3, a4, a5, a6, a7, a8⟩ => ⟨xs.length - (i + 1), by omega, W', ys', ws', ls', a1, a2, a3, a4, a5, a6, a7, a8, rfl, by omega⟩, fun v H' hy => ?_⟩
          obtain ⟨W', eh, le', kp⟩ := yld v H' hy
          subst eh
          have aW : At c.K W0 As σ W' := a.mono ((e1.trans e2).trans (ei.trans le'))
          refine hg W0 _ _ W' Wi v (aW.wipe vs) kp _ fun σ2 sm a2 => ⟨wipe_same sm, ?_⟩
          have d3 : W'.H Dl = some (.lst ls) := le'.h _ _ hDl
          have ht' := ht (xs[i]'(by omega)) σ2 W' a2
          have he' := he (xs[i]'(by omega)) σ2
          unfold lcGo at hw
          revert hw ht' he'
          generalize p (xs[i]'(by omega)) = pb
          generalize f (xs[i]'(by omega)) = fb
          intro ht' he' hw
          cases pb with
          | no => cases hw
          | ex e => cases hw
          | ok b =>
            refine ht' W' (Le.refl _) _ fun W3 e3 => ?_
            cases b with
            | false =>
              rw [if_neg (by decide)]
              exact ⟨W3, ys, ws, ls, rfl, (ei.trans le').trans e3, e3.o _ (le'.o _ gD (by rw [hDl]; exact fun z => nomatch z)) (by rw [d3]; exact fun z => nomatch z), e3.h _ _ d3, al_mono al (le'.g.trans e3.g), by omega, hw, ez⟩
            | true =>
              rw [if_pos rfl]
              cases fb with
              | no => cases hw
              | ex e => cases hw
              | ok y =>
                refine he' W3 (a2.mono e3) W3 (Le.refl _) _ fun u W4 e4 r => ?_
                have gD4 : W4.G Dl = none := (le'.trans (e3.trans e4)).o _ gD (by rw [hDl]; exact fun z => nomatch z)
                have d4 : W4.H Dl = some (.lst ls) := e4.h _ _ (e3.h _ _ d3)
                dsimp only at hw
                cases hr : lcGo (xs.drop (i + 1)) p f with
                | no => rw [hr] at hw; cases hw
                | ex e => rw [hr] at hw; cases hw
                | ok ws' =>
                  rw [hr] at hw
                  cases hw
                  refine ⟨ls, d4, by have := al.1; omega, W4.mt Dl _ gD4, ys ++ [y], ws', ls ++ [u], rfl, (ei.trans (le'.trans (e3.trans e4))).mt gD4 hD, gD4, upd_same, (al_mono al (le'.trans (e3.trans e4)).g).app (Al.one r), by simp; omega, rfl, by rw [ez]; simp⟩
    · rw [if_neg hl]
      trivial
@[irreducible] def R.lcT (xs : List α) (p : α → Bool) (f : α → β) : R (List β) := if xs.length ≤ sizeLine then .ok ((xs.filter p).map f) else .no
@[irreducible] def R.lcM (xs : List α) (f : α → β) : R (List β) := if xs.length ≤ sizeLine then .ok (xs.map f) else .no
theorem lcT_eq (xs : List α) (p : α → Bool) (f : α → β) : R.lc xs (fun x => .ok (p x)) (fun x => .ok (f x)) = R.lcT xs p f := by
  unfold R.lc R.lcT
  rw [lcGo_ok]
theorem lcM_eq (xs : List α) (f : α → β) : R.lc xs (fun _ => .ok true) (fun x => .ok (f x)) = R.lcM xs f := by
  have h := lcT_eq xs (fun _ => true) f
  rw [h]
  unfold R.lcT R.lcM
  rw [List.filter_eq_self.mpr (by simp)]
theorem r_lcM [Rp β] {wi : TI} {g : TG} {te : TE} {vs : List Nat} {m : R (List α)} {k : α → Kd} {Ts : α → List Sl} {f : α → β} (hi : IxH c W0 X wi As m k) (hg : TgS c g vs (wipeS As vs) k Ts)
    (he : ∀ x, Exp c W0 te (Ts x) (kFr c.K (f x))) : Exr c W0 X (tLc wi g tYes te vs) As (m.bind fun xs => R.lcM xs f) fun ys => kNw c.K ys := by
  have h := r_lcG hi hg (fun x => txr_p t_yes) (fun x => exr_p (k := fun y => kFr c.K y) (he x))
  rw [show (fun xs => R.lc xs (fun x => R.ok true) fun x => R.ok (f x)) = fun xs => R.lcM xs f from funext fun xs => lcM_eq xs f] at h
  exact h
/-! ### defs -/
def noOw : List Sl → Prop
  | [] => True
  | .un :: r => noOw r
  | @Sl.fr _ _ _ :: r => noOw r
  | @Sl.ow _ _ _ _ :: _ => False
class Args (τ : Type) where
  reps : Frag → τ → List V → Hp → Prop
  mono : ∀ {K : Frag} {x : τ} {vs : List V} {G H : Hp}, Inc G H → reps K x vs G → reps K x vs H
  sl : τ → List Sl
  num : Nat
  len : ∀ {K : Frag} {x : τ} {vs : List V} {G : Hp}, reps K x vs G → vs.length = num
  no : ∀ (x : τ) (r : List Sl), noOw r → noOw (sl x ++ r)
  at_ : ∀ {K : Frag} {W0 W : Wd} {x : τ} {vs : List V} {rest : List Sl} {σ : St}, reps K x vs W.G → At K W0 rest σ W → At K W0 (sl x ++ rest) (vs.map some ++ σ) W
instance : Args Unit := ⟨fun _ _ vs _ => vs = [], fun _ h => h, fun _ => [], 0, fun h => by rw [h]; rfl, fun _ _ h => h, fun h a => by rw [h]; exact a⟩
theorem At.cons {K : Frag} {W0 W : Wd} {A : Sl} {o : Option V} {σ : St} (h : At K W0 As σ W) (hA : Hd K A o W []) : At K W0 (A :: As) (o :: σ) W := by
  obtain ⟨l, le, F, h1, h2, h3⟩ := h
  refine ⟨by simp [l], le, fun j => match j with | 0 => [] | j + 1 => F j, fun j B p a b => ?_, fun j k a n ha hb => ?_, fun j a ha => ?_⟩
  · cases j with
    | zero => cases a; cases b; exact hA
    | succ j => exact h1 j B p a b
  · cases j with
    | zero => cases ha
    | succ j =>
      cases k with
      | zero => cases hb
      | succ k => exact h2 j k a (fun q => n (congrArg _ q)) ha hb
  · cases j with
    | zero => cases ha
    | succ j => exact h3 j a ha
instance [Rp α] [Args τ] : Args (α × τ) where
  reps K x vs G := ∃ v r, vs = v :: r ∧ Rp.rep K x.1 v G ∧ Args.reps K x.2 r G
  mono s := fun ⟨v, r, e, a, b⟩ => ⟨v, r, e, Rp.mono s a, Args.mono s b⟩
  sl x := .fr x.1 :: Args.sl x.2
  num := Args.num τ + 1
  len := fun ⟨v, r, e, a, b⟩ => by rw [e, List.length_cons, Args.len b]
  no x r h := Args.no x.2 r h
  at_ := fun ⟨v, r, e, a, b⟩ h => by
    subst e
    exact (Args.at_ b h).cons ⟨v, rfl, a⟩
/-- the promise of a def: it hands back, or raises, what the mirror says -/
def spF (c : Cn) [Args τ] (f : τ → R ρ) (kr : ρ → Kd) : Sp := fun vs H Q E => ∃ (W : Wd) (x : τ), W.H = H ∧ Args.reps c.K x vs W.G ∧ match f x with
  | .ok r => ∀ v W', Le W W' → (kr r).p W v W' → Q v W'.H
  | .ex e => ∀ cls d W', Le W W' → ExAt c.M e cls d W' → E cls d W'.H
  | .no => False
theorem spF_len [Args τ] {f : τ → R ρ} {kr : ρ → Kd} (vs : List V) (H : Hp) (Q : VK) (E : XK) (h : spF c f kr vs H Q E) : vs.length = Args.num τ := by
  obtain ⟨W, x, _, r, _⟩ := h
  exact Args.len r
def uns (n : Nat) : List Sl := List.replicate n .un
theorem at_uns {K : Frag} {W : Wd} : ∀ n, At K W (uns n) (List.replicate n none) W
  | 0 => ⟨rfl, Le.refl _, fun _ => [], fun i A o a => by simp [uns] at a, fun i j a _ h => (List.not_mem_nil h).elim, fun i a h => (List.not_mem_nil h).elim⟩
  | n + 1 => (at_uns n).cons (A := .un) (o := none) trivial
theorem wk_uns : ∀ {As : List Sl} {n : Nat}, As.length = n → Wk As (uns n)
  | [], _, h => by subst h; exact Wk.nil
  | A :: As, _, h => by subst h; exact Wk.drop (wk_uns rfl)
/-- a def's ground at its start -/
def bd0 (W : Wd) : Bd := ⟨W, W, W, Le.refl _, Le.refl _⟩
abbrev x0 (E : XK) : WX := fun cls d _ H => E cls d H
/-- a body whose ways all return keeps the promise -/
theorem fn_run [Args τ] {f : τ → R ρ} {m : τ → Out Unit Unit ρ} {kr : ρ → Kd} {N : List Str} {n : Nat} {t : TS} {vs : List V} {H : Hp} {Q : VK} {E : XK} {Bs : Unit → List Sl} (h : spF c f kr vs H Q E) (hN : N.length = Args.num τ + n) (hm : ∀ x, f x = (m x).run)
    (hd : ∀ (W : Wd) x, Den c (x0 E) kr (uns N.length) (fun _ : Unit => []) (bd0 W) t (Args.sl x ++ uns n) (m x) Bs) : t { nx := fun _ H' => Q .non H', rt := Q } (start N vs) H := by
  obtain ⟨W, x, eh, r, k⟩ := h
  subst eh
  have hl := Args.len r
  have a0 : At c.K W (Args.sl x ++ uns n) (start N vs) W := by
    unfold L2.start
    rw [hl, hN, Nat.add_sub_cancel_left]
    exact Args.at_ r (at_uns n)
  refine hd W x _ _ W a0 ?_
  rw [hm x] at k
  revert k
  generalize m x = o
  intro k
  cases o with
  | nx s => exact k.elim
  | rt r => exact fun v W' l p => k v W' l p
  | bk j => exact k.elim
  | ct j => exact k.elim
  | ex e => exact k.elim
  | no => exact k.elim
/-- arguments of a def, all frozen -/
def kAs (K : Frag) [Args τ] (x : τ) : KdA := ⟨fun _ vs W => Args.reps K x vs W.G, fun h e => Args.mono e.g h, fun _ h => h⟩
theorem aa_nil : Axp c W0 tNil As (kAs c.K ()) := fun σ W a W1 e Q q => q [] W1 (Le.refl _) rfl
theorem aa_cons [Rp α] [Args τ] {te : TE} {ta : TA} {x : α} {y : τ} (h : Exp c W0 te As (kFr c.K x)) (hr : Axp c W0 ta As (kAs c.K y)) : Axp c W0 (tCons te ta) As (kAs c.K (x, y)) := fun σ W a W1 e Q q =>
  h σ W a W1 e _ fun v W2 e2 p => hr σ W a W2 (e.trans e2) _ fun vs W3 e3 ps => q _ W3 (e2.trans e3) ⟨v, vs, rfl, Rp.mono e3.g p, ps⟩
theorem aar_nil : Axr c W0 X tNil As (.ok ()) (fun x => kAs c.K x) := axr_p (k := fun x => kAs c.K x) aa_nil
theorem aar_cons [Rp α] [Args τ] {te : TE} {ta : TA} {m : R α} {n : R τ} (h : Exr c W0 X te As m fun x => kFr c.K x) (hr : Axr c W0 X ta As n fun x => kAs c.K x) :
    Axr c W0 X (tCons te ta) As (m.bind fun x => n.bind fun y => .ok (x, y)) (fun z => kAs c.K z) := fun σ W a => by
  have h' := h σ W a
  have hr' := hr σ W a
  cases m with
  | no => trivial
  | ex e => exact fun W1 e1 Q q => h' W1 e1 _ q
  | ok x =>
    cases n with
    | no => trivial
    | ex e => exact fun W1 e1 Q q => h' W1 e1 _ fun v W2 e2 p => hr' W2 (e1.trans e2) _ fun cls d W3 e3 z => q cls d W3 (e2.trans e3) z
    | ok y => exact fun W1 e Q q => h' W1 e _ fun v W2 e2 p => hr' W2 (e.trans e2) _ fun vs W3 e3 ps => q _ W3 (e2.trans e3) ⟨v, vs, rfl, Rp.mono e3.g p, ps⟩
/-- a call of a def -/
theorem r_call [Args τ] {f : τ → R ρ} {kr : ρ → Kd} {ta : TA} {m : R τ} (h : Axr c W0 X ta As m fun x => kAs c.K x) : Exr c W0 X (tCallS (spF c f kr) (WE X) ta) As (m.bind f) kr := fun σ W a => by
  have h' := h σ W a
  cases m with
  | no => trivial
  | ex e => exact fun W1 e1 Q q => h' W1 e1 _ q
  | ok x =>
    show SatR (f x) _ _
    cases hf : f x with
    | no => trivial
    | ex e => exact fun W1 e1 Q q => h' W1 e1 _ fun vs W2 e2 r => ⟨W2, x, rfl, r, by rw [hf]; exact fun cls d W3 e3 z => q cls d W3 (e2.trans e3) z⟩
    | ok y => exact fun W1 e1 Q q => h' W1 e1 _ fun vs W2 e2 r => ⟨W2, x, rfl, r, by rw [hf]; exact fun v W3 e3 p => q v W3 (e2.trans e3) ((kr y).dn e2 p)⟩
theorem r_call1 [Args τ] {f : τ → R ρ} {kr : ρ → Kd} {ta : TA} {x : τ} (h : Axp c W0 ta As (kAs c.K x)) {m : R ρ} (hk : f x = m) : Exr c W0 X (tCallS (spF c f kr) (WE X) ta) As m kr := hk ▸ r_call (m := .ok x) h
end
end Fw

namespace Fw
open PySem L2
section
variable {c : Cn} {W0 : Wd} {X : WX} {As Bs : List Sl} {α β γ δ τ ρ : Type} {K : Frag}
/-! ### ints -/
theorem o_int (g : Int → Int → Int) : Op2 (rI0 fun i j => .int (g i j)) (fun x : Int => kFr K x) (fun x : Int => kFr K x) (fun x y => .ok (g x y)) (fun z : Int => kFr K z) := fun x y W0 W v w hv hw Q q => ⟨x, y, hv, hw, q _ W (Le.refl _) rfl⟩
theorem o_cmp (g : Int → Int → Bool) : Op2 (rI0 fun i j => .bl (g i j)) (fun x : Int => kFr K x) (fun x : Int => kFr K x) (fun x y => .ok (g x y)) (fun z : Bool => kFr K z) := fun x y W0 W v w hv hw Q q => ⟨x, y, hv, hw, q _ W (Le.refl _) rfl⟩
def R.cI (C : Int → Int → Prop) [DecidableRel C] (g : Int → Int → Int) (x y : Int) : R Int := if C x y then .ok (g x y) else .no
theorem o_chk {C : Int → Int → Prop} [DecidableRel C] (g : Int → Int → Int) : Op2 (rI C fun i j => .int (g i j)) (fun x : Int => kFr K x) (fun x : Int => kFr K x) (R.cI C g) (fun z : Int => kFr K z) := fun x y => by
  unfold R.cI
  split
  · rename_i z e
    by_cases h : C x y
    · rw [if_pos h] at e
      cases e
      exact fun W0 W v w hv hw Q q => ⟨x, y, hv, hw, h, q _ W (Le.refl _) rfl⟩
    · rw [if_neg h] at e; cases e
  · rename_i e z
    split at z <;> cases z
  · trivial
@[irreducible] def R.mod (x y : Int) : R Int := if 0 < y then .ok (x % y) else .no
@[irreducible] def R.fdiv (x y : Int) : R Int := if 0 < y ∧ y < 1073741824 then .ok (x / y) else .no
@[irreducible] def R.mul (x y : Int) : R Int := if (-(2 ^ 64) < x ∧ x < 2 ^ 64) ∨ (-(2 ^ 64) < y ∧ y < 2 ^ 64) then .ok (x * y) else .no
@[irreducible] def R.shl (x y : Int) : R Int := if 0 ≤ y ∧ y ≤ 1000000 ∧ x.natAbs < 2 ^ 64 then .ok (x * 2 ^ y.toNat) else .no
@[irreducible] def R.shr (x y : Int) : R Int := if 0 ≤ y then .ok (x / 2 ^ y.toNat) else .no
theorem o_of {C : Int → Int → Prop} [DecidableRel C] {g : Int → Int → Int} {f : Int → Int → R Int} (h : ∀ x y, f x y = if C x y then .ok (g x y) else .no) : Op2 (rI C fun i j => .int (g i j)) (fun x : Int => kFr K x) (fun x : Int => kFr K x) f (fun z : Int => kFr K z) := by
  have e : f = R.cI C g := funext fun x => funext fun y => h x y
  rw [e]
  exact o_chk g
instance : DecidableRel CDiv := fun i j => inferInstanceAs (Decidable (_ ∧ _))
instance : DecidableRel CPow := fun i j => inferInstanceAs (Decidable (_ ∧ _ ∧ _))
instance : DecidableRel CMul := fun i j => inferInstanceAs (Decidable (_ ∨ _))
theorem o_mod : Op2 (rI (fun _ j => 0 < j) fun i j => .int (i % j)) (fun x : Int => kFr K x) (fun x : Int => kFr K x) R.mod (fun z : Int => kFr K z) := o_of fun x y => by unfold R.mod; rfl
theorem o_fdiv : Op2 (rI CDiv fun i j => .int (i / j)) (fun x : Int => kFr K x) (fun x : Int => kFr K x) R.fdiv (fun z : Int => kFr K z) := o_of fun x y => by unfold R.fdiv; rfl
theorem o_mul : Op2 (rI CMul fun i j => .int (i * j)) (fun x : Int => kFr K x) (fun x : Int => kFr K x) R.mul (fun z : Int => kFr K z) := o_of fun x y => by unfold R.mul; rfl
theorem o_shl : Op2 (rI CPow fun i j => .int (i * 2 ^ j.toNat)) (fun x : Int => kFr K x) (fun x : Int => kFr K x) R.shl (fun z : Int => kFr K z) := o_of fun x y => by unfold R.shl; rfl
theorem o_shr : Op2 (rI (fun _ j => 0 ≤ j) fun i j => .int (i / 2 ^ j.toNat)) (fun x : Int => kFr K x) (fun x : Int => kFr K x) R.shr (fun z : Int => kFr K z) := o_of fun x y => by unfold R.shr; rfl
/-- the right one, or the left one, is written: nothing is left to be asked -/
theorem e_cr {C : Int → Int → Prop} {g : Int → Int → Int} {ta tb : TE} {x y : Int} (h : ∀ x, C x y) (ha : Exp c W0 ta As (kFr c.K x)) (hb : Exp c W0 tb As (kFr c.K y)) {k : Kd} (hk : kFr c.K (g x y) = k) : Exp c W0 (tOp (rI C fun i j => .int (g i j)) ta tb) As k := hk ▸ fun σ W a W1 e Q q =>
  ha σ W a W1 e _ fun v W2 e2 p => hb σ W a W2 (e.trans e2) _ fun w W3 e3 p3 => ⟨x, y, p, p3, h x, q _ W3 (e2.trans e3) rfl⟩
theorem r_cr {C : Int → Int → Prop} {g : Int → Int → Int} {ta tb : TE} {m : R Int} {y : Int} (h : ∀ x, C x y) (ha : Exr c W0 X ta As m fun x => kFr c.K x) (hb : Exp c W0 tb As (kFr c.K y)) : Exr c W0 X (tOp (rI C fun i j => .int (g i j)) ta tb) As (m.bind fun x => .ok (g x y)) fun z => kFr c.K z := fun σ W a => by
  have ha' := ha σ W a
  cases m with
  | no => trivial
  | ex e => exact fun W1 e1 Q q => ha' W1 e1 _ q
  | ok x => exact fun W1 e Q q => ha' W1 e _ fun v W2 e2 p => hb σ W a W2 (e.trans e2) _ fun w W3 e3 p3 => ⟨x, y, p, p3, h x, q _ W3 (e2.trans e3) rfl⟩
theorem e_cl {C : Int → Int → Prop} {g : Int → Int → Int} {ta tb : TE} {x y : Int} (h : ∀ y, C x y) (ha : Exp c W0 ta As (kFr c.K x)) (hb : Exp c W0 tb As (kFr c.K y)) {k : Kd} (hk : kFr c.K (g x y) = k) : Exp c W0 (tOp (rI C fun i j => .int (g i j)) ta tb) As k := hk ▸ fun σ W a W1 e Q q =>
  ha σ W a W1 e _ fun v W2 e2 p => hb σ W a W2 (e.trans e2) _ fun w W3 e3 p3 => ⟨x, y, p, p3, h y, q _ W3 (e2.trans e3) rfl⟩
theorem o_neg : Op1 (rU fun i => .int (-i)) (fun x : Int => kFr K x) (fun x => .ok (-x)) (fun z : Int => kFr K z) := fun x W0 W v hv Q q => ⟨x, hv, q _ W (Le.refl _) rfl⟩
/-! ### == of things without a heap -/
class Eqs (α : Type) [Rp α] where
  v : α → V
  rv : ∀ {K : Frag} {x : α} {u : V} {G : Hp}, Rp.rep K x u G → u = v x
  inj : ∀ {x y : α}, v x = v y → x = y
  sc : ∀ x y : α, scal (v x) (v y) = true
instance : Eqs Int := ⟨.int, fun h => h, fun h => by cases h; rfl, fun _ _ => rfl⟩
instance : Eqs Bool := ⟨.bl, fun h => h, fun h => by cases h; rfl, fun _ _ => rfl⟩
instance : Eqs Str := ⟨.str, fun h => h.1, fun h => by cases h; rfl, fun _ _ => rfl⟩
theorem eqs_dec [Rp α] [DecidableEq α] [Eqs α] (x y : α) : decide (Eqs.v x = Eqs.v y) = decide (x = y) := by
  by_cases h : x = y
  · subst h; simp
  · rw [decide_eq_false h, decide_eq_false (fun q => h (Eqs.inj q))]
theorem o_eq [Rp α] [DecidableEq α] [Eqs α] : Op2 rEq (fun x : α => kFr K x) (fun x : α => kFr K x) (fun x y => .ok (decide (x = y))) (fun z : Bool => kFr K z) := fun x y W0 W v w hv hw Q q => by
  have h1 : v = Eqs.v x := Eqs.rv hv
  have h2 : w = Eqs.v y := Eqs.rv hw
  subst h1 h2
  exact ⟨Eqs.sc x y, q _ W (Le.refl _) (by rw [eqs_dec]; rfl)⟩
theorem o_ne [Rp α] [DecidableEq α] [Eqs α] : Op2 rNe (fun x : α => kFr K x) (fun x : α => kFr K x) (fun x y => .ok (!decide (x = y))) (fun z : Bool => kFr K z) := fun x y W0 W v w hv hw Q q => by
  have h1 : v = Eqs.v x := Eqs.rv hv
  have h2 : w = Eqs.v y := Eqs.rv hw
  subst h1 h2
  exact ⟨Eqs.sc x y, q _ W (Le.refl _) (by rw [eqs_dec]; rfl)⟩
/-! ### the places of lists, tuples, texts -/
theorem ixN_at {xs : List α} {i : Int} : atI xs i = (ixN xs.length i).bind fun j => xs[j]? := rfl
theorem al_at [Rp α] {G : Hp} {xs : List α} {vs : List V} {i : Int} {x : α} (h : Al (fun x v => Rp.rep K x v G) xs vs) (hx : atI xs i = some x) : ∃ v, atI vs i = some v ∧ Rp.rep K x v G := by
  rw [ixN_at] at hx
  cases q : ixN xs.length i with
  | none => rw [q] at hx; cases hx
  | some j =>
    rw [q] at hx
    obtain ⟨v, hv, r⟩ := h.get hx
    exact ⟨v, by rw [ixN_at, ← h.1, q]; exact hv, r⟩
@[irreducible] def R.ix (xs : List α) (i : Int) : R α := .opt (atI xs i)
theorem opt_ok {o : Option α} {x : α} (h : R.opt o = .ok x) : o = some x := by
  cases o with
  | none => cases h
  | some y => cases h; rfl
theorem opt_ex {o : Option α} {e : Exc} (h : R.opt o = .ex e) : False := by
  cases o with
  | none => cases h
  | some y => cases h
theorem o_ixL [Rp α] : Op2 (rIxL K) (fun xs : List α => kSh K xs) (fun i : Int => kFr K i) R.ix (fun x : α => kFr K x) := fun xs i => by
  unfold R.ix
  split
  · rename_i z e
    intro W0 W v w ⟨p, vs, ev, hs, al, l⟩ hw Q q
    obtain ⟨u, hu, r⟩ := al_at al (opt_ok e)
    exact ⟨p, vs, i, u, ev, hw, hs, hu, q u W (Le.refl _) r⟩
  · rename_i e h; exact opt_ex h
  · trivial
/-- t[0], t[1] of a pair and t[0] .. of three, four: the place is written -/
def AtC (r : R2) (k1 : α → Kd) (i : Int) (f : α → γ) (k3 : γ → Kd) : Prop := ∀ x (W0 W : Wd) v, (k1 x).p W0 v W → ∀ Q : VK, (∀ u W', Le W W' → (k3 (f x)).p W u W' → Q u W'.H) → r v (.int i) W.H Q
theorem e_ixc {r : R2} {ta tb : TE} {k1 : α → Kd} {k3 : γ → Kd} {i : Int} {f : α → γ} {x : α} (h : AtC r k1 i f k3) (ha : Exp c W0 ta As (k1 x)) (hb : Exp c W0 tb As (kFr c.K i)) {k : Kd} (hk : k3 (f x) = k) : Exp c W0 (tOp r ta tb) As k := hk ▸ fun σ W a W1 e Q q =>
  ha σ W a W1 e _ fun v W2 e2 p => hb σ W a W2 (e.trans e2) _ fun w W3 e3 p3 => by
    have hw : w = .int i := p3
    subst hw
    exact h x W1 W3 v ((k1 x).up p e3) Q fun u W4 e4 p4 => q u W4 (e2.trans (e3.trans e4)) ((k3 (f x)).dn (e2.trans e3) p4)
section
variable [Rp α] [Rp β] [Rp γ] [Rp δ]
theorem p_0 : AtC (rIxT K) (fun x : α × β => kFr K x) 0 (fun x => x.1) (fun x : α => kFr K x) := fun x W0 W v ⟨p, a, b, ev, hs, r1, r2⟩ Q q => ⟨p, [a, b], 0, a, ev, rfl, W.sub.sqt hs, rfl, q a W (Le.refl _) r1⟩
theorem p_1 : AtC (rIxT K) (fun x : α × β => kFr K x) 1 (fun x => x.2) (fun x : β => kFr K x) := fun x W0 W v ⟨p, a, b, ev, hs, r1, r2⟩ Q q => ⟨p, [a, b], 1, b, ev, rfl, W.sub.sqt hs, rfl, q b W (Le.refl _) r2⟩
theorem p3_0 : AtC (rIxT K) (fun x : T3 α β γ => kFr K x) 0 (fun x => x.a) (fun x : α => kFr K x) := fun x W0 W v ⟨p, a, b, d, ev, hs, r1, r2, r3⟩ Q q => ⟨p, [a, b, d], 0, a, ev, rfl, W.sub.sqt hs, rfl, q a W (Le.refl _) r1⟩
theorem p3_1 : AtC (rIxT K) (fun x : T3 α β γ => kFr K x) 1 (fun x => x.b) (fun x : β => kFr K x) := fun x W0 W v ⟨p, a, b, d, ev, hs, r1, r2, r3⟩ Q q => ⟨p, [a, b, d], 1, b, ev, rfl, W.sub.sqt hs, rfl, q b W (Le.refl _) r2⟩
theorem p3_2 : AtC (rIxT K) (fun x : T3 α β γ => kFr K x) 2 (fun x => x.c) (fun x : γ => kFr K x) := fun x W0 W v ⟨p, a, b, d, ev, hs, r1, r2, r3⟩ Q q => ⟨p, [a, b, d], 2, d, ev, rfl, W.sub.sqt hs, rfl, q d W (Le.refl _) r3⟩
theorem p4_0 : AtC (rIxT K) (fun x : T4 α β γ δ => kFr K x) 0 (fun x => x.a) (fun x : α => kFr K x) := fun x W0 W v ⟨p, a, b, d, f, ev, hs, r1, r2, r3, r4⟩ Q q => ⟨p, [a, b, d, f], 0, a, ev, rfl, W.sub.sqt hs, rfl, q a W (Le.refl _) r1⟩
theorem p4_1 : AtC (rIxT K) (fun x : T4 α β γ δ => kFr K x) 1 (fun x => x.b) (fun x : β => kFr K x) := fun x W0 W v ⟨p, a, b, d, f, ev, hs, r1, r2, r3, r4⟩ Q q => ⟨p, [a, b, d, f], 1, b, ev, rfl, W.sub.sqt hs, rfl, q b W (Le.refl _) r2⟩
theorem p4_2 : AtC (rIxT K) (fun x : T4 α β γ δ => kFr K x) 2 (fun x => x.c) (fun x : γ => kFr K x) := fun x W0 W v ⟨p, a, b, d, f, ev, hs, r1, r2, r3, r4⟩ Q q => ⟨p, [a, b, d, f], 2, d, ev, rfl, W.sub.sqt hs, rfl, q d W (Le.refl _) r3⟩
theorem p4_3 : AtC (rIxT K) (fun x : T4 α β γ δ => kFr K x) 3 (fun x => x.d) (fun x : δ => kFr K x) := fun x W0 W v ⟨p, a, b, d, f, ev, hs, r1, r2, r3, r4⟩ Q q => ⟨p, [a, b, d, f], 3, f, ev, rfl, W.sub.sqt hs, rfl, q f W (Le.refl _) r4⟩
end
/-! ### built-ins of one, two arguments -/
def rLen (K : Frag) : List V → Hp → VK → Prop := fun xs H Q => ∃ p ys, xs = [.ref p] ∧ (SqL K H p ys ∨ SqT K H p ys) ∧ Q (.int ys.length) H
theorem o_lenL [Rp α] : OpA (rLen K) (fun z : List α × Unit => aCons (kSh K z.1) aNil) (fun z => .ok (z.1.length : Int)) (fun n : Int => kFr K n) := fun z W0 W vs ⟨v, r, e, ⟨p, ls, ev, hs, al, l⟩, en⟩ Q q => by
  subst e en ev
  exact ⟨p, ls, rfl, .inl hs, q _ W (Le.refl _) (by rw [← al.1]; rfl)⟩
theorem o_max : OpA (fun xs H Q => ∃ i j, xs = [.int i, .int j] ∧ Q (.int (if j > i then j else i)) H) (fun z : Int × Int × Unit => aCons (kFr K z.1) (aCons (kFr K z.2.1) aNil)) (fun z => .ok (if z.2.1 > z.1 then z.2.1 else z.1)) (fun n : Int => kFr K n) := fun z W0 W vs ⟨v, r, e, ev, w, r2, e2, ew, en⟩ Q q => by
  have ev' : v = .int z.1 := ev
  have ew' : w = .int z.2.1 := ew
  subst e e2 en ev' ew'
  exact ⟨_, _, rfl, q _ W (Le.refl _) rfl⟩
theorem o_min : OpA (fun xs H Q => ∃ i j, xs = [.int i, .int j] ∧ Q (.int (if j < i then j else i)) H) (fun z : Int × Int × Unit => aCons (kFr K z.1) (aCons (kFr K z.2.1) aNil)) (fun z => .ok (if z.2.1 < z.1 then z.2.1 else z.1)) (fun n : Int => kFr K n) := fun z W0 W vs ⟨v, r, e, ev, w, r2, e2, ew, en⟩ Q q => by
  have ev' : v = .int z.1 := ev
  have ew' : w = .int z.2.1 := ew
  subst e e2 en ev' ew'
  exact ⟨_, _, rfl, q _ W (Le.refl _) rfl⟩
/-- list(xs) -/
theorem o_list [Rp α] : OpA (fun xs H Q => ∃ p ys, xs = [.ref p] ∧ (SqL K H p ys ∨ SqT K H p ys) ∧ ∀ l, H l = none → Q (.ref l) (upd H l (.lst ys))) (fun z : List α × Unit => aCons (kSh K z.1) aNil) (fun z => .ok z.1) (fun n : List α => kNw K n) :=
  fun z W0 W vs ⟨v, r, e, ⟨p, ls, ev, hs, al, l⟩, en⟩ Q q => by
  subst e en ev
  exact ⟨p, ls, rfl, .inl hs, fun b hb => q _ (W.no b _ hb) (Le.no hb) ⟨[b], ⟨b, ls, rfl, rfl, W.sub.nope hb, upd_same, al, l⟩, fun a ha => by rw [List.mem_singleton.mp ha]; exact hb⟩⟩
/-! ### slices -/
def sl (xs : List α) (lo hi : Option Int) : List α := (xs.drop (HT.sIx xs.length 0 lo)).take (HT.sIx xs.length xs.length hi - HT.sIx xs.length 0 lo)
def Opo (c : Cn) (W0 : Wd) (X : WX) (to : TO) (As : List Sl) (m : R (Option Int)) : Prop := ∀ σ W, At c.K W0 As σ W → SatR m (fun o => ∀ W1, Le W W1 → ∀ Q : Option Int → Hp → Prop, (∀ W2, Le W1 W2 → Q o W2.H) → to σ W1.H Q)
  (fun e => ∀ W1, Le W W1 → ∀ Q, (∀ cls d W2, Le W1 W2 → ExAt c.M e cls d W2 → X cls d σ W2.H) → to σ W1.H Q)
theorem po_none' : Opo c W0 X tNoPart As (.ok none) := fun σ W a W1 e Q q => q W1 (Le.refl _)
theorem po_some' {te : TE} {m : R Int} (h : Exr c W0 X te As m fun x => kFr c.K x) : Opo c W0 X (tPart te) As (m.bind fun x => .ok (some x)) := fun σ W a => by
  have h' := h σ W a
  cases m with
  | no => trivial
  | ex e => exact fun W1 e1 Q q => h' W1 e1 _ q
  | ok x => exact fun W1 e1 Q q => h' W1 e1 _ fun v W2 e2 p => ⟨x, p, q W2 e2⟩
/-! ### texts -/
end
end Fw

namespace Fw
open PySem L2
section
variable {c : Cn} {W0 : Wd} {X : WX} {As Bs : List Sl} {α β γ δ τ ρ : Type} {K : Frag}
/-! ### texts made of texts -/
def jn (s : Str) : List Str → List Nat
  | [] => []
  | [x] => x.cps.toList
  | x :: y :: r => x.cps.toList ++ (s.cps.toList ++ jn s (y :: r))
/-! ### isinstance of what is known -/
class Pt (α : Type) [Rp α] where
  ty : String
  is : ∀ {K : Frag} {x : α} {v : V} {G : Hp}, Rp.rep K x v G → TyX K G v (.type ty)
instance : Pt Int := ⟨"int", fun h => by cases h; exact .base (.int _)⟩
instance : Pt Bool := ⟨"bool", fun h => by cases h; exact .base (.bl _)⟩
instance : Pt Str := ⟨"str", fun h => by cases h.1; exact .base (.str _)⟩
instance : Pt Unit := ⟨"NoneType", fun h => by cases h; exact .base .non⟩
instance [Rp α] : Pt (List α) := ⟨"list", fun ⟨p, vs, e, h, _⟩ => by subst e; exact .base (.lst h)⟩
theorem sqt_ty {G : Hp} {p : Addr} {vs : List V} (h : SqT K G p vs) : TyX K G (.ref p) (.type "tuple") := by
  rcases h with (h | ⟨o, h⟩) | ⟨o, its, n, l, e, _⟩
  · exact .base (.tup h)
  · exact .fTuple h
  · exact .kTuple l e
instance [Rp α] [Rp β] : Pt (α × β) := ⟨"tuple", fun ⟨p, a, b, e, h, _⟩ => by subst e; exact sqt_ty h⟩
instance [Rp α] : Pt (Tup α) := ⟨"tuple", fun ⟨p, vs, e, h, _⟩ => by subst e; exact sqt_ty h⟩
instance [Rp α] [Rp β] [Rp γ] : Pt (T3 α β γ) := ⟨"tuple", fun ⟨p, a, b, d, e, h, _⟩ => by subst e; exact sqt_ty h⟩
instance [Rp α] [Rp β] [Rp γ] [Rp δ] : Pt (T4 α β γ δ) := ⟨"tuple", fun ⟨p, a, b, d, f, e, h, _⟩ => by subst e; exact sqt_ty h⟩
theorem e_ty (n : String) : Exp c W0 (tC (.ty n)) As (kV (.ty n)) := fun σ W a W1 e Q q => q _ W1 (Le.refl _) rfl
/-! ### defs that change one thing handed in -/
structure LeX (W : Wd) (fp : List Addr) (W' : Wd) : Prop where
  g : Inc W.G W'.G
  o : ∀ a, a ∉ fp → W.G a = none → W.H a ≠ none → W'.G a = none
  h : ∀ a, a ∉ fp → W.H a ≠ none → W'.H a = W.H a
/-- the ground without what is handed in to be changed -/
def Wd.wo (W : Wd) (fp : List Addr) (h : ∀ a ∈ fp, W.G a = none) : Wd := ⟨W.G, fun a => if a ∈ fp then none else W.H a, fun a o e => by
  by_cases q : a ∈ fp
  · rw [h a q] at e; cases e
  · dsimp only; rw [if_neg q]; exact W.sub a o e, fun a u h i => by
  have h' : (if a ∈ fp then none else W.H a) = some u := h
  by_cases q : a ∈ fp
  · rw [if_pos q] at h'; cases h'
  · rw [if_neg q] at h'; exact W.im a u h' i⟩
theorem wo_ni {W : Wd} {fp : List Addr} {h : ∀ a ∈ fp, W.G a = none} {a : Addr} (n : a ∉ fp) : (W.wo fp h).H a = W.H a := if_neg n
theorem wo_in {W : Wd} {fp : List Addr} {h : ∀ a ∈ fp, W.G a = none} {a : Addr} (n : a ∈ fp) : (W.wo fp h).H a = none := if_pos n
theorem Le.wo {W : Wd} {fp : List Addr} {h : ∀ a ∈ fp, W.G a = none} : Le (W.wo fp h) W := ⟨Inc.refl _, fun a o e => by
  by_cases q : a ∈ fp
  · rw [wo_in q] at e; cases e
  · rw [wo_ni q] at e; exact e, fun a g _ => g⟩
theorem LeX.of {W W' : Wd} {fp : List Addr} {h : ∀ a ∈ fp, W.G a = none} (e : Le (W.wo fp h) W') : LeX W fp W' := ⟨e.g, fun a q g m => e.o a g (by rw [wo_ni q]; exact m), fun a q m => by
  cases z : W.H a with
  | none => exact absurd z m
  | some o => exact e.h a o (by rw [wo_ni q]; exact z)⟩
section
variable {τ' : Type} [Args τ] [Ob α] [Args τ'] {N : List Str} {n : Nat} {t : TS} {vs : List V} {H : Hp} {Q : VK} {E : XK}
end
theorem e_cc {C : Int → Int → Prop} {g : Int → Int → Int} {ta tb : TE} {x y : Int} (h : C x y) (ha : Exp c W0 ta As (kFr c.K x)) (hb : Exp c W0 tb As (kFr c.K y)) {k : Kd} (hk : kFr c.K (g x y) = k) : Exp c W0 (tOp (rI C fun i j => .int (g i j)) ta tb) As k := hk ▸ fun σ W a W1 e Q q =>
  ha σ W a W1 e _ fun v W2 e2 p => hb σ W a W2 (e.trans e2) _ fun w W3 e3 p3 => ⟨x, y, p, p3, h, q _ W3 (e2.trans e3) rfl⟩
end
end Fw

namespace Fw
open PySem L2
section
variable {c : Cn} {W0 : Wd} {X : WX} {As Bs : List Sl} {α β γ δ τ ρ : Type} {K : Frag}
/-- [x] * n -/
@[irreducible] def R.rep (xs : List α) (n : Int) : R (List α) := if n < 2 ^ 63 ∧ -(2 ^ 63) ≤ n ∧ xs.length * n.toNat ≤ sizeLine then .ok (List.replicate n.toNat xs).flatten else .no
/-! ### == at any depth -/
class Pd (α : Type) [Rp α] where
  pd : α → PyData
  dp : ∀ {K : Frag} {x : α} {v : V} {G : Hp}, Rp.rep K x v G → Dp K G v (pd x)
  n : Nat
  dep : ∀ {K : Frag} {x : α} {v : V} {G : Hp}, Rp.rep K x v G → (pd x).depth ≤ n
  lay : ∀ {K : Frag} {x : α} {v : V} {G : Hp}, Rp.rep K x v G → (pd x).canLay0 = true
  eq : ∀ x y : α, PyData.eqv (pd x) (pd y) = true ↔ x = y
instance : Pd Int := ⟨.int, fun h => by cases h; exact .int _, 0, fun _ => by simp [PyData.depth], fun _ => by simp [PyData.canLay0], fun x y => by simp [PyData.eqv]⟩
instance : Pd Bool := ⟨.bool, fun h => by cases h; exact .bl _, 0, fun _ => by simp [PyData.depth], fun _ => by simp [PyData.canLay0], fun x y => by simp [PyData.eqv]⟩
instance : Pd Str := ⟨.str, fun h => by cases h.1; exact .str _, 0, fun _ => by simp [PyData.depth], fun h => by
  show PyData.canLay0 (.str _) = true
  unfold PyData.canLay0
  exact h.2.2, fun x y => by simp [PyData.eqv]⟩
instance : Pd Unit := ⟨fun _ => .none, fun h => by cases h; exact .non, 0, fun _ => by simp [PyData.depth], fun _ => by simp [PyData.canLay0], fun x y => by simp [PyData.eqv]⟩
section
variable [Rp α] [Pd α] [Rp β] [Pd β] [Rp γ] [Pd γ] [Rp δ] [Pd δ]
theorem dpAll {G : Hp} : ∀ {xs : List α} {vs : List V}, Al (fun x v => Rp.rep K x v G) xs vs → DpAll K G vs (xs.map Pd.pd)
  | [], [], _ => .nil
  | [], v :: vs, h => by have := h.1; simp at this
  | x :: xs, [], h => by have := h.1; simp at this
  | x :: xs, v :: vs, h => .cons (Pd.dp (h.2 0 x v rfl rfl)) (dpAll ⟨by have := h.1; simpa using this, fun i y w a b => h.2 (i + 1) y w a b⟩)
theorem depAll {G : Hp} : ∀ {xs : List α} {vs : List V}, Al (fun x v => Rp.rep K x v G) xs vs → PyData.depthAll (xs.map Pd.pd) ≤ Pd.n α
  | [], [], _ => by simp [PyData.depthAll]
  | [], v :: vs, h => by have := h.1; simp at this
  | x :: xs, [], h => by have := h.1; simp at this
  | x :: xs, v :: vs, h => by
    have h1 := Pd.dep (h.2 0 x v rfl rfl)
    have h2 := depAll (xs := xs) (vs := vs) ⟨by have := h.1; simpa using this, fun i y w a b => h.2 (i + 1) y w a b⟩
    simp only [List.map_cons, PyData.depthAll]
    omega
theorem layAll {G : Hp} : ∀ {xs : List α} {vs : List V}, Al (fun x v => Rp.rep K x v G) xs vs → PyData.canLayAll0 (xs.map Pd.pd) = true
  | [], [], _ => by simp [PyData.canLayAll0]
  | [], v :: vs, h => by have := h.1; simp at this
  | x :: xs, [], h => by have := h.1; simp at this
  | x :: xs, v :: vs, h => by
    have h1 := Pd.lay (h.2 0 x v rfl rfl)
    have h2 := layAll (xs := xs) (vs := vs) ⟨by have := h.1; simpa using this, fun i y w a b => h.2 (i + 1) y w a b⟩
    simp only [List.map_cons, PyData.canLayAll0, h1, h2, Bool.and_self]
theorem eqAll : ∀ xs ys : List α, PyData.eqvAll (xs.map Pd.pd) (ys.map Pd.pd) = true ↔ xs = ys
  | [], [] => by simp [PyData.eqvAll]
  | [], y :: ys => by simp [PyData.eqvAll]
  | x :: xs, [] => by simp [PyData.eqvAll]
  | x :: xs, y :: ys => by simp only [List.map_cons, PyData.eqvAll, Bool.and_eq_true, Pd.eq, eqAll xs ys, List.cons.injEq]
instance : Pd (List α) := ⟨fun xs => .list (xs.map Pd.pd), fun ⟨p, vs, e, h, al, l⟩ => by subst e; exact .lst (.inl (.inl h)) (dpAll al), Pd.n α + 1, fun ⟨p, vs, e, h, al, l⟩ => by
  simp only [PyData.depth]; have := depAll al; omega, fun ⟨p, vs, e, h, al, l⟩ => by simp only [PyData.canLay0]; exact layAll al, fun x y => by simp only [PyData.eqv]; exact eqAll x y⟩
instance : Pd (Tup α) := ⟨fun xs => .tuple (xs.l.map Pd.pd), fun ⟨p, vs, e, h, al, l⟩ => by subst e; exact .tup h (dpAll al), Pd.n α + 1, fun ⟨p, vs, e, h, al, l⟩ => by
  simp only [PyData.depth]; have := depAll al; omega, fun ⟨p, vs, e, h, al, l⟩ => by simp only [PyData.canLay0]; exact layAll al, fun x y => by
  simp only [PyData.eqv]; rw [eqAll]; cases x; cases y; simp⟩
instance : Pd (α × β) := ⟨fun x => .tuple [Pd.pd x.1, Pd.pd x.2], fun ⟨p, a, b, e, h, r1, r2⟩ => by subst e; exact .tup h (.cons (Pd.dp r1) (.cons (Pd.dp r2) .nil)), max (Pd.n α) (Pd.n β) + 1, fun ⟨p, a, b, e, h, r1, r2⟩ => by
  simp only [PyData.depth, PyData.depthAll]; have := Pd.dep r1; have := Pd.dep r2; omega, fun ⟨p, a, b, e, h, r1, r2⟩ => by simp only [PyData.canLay0, PyData.canLayAll0, Pd.lay r1, Pd.lay r2, Bool.and_self], fun x y => by
  simp only [PyData.eqv, PyData.eqvAll, Bool.and_eq_true, Pd.eq, and_true]; cases x; cases y; simp⟩
instance : Pd (T3 α β γ) := ⟨fun x => .tuple [Pd.pd x.a, Pd.pd x.b, Pd.pd x.c], fun ⟨p, a, b, d, e, h, r1, r2, r3⟩ => by subst e; exact .tup h (.cons (Pd.dp r1) (.cons (Pd.dp r2) (.cons (Pd.dp r3) .nil))), max (Pd.n α) (max (Pd.n β) (Pd.n γ)) + 1, fun ⟨p, a, b, d, e, h, r1, r2, r3⟩ => by
  simp only [PyData.depth, PyData.depthAll]; have := Pd.dep r1; have := Pd.dep r2; have := Pd.dep r3; omega, fun ⟨p, a, b, d, e, h, r1, r2, r3⟩ => by simp only [PyData.canLay0, PyData.canLayAll0, Pd.lay r1, Pd.lay r2, Pd.lay r3, Bool.and_self], fun x y => by
  simp only [PyData.eqv, PyData.eqvAll, Bool.and_eq_true, Pd.eq, and_true]; cases x; cases y; simp⟩
instance : Pd (T4 α β γ δ) := ⟨fun x => .tuple [Pd.pd x.a, Pd.pd x.b, Pd.pd x.c, Pd.pd x.d], fun ⟨p, a, b, d, f, e, h, r1, r2, r3, r4⟩ => by subst e; exact .tup h (.cons (Pd.dp r1) (.cons (Pd.dp r2) (.cons (Pd.dp r3) (.cons (Pd.dp r4) .nil)))), max (Pd.n α) (max (Pd.n β) (max (Pd.n γ) (Pd.n δ))) + 1, fun ⟨p, a, b, d, f, e, h, r1, r2, r3, r4⟩ => by
  simp only [PyData.depth, PyData.depthAll]; have := Pd.dep r1; have := Pd.dep r2; have := Pd.dep r3; have := Pd.dep r4; omega, fun ⟨p, a, b, d, f, e, h, r1, r2, r3, r4⟩ => by simp only [PyData.canLay0, PyData.canLayAll0, Pd.lay r1, Pd.lay r2, Pd.lay r3, Pd.lay r4, Bool.and_self], fun x y => by
  simp only [PyData.eqv, PyData.eqvAll, Bool.and_eq_true, Pd.eq, and_true]; cases x; cases y; simp⟩
end
mutual
theorem dp_mono {G H : Hp} (s : Inc G H) : ∀ {v : V} {d : PyData}, Dp K G v d → Dp K H v d
  | _, _, .non => .non
  | _, _, .bl b => .bl b
  | _, _, .int i => .int i
  | _, _, .str x => .str x
  | _, _, .lst h a => .lst (s.sql h) (dpAll_mono s a)
  | _, _, .tup h a => .tup (s.sqt h) (dpAll_mono s a)
theorem dpAll_mono {G H : Hp} (s : Inc G H) : ∀ {vs : List V} {ds : List PyData}, DpAll K G vs ds → DpAll K H vs ds
  | _, _, .nil => .nil
  | _, _, .cons h t => .cons (dp_mono s h) (dpAll_mono s t)
end
theorem shaped_of [Rp α] [Pd α] {x : α} {v : V} {G : Hp} (h : Rp.rep K x v G) (hn : Pd.n α ≤ 64) : SeqAt.shaped (Pd.pd x) = true := by
  unfold SeqAt.shaped
  rw [Bool.and_eq_true]
  exact ⟨Pd.lay h, decide_eq_true (Nat.le_trans (Pd.dep h) hn)⟩
theorem pd_dec [Rp α] [DecidableEq α] [Pd α] (x y : α) : PyData.eqv (Pd.pd x) (Pd.pd y) = decide (x = y) := by
  by_cases h : x = y
  · rw [decide_eq_true h]; exact (Pd.eq x y).mpr h
  · rw [decide_eq_false h]
    cases e : PyData.eqv (Pd.pd x) (Pd.pd y) with
    | false => rfl
    | true => exact absurd ((Pd.eq x y).mp e) h
end
theorem hu64 {A : Around} {k : Nat} (hr : Room k A) : A.units + 64 < cLine := by have := hr.un; omega
/-- the end of a law: it says True of every script -/
theorem law_end {K : Frag} {M : Str → Value} {f : Sq Int → R Bool} (H : ∀ ns : List Int, ns.length ≤ 63 → f ⟨ns⟩ = .ok true) (Hh : Hp) (a : Addr) (ns : List Int) (hl : ns.length ≤ 63) (hS : SqL K Hh a (ns.map V.int)) :
    spF ⟨K, M⟩ (fun x : Sq Int × Unit => f x.1) (fun x : Bool => kFr K x) [.ref a] Hh (fun v _ => v = .bl true) fun _ _ _ => False := by
  refine ⟨.all Hh, (⟨ns⟩, ()), rfl, ⟨.ref a, [], rfl, ⟨a, _, rfl, hS, ⟨by simp, fun i x v h1 h2 => ?_⟩, Nat.le_trans hl (by decide)⟩, rfl⟩, ?_⟩
  · rw [List.getElem?_map] at h2
    have h1' : ns[i]? = some x := h1
    rw [h1'] at h2
    exact (Option.some.inj h2).symm
  · dsimp only
    rw [H ns hl]
    exact fun v W' _ p => p
theorem cx_never {P : Program} {w : World} {outer : List Env} {H : Hp} {s : Shared} {e : Value} {s' : Shared} (h : L2.CX P w outer H s (fun _ _ _ => False) e s') : False := by
  obtain ⟨_, _, _, _, _, _, _, _, _, _, _, _, z⟩ := h
  exact z
end Fw

namespace Fw
open PySem L2
/-! ### xs[a:b:c], c written, above 0 -/
section
open PySem.Spec PyProof.Rows
variable {X : Cx}
end
section
variable {c : Cn} {W0 : Wd} {X : WX} {As Bs : List Sl} {α β γ δ τ ρ : Type} {K : Frag}
/-! ### all looked at as frozen, and back again -/
def Wd.bk (W W3 : Wd) (e : Le (.all W.H) W3) : Wd := ⟨fun a => match W.H a with
  | some _ => W.G a
  | none => W3.G a, W3.H, fun a o h => by
    dsimp only at h
    cases q : W.H a with
    | none => rw [q] at h; exact W3.sub a o h
    | some u => rw [q] at h; exact e.h a o (W.sub a o h), fun a u h i => by
    show (match W.H a with | some _ => W.G a | none => W3.G a) = some u
    cases q : W.H a with
    | none => exact W3.im a u h i
    | some o =>
      have h1 : W3.H a = some o := e.h a o q
      rw [h] at h1
      cases h1
      exact W.im a _ q i⟩
theorem bk_old {W W3 : Wd} {e : Le (.all W.H) W3} {a : Addr} {o : HO} (h : W.H a = some o) : (W.bk W3 e).G a = W.G a := by
  show (match W.H a with | some _ => W.G a | none => W3.G a) = W.G a
  rw [h]
theorem bk_le {W W3 : Wd} {e : Le (.all W.H) W3} : Le W (W.bk W3 e) := ⟨fun a o h => by rw [bk_old (W.sub a o h)]; exact h, e.h, fun a g n => by
  cases h : W.H a with
  | none => exact absurd h n
  | some u => rw [bk_old h]; exact g⟩
/-- what can't change is kept from the one to the other -/
def Tk (G G' : Hp) : Prop := ∀ p u, imm u = true → G p = some u → G' p = some u
theorem bk_tk {W W3 : Wd} {e : Le (.all W.H) W3} : Tk W3.G (W.bk W3 e).G := fun p u i h => (W.bk W3 e).im p u (W3.sub p u h) i
/-! ### borrowed -/
def kBw (K : Frag) [Rp α] (x : α) : Kd := ⟨fun _ v W => Rp.rep K x v W.H, fun h e => Rp.mono e.h h, fun _ h => h⟩
theorem fr_bw [Rp α] {x : α} {v : V} {A W : Wd} (h : (kFr K x).p A v W) : (kBw K x).p A v W := Rp.mono W.sub h
theorem own_bw [Fz α] {x : α} {v : V} {f : List Addr} {A W : Wd} (h : Ob.own K x v f W) : (kBw K x).p A v W := by
  have r : Rp.rep K x v (W.fz f).G := Fz.fz h
  exact Rp.mono (W.fz f).sub r
theorem nw_bw [Fz α] {x : α} {v : V} {A W : Wd} (h : (kNw K x).p A v W) : (kBw K x).p A v W := by
  obtain ⟨f, o, _⟩ := h
  exact own_bw (A := A) o
theorem e_varB [Fz α] {x : α} {pin : Option V} (i : Nat) (h : As[i]? = some (.ow pin x) := by rfl) : Exp c W0 (tVar i) As (kBw c.K x) := fun σ W a W1 e Q q => by
  obtain ⟨v, f, hv, r, _⟩ := a.varO h
  exact ⟨v, hv, q v W1 (Le.refl _) (own_bw (A := W1) (own_up r e))⟩
theorem e_bw [Rp α] {te : TE} {x : α} (h : Exp c W0 te As (kFr c.K x)) : Exp c W0 te As (kBw c.K x) := exp_w h fun _ _ _ => fr_bw
theorem e_bwN [Fz α] {te : TE} {x : α} (h : Exp c W0 te As (kNw c.K x)) : Exp c W0 te As (kBw c.K x) := exp_w h fun _ _ _ => nw_bw
theorem r_bwN [Fz α] {te : TE} {m : R α} (h : Exr c W0 X te As m fun x => kNw c.K x) : Exr c W0 X te As m fun x => kBw c.K x := exr_w h fun _ _ _ _ => nw_bw
/-! ### ==, in, isinstance of what is only read -/
def memB [DecidableEq α] (x : α) (xs : List α) : Bool := decide (x ∈ xs)
theorem o_eqB [Rp α] [DecidableEq α] [Pd α] (hn : Pd.n α ≤ 64 := by decide) : Op2 (rEqD K) (fun x : α => kBw K x) (fun x : α => kBw K x) (fun x y => .ok (decide (x = y))) (fun z : Bool => kFr K z) := fun x y W0 W v w hv hw Q q =>
  ⟨Pd.pd x, Pd.pd y, Pd.dp hv, Pd.dp hw, shaped_of hv hn, shaped_of hw hn, q _ W (Le.refl _) (by rw [pd_dec]; rfl)⟩
theorem o_neB [Rp α] [DecidableEq α] [Pd α] (hn : Pd.n α ≤ 64 := by decide) : Op2 (rNeD K) (fun x : α => kBw K x) (fun x : α => kBw K x) (fun x y => .ok (!decide (x = y))) (fun z : Bool => kFr K z) := fun x y W0 W v w hv hw Q q =>
  ⟨Pd.pd x, Pd.pd y, Pd.dp hv, Pd.dp hw, shaped_of hv hn, shaped_of hw hn, q _ W (Le.refl _) (by rw [pd_dec]; rfl)⟩
theorem o_isiB [Rp α] [Pt α] {T : String} {b : Bool} (h : kitB (Pt.ty α) T = some b) : OpA (rIsi K) (fun z : α × Unit => aCons (kBw K z.1) (aCons (kV (.ty T)) aNil)) (fun _ => .ok b) (fun b : Bool => kFr K b) := fun z W0 W vs ⟨v, r, e, hv, w, r2, e2, ew, en⟩ Q q => by
  have ew' : w = .ty T := ew
  subst e e2 en ew'
  exact ⟨v, .ty T, .type (Pt.ty α), .type T, b, rfl, .ty T, Pt.is hv, kit_ty h, q _ W (Le.refl _) rfl⟩
/-! ### xs + ys -/
/-! ### one of two -/
instance [Rp α] [Rp β] : Rp (α ⊕ β) := ⟨fun K x v G => match x with
  | .inl a => Rp.rep K a v G
  | .inr b => Rp.rep K b v G, fun {K x v G H} s h => by
    cases x with
    | inl a => exact Rp.mono (α := α) s h
    | inr b => exact Rp.mono (α := β) s h⟩
theorem e_inl [Rp α] [Rp β] {te : TE} {x : α} (h : Exp c W0 te As (kFr c.K x)) : Exp c W0 te As (kFr c.K (Sum.inl x : α ⊕ β)) := exp_w h fun _ _ _ p => p
theorem r_inr [Rp α] [Rp β] {te : TE} {m : R β} (h : Exr c W0 X te As m fun x => kFr c.K x) : Exr c W0 X te As (m.bind fun x => .ok (Sum.inr x : α ⊕ β)) fun x => kFr c.K x := fun σ W a => by
  have h' := h σ W a
  cases m with
  | ok x => exact h'
  | ex e => exact h'
  | no => trivial
def R.getL (x : α ⊕ β) : R α := match x with
  | .inl a => .ok a
  | .inr _ => .no
def R.getR (x : α ⊕ β) : R β := match x with
  | .inl _ => .no
  | .inr b => .ok b
theorem r_getL [Rp α] [Rp β] {te : TE} {m : R (α ⊕ β)} (h : Exr c W0 X te As m fun x => kFr c.K x) : Exr c W0 X te As (m.bind R.getL) fun x => kFr c.K x := fun σ W a => by
  have h' := h σ W a
  cases m with
  | ok x =>
    cases x with
    | inl a => exact h'
    | inr b => trivial
  | ex e => exact h'
  | no => trivial
theorem r_getR [Rp α] [Rp β] {te : TE} {m : R (α ⊕ β)} (h : Exr c W0 X te As m fun x => kFr c.K x) : Exr c W0 X te As (m.bind R.getR) fun x => kFr c.K x := fun σ W a => by
  have h' := h σ W a
  cases m with
  | ok x =>
    cases x with
    | inl a => trivial
    | inr b => exact h'
  | ex e => exact h'
  | no => trivial
class Apart (α β : Type) [Rp α] [Rp β] [Pd α] [Pd β] where
  l : ∀ (a : α) (b : β), PyData.eqv (Pd.pd a) (Pd.pd b) = false
  r : ∀ (a : α) (b : β), PyData.eqv (Pd.pd b) (Pd.pd a) = false
instance [Rp α] [Pd α] : Apart Str (Tup α) := ⟨fun _ _ => by simp [Pd.pd, PyData.eqv], fun _ _ => by simp [Pd.pd, PyData.eqv]⟩
instance [Rp α] [Pd α] [Rp β] [Pd β] [Rp γ] [Pd γ] [Rp δ] [Pd δ] : Apart Int (T4 α β γ δ) := ⟨fun _ _ => by simp [Pd.pd, PyData.eqv], fun _ _ => by simp [Pd.pd, PyData.eqv]⟩
instance [Rp α] [Rp β] [Pd α] [Pd β] [Apart α β] : Pd (α ⊕ β) where
  pd x := match x with
    | .inl a => Pd.pd a
    | .inr b => Pd.pd b
  dp := fun {K x v G} h => by
    cases x with
    | inl a => exact Pd.dp (α := α) h
    | inr b => exact Pd.dp (α := β) h
  n := max (Pd.n α) (Pd.n β)
  dep := fun {K x v G} h => by
    cases x with
    | inl a => have := Pd.dep (α := α) h; dsimp only; omega
    | inr b => have := Pd.dep (α := β) h; dsimp only; omega
  lay := fun {K x v G} h => by
    cases x with
    | inl a => exact Pd.lay (α := α) h
    | inr b => exact Pd.lay (α := β) h
  eq x y := by
    cases x with
    | inl a =>
      cases y with
      | inl b => simp [Pd.eq]
      | inr b => simp [Apart.l]
    | inr a =>
      cases y with
      | inl b => simp [Apart.r]
      | inr b => simp [Pd.eq]
/-! ### None or a thing -/
class NN (α : Type) [Rp α] where
  nn : ∀ {K : Frag} {x : α} {v : V} {G : Hp}, Rp.rep K x v G → v ≠ .non
instance : NN Int := ⟨fun h => by cases h; exact fun z => nomatch z⟩
instance : NN Bool := ⟨fun h => by cases h; exact fun z => nomatch z⟩
instance : NN Str := ⟨fun h => by cases h.1; exact fun z => nomatch z⟩
instance [Rp α] : NN (List α) := ⟨fun ⟨p, vs, e, _⟩ => by subst e; exact fun z => nomatch z⟩
instance [Rp α] : NN (Tup α) := ⟨fun ⟨p, vs, e, _⟩ => by subst e; exact fun z => nomatch z⟩
instance [Rp α] [Rp β] : NN (α × β) := ⟨fun ⟨p, a, b, e, _⟩ => by subst e; exact fun z => nomatch z⟩
instance [Rp α] [Rp β] [Rp γ] : NN (T3 α β γ) := ⟨fun ⟨p, a, b, d, e, _⟩ => by subst e; exact fun z => nomatch z⟩
instance [Rp α] [Rp β] [Rp γ] [Rp δ] : NN (T4 α β γ δ) := ⟨fun ⟨p, a, b, d, f, e, _⟩ => by subst e; exact fun z => nomatch z⟩
instance : Eqs (Option Int) := ⟨fun x => match x with | none => .non | some i => .int i, fun {K x u G} h => by
  cases x with
  | none => exact h
  | some i => exact h.2, fun {x y} h => by
  cases x <;> cases y <;> cases h <;> rfl, fun x y => by cases x <;> cases y <;> rfl⟩
end
end Fw

namespace Fw
open PySem L2
section
open PySem.Spec PyProof.Rows
variable {X : Cx}
/-! ### a slice whose step is worked out -/
end
section
variable {c : Cn} {W0 : Wd} {X : WX} {As Bs : List Sl} {α β γ δ τ ρ : Type} {K : Frag}
end
end Fw

namespace Fw
open PySem L2
section
variable {c : Cn} {W0 : Wd} {X : WX} {As : List Sl} {α β γ δ τ ρ S J : Type} {Bs : S → List Sl} {K : Frag}
variable {kr : ρ → Kd} {Ls : List Sl} {Js : J → List Sl} {B : Bd}
/-! ### built-ins over lists of ints, texts of ints -/
def intS (i : Int) : Str := Str.ofString (toString i)
instance (x : Str) : Decidable (SOk x) := inferInstanceAs (Decidable (_ ∧ _))
@[irreducible] def R.strI (i : Int) : R Str := if i.natAbs.log2 < 1920 ∧ SOk (intS i) then .ok (intS i) else .no
/-! ### four at once -/
def lt4 (x : T4 α β γ δ) (k : α → β → γ → δ → Out S J ρ) : Out S J ρ := k x.a x.b x.c x.d
theorem d_let4 [Rp α] [Rp β] [Rp γ] [Rp δ] {te : TE} {u : TS} {x : T4 α β γ δ} {k : α → β → γ → δ → Out S J ρ} (i1 i2 i3 i4 : Nat) (h : Exp c B.W0 te As (kFr c.K x)) (hk : ∀ y z w q, Den c X kr Ls Js B u ((((As.set i1 (.fr y)).set i2 (.fr z)).set i3 (.fr w)).set i4 (.fr q)) (k y z w q) Bs) :
    Den c X kr Ls Js B (tSeq (tAsg te (gTup c.K 4 (gCons (gName i1) (gCons (gName i2) (gCons (gName i3) (gCons (gName i4) gNil)))))) u) As (lt4 x k) Bs := fun D σ W a f =>
  h σ W a W (Le.refl _) _ fun v W2 e ⟨p, va, vb, vc, vd, ev, hp, r1, r2, r3, r4⟩ => ⟨p, [va, vb, vc, vd], ev, W2.sub.sqt hp, rfl, va, [vb, vc, vd], rfl, vb, [vc, vd], rfl, vc, [vd], rfl, vd, [], rfl, rfl, hk x.a x.b x.c x.d D _ W2 (((((a.mono e).setF r1).setF r2).setF r3).setF r4) f⟩
/-- x[1:], x of four -/
@[irreducible] def R.cut4 (x : T4 α β β β) (lo hi : Option Int) : R (Tup β) := if lo = some 1 ∧ hi = none then .ok ⟨[x.b, x.c, x.d]⟩ else .no
theorem r_cut4 [Rp α] [Rp β] {te : TE} {tl th : TO} {m : R (T4 α β β β)} {a b : R (Option Int)} (h : Exr c W0 X te As m fun x => kFr c.K x) (ha : Opo c W0 X tl As a) (hb : Opo c W0 X th As b) :
    Exr c W0 X (tSl (rSlT c.K) te tl th) As (m.bind fun x => a.bind fun lo => b.bind fun hi => R.cut4 x lo hi) fun ys => kFr c.K ys := fun σ W at_ => by
  have h' := h σ W at_
  have ha' := ha σ W at_
  have hb' := hb σ W at_
  cases m with
  | no => trivial
  | ex e => exact fun W1 e1 Q q => h' W1 e1 _ q
  | ok xs =>
    cases a with
    | no => trivial
    | ex e => exact fun W1 e1 Q q => h' W1 e1 _ fun v W2 e2 p => ha' W2 (e1.trans e2) _ fun cls d W3 e3 z => q cls d W3 (e2.trans e3) z
    | ok lo =>
      cases b with
      | no => trivial
      | ex e => exact fun W1 e1 Q q => h' W1 e1 _ fun v W2 e2 p => ha' W2 (e1.trans e2) _ fun W3 e3 => hb' W3 (e1.trans (e2.trans e3)) _ fun cls d W4 e4 z => q cls d W4 (e2.trans (e3.trans e4)) z
      | ok hi =>
        show SatR (R.cut4 xs lo hi) _ _
        unfold R.cut4
        split
        · rename_i hz
          obtain ⟨rfl, rfl⟩ := hz
          refine fun W1 e1 Q q => h' W1 e1 _ fun v W2 e2 ⟨p, va, vb, vc, vd, ev, hs, r1, r2, r3, r4⟩ => ha' W2 (e1.trans e2) _ fun W3 e3 => hb' W3 (e1.trans (e2.trans e3)) _ fun W4 e4 => ⟨p, [va, vb, vc, vd], ev, W4.sub.sqt ((e3.trans e4).g.sqt hs), by show ¬ (HT.sIx 4 0 (some 1) = 0 ∧ HT.sIx 4 4 none = 4); decide, fun b hb => ?_⟩
          have eg := ((e3.trans e4).trans (Le.nf (o := .tup [vb, vc, vd]) hb)).g
          exact q _ (W4.nf b _) ((e2.trans (e3.trans e4)).trans (Le.nf hb)) ⟨b, [vb, vc, vd], rfl, .inl (.inl upd_same), (Al.cons (Rp.mono eg r2) (Al.cons (Rp.mono eg r3) (Al.one (Rp.mono eg r4)))), by show 3 ≤ sizeLine; decide⟩
        · trivial
end
end Fw

namespace Fw
open PySem L2
section
variable {X : Cx} {K : Frag}
/-! ### text * int -/
/-! ### methods of a text with one argument -/
@[irreducible] def R.intS (a : Str) : R Int := match PySem.intText? a with
  | some n => if a.length ≤ 640 then .ok n else .no
  | none => .no
end
end Fw

namespace Fw
open PySem L2
/-! ### dict(t), t a tuple of pairs -/
section
open PySem.Spec PyProof.Rows
variable {prog : Program} {w : World} {A : Around} {E : Value → Shared → Prop}
end
end Fw

namespace Fw
open PySem L2
/-! ### what is never come to -/
section
variable {J S ρ : Type} {c : Cn} {X : WX} {kr : ρ → Kd} {Ls : List Sl} {Js : J → List Sl} {B : Bd} {As : List Sl} {Bs : S → List Sl} {Y : Cx} {K : Frag}
def tNo : TS := fun _ _ _ => False
theorem pss_no (l : List Stmt) : PSs Y l tNo := ⟨fun _ _ _ _ _ _ h => False.elim h⟩
theorem d_no {t : TS} : Den c X kr Ls Js B t As (.no : Out S J ρ) Bs := fun _ _ _ _ f => False.elim f
/-! ### text.index, text.split -/
def soks (l : List Str) : Bool := l.all fun s => decide (s.length ≤ sizeLine) && s.cps.all (· < 0x110000)
@[irreducible] def R.split (a b : Str) : R (List Str) := if (b.length == 0) = false ∧ a.length + 2 ≤ sizeLine ∧ (Txt.split a b).length ≤ sizeLine ∧ soks (Txt.split a b) = true then .ok (Txt.split a b) else .no
end
end Fw

namespace Fw
open PySem L2
/-! ### dicts -/
section
variable {κ κ' α : Type} [DecidableEq κ] [DecidableEq κ']
theorem valV_inj {f : κ → κ'} (hf : ∀ a b, f a = f b → a = b) (k : κ) : ∀ kvs : List (κ × V), valV (kvs.map fun p => (f p.1, p.2)) (f k) = valV kvs k
  | [] => rfl
  | p :: r => by
    rw [List.map_cons]
    by_cases e : p.1 = k
    · rw [valV_pos e, valV_pos (congrArg f e)]
    · rw [valV_neg e, valV_neg (fun z => e (hf _ _ z)), valV_inj hf k r]
theorem putK_inj {f : κ → κ'} (hf : ∀ a b, f a = f b → a = b) (k : κ) (v : V) (kvs : List (κ × V)) : putK (kvs.map fun p => (f p.1, p.2)) (f k) v = (putK kvs k v).map fun p => (f p.1, p.2) := by
  unfold putK
  rw [valV_any, valV_any, valV_inj hf]
  split
  · rw [List.map_map, List.map_map]
    refine List.map_congr_left fun p _ => ?_
    show (if f p.1 = f k then (f p.1, v) else (f p.1, p.2)) = _
    by_cases e : p.1 = k
    · rw [if_pos (congrArg f e)]
      show _ = (fun p : κ × V => (f p.1, p.2)) (if p.1 = k then (p.1, v) else p)
      rw [if_pos e]
    · rw [if_neg (fun z => e (hf _ _ z))]
      show _ = (fun p : κ × V => (f p.1, p.2)) (if p.1 = k then (p.1, v) else p)
      rw [if_neg e]
  · rw [List.map_append]
    rfl
/-- kinds of keys -/
class DKy (κ : Type) [DecidableEq κ] [Rp κ] where
  ho : List (κ × V) → HO
  get : ∀ {K : Frag} {G H : Hp} {k : κ} {y : V} {p : Addr} {kvs : List (κ × V)}, Rp.rep K k y G → Inc G H → Rd H p (ho kvs) → DGet H p y (valV kvs k)
  put : ∀ {K : Frag} {G H : Hp} {k : κ} {y v : V} {p : Addr} {kvs : List (κ × V)}, Rp.rep K k y G → Inc G H → H p = some (ho kvs) → kvs.length < sizeLine → DPut H p y v (upd H p (ho (putK kvs k v)))
  isD : ∀ {H : Hp} {p : Addr} {kvs : List (κ × V)}, Rd H p (ho kvs) → IsD H p
  mu : ∀ kvs : List (κ × V), Mut (some (ho kvs))
theorem ho_mut {κ : Type} [DecidableEq κ] [Rp κ] [DKy κ] (kvs : List (κ × V)) : imm (DKy.ho kvs) = false := by
  have h := DKy.mu kvs
  cases e : DKy.ho kvs with
  | tup x => rw [e] at h; exact h.elim
  | frz o u => rw [e] at h; exact h.elim
  | xd x => rw [e] at h; exact h.elim
  | own x => rw [e] at h; exact h.elim
  | _ => rfl
def kI (i : Int) : Key := .inl i
def kS (s : Str) : Key := .inr s
theorem kI_inj : ∀ a b, kI a = kI b → a = b := fun a b h => by cases h; rfl
theorem kS_inj : ∀ a b, kS a = kS b → a = b := fun a b h => by cases h; rfl
instance : DKy Int where
  ho kvs := .dK (kvs.map fun p => (kI p.1, p.2))
  get := fun {K G H k y p kvs} r _ e => by
    have r' : y = .int k := r
    subst r'
    rw [← valV_inj kI_inj k kvs]
    exact .inl ⟨_, kI k, e, rfl, rfl⟩
  put := fun {K G H k y v p kvs} r _ e l => by
    have r' : y = .int k := r
    subst r'
    rw [← putK_inj kI_inj k v kvs]
    exact DPut.k (k := kI k) e (by rw [List.length_map]; exact l)
  isD := fun e => .inl ⟨_, e⟩
  mu := fun _ => trivial
instance : DKy Str where
  ho kvs := .dK (kvs.map fun p => (kS p.1, p.2))
  get := fun {K G H k y p kvs} r _ e => by
    have r' : y = .str k := r.1
    subst r'
    rw [← valV_inj kS_inj k kvs]
    exact .inl ⟨_, kS k, e, rfl, rfl⟩
  put := fun {K G H k y v p kvs} r _ e l => by
    have r' : y = .str k := r.1
    subst r'
    rw [← putK_inj kS_inj k v kvs]
    exact DPut.k (k := kS k) e (by rw [List.length_map]; exact l)
  isD := fun e => .inl ⟨_, e⟩
  mu := fun _ => trivial
/-- a tuple of ints that is known to be just that -/
structure TK where
  l : List Int
deriving DecidableEq
def kT (x : TK) : List Key := x.l.map kI
theorem mapkI_inj : ∀ a b : List Int, a.map kI = b.map kI → a = b
  | [], [], _ => rfl
  | [], _ :: _, h => by simp at h
  | _ :: _, [], h => by simp at h
  | x :: a, y :: b, h => by
    rw [List.map_cons, List.map_cons] at h
    injection h with h1 h2
    rw [kI_inj _ _ h1, mapkI_inj a b h2]
theorem kT_inj : ∀ a b, kT a = kT b → a = b := fun a b h => by
  obtain ⟨a⟩ := a
  obtain ⟨b⟩ := b
  exact congrArg TK.mk (mapkI_inj a b h)
instance : Rp TK := ⟨fun K x v G => ∃ p, v = .ref p ∧ G p = some (.tup (x.l.map V.int)) ∧ x.l.length ≤ sizeLine, fun s ⟨p, e, h, l⟩ => ⟨p, e, s _ _ h, l⟩⟩
theorem kT_v (x : TK) : (kT x).map L2.kV = x.l.map V.int := by
  unfold kT
  rw [List.map_map]
  rfl
instance : DKy TK where
  ho kvs := .dT (kvs.map fun p => (kT p.1, p.2))
  get := fun {K G H k y p kvs} ⟨b, r, hb, _⟩ s e => by
    subst r
    rw [← valV_inj kT_inj k kvs]
    exact .inr ⟨_, kT k, b, e, rfl, by rw [kT_v]; exact s _ _ hb, rfl⟩
  put := fun {K G H k y v p kvs} ⟨b, r, hb, _⟩ s e l => by
    subst r
    rw [← putK_inj kT_inj k v kvs]
    exact DPut.t (k := kT k) e (by rw [kT_v]; exact s _ _ hb) (by rw [List.length_map]; exact l)
  isD := fun e => .inr ⟨_, e⟩
  mu := fun _ => trivial
/-- such a tuple is a tuple -/
theorem tk_tup {K : Frag} {x : TK} {v : V} {G : Hp} (h : Rp.rep K x v G) : Rp.rep K (Tup.mk x.l) v G := by
  obtain ⟨p, e, hp, l⟩ := h
  refine ⟨p, _, e, .inl (.inl hp), ⟨by simp, fun i y w h1 h2 => ?_⟩, l⟩
  rw [List.getElem?_map, h1] at h2
  cases h2
  rfl
end
section
variable {κ α : Type} [DecidableEq κ]
def dval (x : List (κ × α)) (k : κ) : Option α := match x with
  | [] => none
  | p :: ps => if p.1 = k then some p.2 else dval ps k
def dput (x : List (κ × α)) (k : κ) (a : α) : List (κ × α) := if (dval x k).isSome = true then x.map (fun p => if p.1 = k then (p.1, a) else p) else x ++ [(k, a)]
theorem dput_len (x : List (κ × α)) (k : κ) (y : α) : (dput x k y).length ≤ x.length + 1 := by
  unfold dput
  split
  · rw [List.length_map]; omega
  · simp
def DR (K : Frag) [Rp α] : List (κ × α) → List (κ × V) → Hp → Prop
  | [], [], _ => True
  | p :: ps, q :: qs, G => p.1 = q.1 ∧ Rp.rep K p.2 q.2 G ∧ DR K ps qs G
  | _, _, _ => False
variable [Rp α] {K : Frag}
theorem DR.mono {G G' : Hp} (s : Inc G G') : ∀ {x : List (κ × α)} {q : List (κ × V)}, DR K x q G → DR K x q G'
  | [], [], h => h
  | _ :: _, _ :: _, h => ⟨h.1, Rp.mono s h.2.1, DR.mono s h.2.2⟩
  | [], _ :: _, h => h.elim
  | _ :: _, [], h => h.elim
theorem DR.len {G : Hp} : ∀ {x : List (κ × α)} {q : List (κ × V)}, DR K x q G → x.length = q.length
  | [], [], h => rfl
  | _ :: _, _ :: _, h => by rw [List.length_cons, List.length_cons, DR.len h.2.2]
  | [], _ :: _, h => h.elim
  | _ :: _, [], h => h.elim
theorem DR.none {G : Hp} {k : κ} : ∀ {x : List (κ × α)} {q : List (κ × V)}, DR K x q G → dval x k = none → valV q k = none
  | [], [], h, _ => rfl
  | a :: x, b :: q, h, e => by
    unfold dval at e
    by_cases c : a.1 = k
    · rw [if_pos c] at e; cases e
    · rw [if_neg c] at e
      rw [valV_neg (h.1 ▸ c)]
      exact DR.none h.2.2 e
  | [], _ :: _, h, _ => h.elim
  | _ :: _, [], h, _ => h.elim
theorem DR.some {G : Hp} {k : κ} {y : α} : ∀ {x : List (κ × α)} {q : List (κ × V)}, DR K x q G → dval x k = some y → ∃ v, valV q k = some v ∧ Rp.rep K y v G
  | [], [], h, e => by cases e
  | a :: x, b :: q, h, e => by
    unfold dval at e
    by_cases c : a.1 = k
    · rw [if_pos c] at e
      cases e
      exact ⟨b.2, valV_pos (h.1 ▸ c), h.2.1⟩
    · rw [if_neg c] at e
      rw [valV_neg (h.1 ▸ c)]
      exact DR.some h.2.2 e
  | [], _ :: _, h, _ => h.elim
  | _ :: _, [], h, _ => h.elim
theorem DR.isSome {G : Hp} {k : κ} {x : List (κ × α)} {q : List (κ × V)} (h : DR K x q G) : (valV q k).isSome = (dval x k).isSome := by
  cases e : dval x k with
  | none => rw [h.none e]; rfl
  | some y => obtain ⟨v, ev, _⟩ := h.some e; rw [ev]; rfl
theorem DR.repl {G : Hp} {k : κ} {y : α} {v : V} (r : Rp.rep K y v G) : ∀ {x : List (κ × α)} {q : List (κ × V)}, DR K x q G → DR K (x.map fun p => if p.1 = k then (p.1, y) else p) (q.map fun p => if p.1 = k then (p.1, v) else p) G
  | [], [], h => h
  | a :: x, b :: q, h => by
    rw [List.map_cons, List.map_cons]
    refine ⟨?_, ?_, DR.repl r h.2.2⟩
    · by_cases c : a.1 = k
      · rw [if_pos c, if_pos (h.1 ▸ c)]; exact h.1
      · rw [if_neg c, if_neg (h.1 ▸ c)]; exact h.1
    · by_cases c : a.1 = k
      · rw [if_pos c, if_pos (h.1 ▸ c)]; exact r
      · rw [if_neg c, if_neg (h.1 ▸ c)]; exact h.2.1
  | [], _ :: _, h => h.elim
  | _ :: _, [], h => h.elim
theorem DR.snoc {G : Hp} {k : κ} {y : α} {v : V} (r : Rp.rep K y v G) : ∀ {x : List (κ × α)} {q : List (κ × V)}, DR K x q G → DR K (x ++ [(k, y)]) (q ++ [(k, v)]) G
  | [], [], h => ⟨rfl, r, trivial⟩
  | a :: x, b :: q, h => ⟨h.1, h.2.1, DR.snoc r h.2.2⟩
  | [], _ :: _, h => h.elim
  | _ :: _, [], h => h.elim
theorem DR.put {G : Hp} {k : κ} {y : α} {v : V} {x : List (κ × α)} {q : List (κ × V)} (h : DR K x q G) (r : Rp.rep K y v G) : DR K (dput x k y) (putK q k v) G := by
  unfold dput putK
  rw [valV_any, h.isSome]
  split
  · exact h.repl r
  · exact h.snoc r
end
/-- a dict: its keys and values, in order -/
structure Dk (κ α : Type) where
  l : List (κ × α)
deriving DecidableEq
section
variable {κ α : Type} [DecidableEq κ] [Rp κ] [DKy κ] [Rp α]
/-- frozen: locked for good -/
def repD (K : Frag) (x : Dk κ α) (v : V) (G : Hp) : Prop := ∃ p q o, v = .ref p ∧ G p = some (.frz o (DKy.ho q)) ∧ DR K x.l q G ∧ x.l.length ≤ sizeLine
instance : Rp (Dk κ α) := ⟨repD, fun s ⟨p, q, o, e, h, a, l⟩ => ⟨p, q, o, e, s _ _ h, a.mono s, l⟩⟩
def ownD (K : Frag) (x : Dk κ α) (v : V) (f : List Addr) (W : Wd) : Prop := ∃ p q, v = .ref p ∧ f = [p] ∧ W.G p = none ∧ W.H p = some (DKy.ho q) ∧ DR K x.l q W.G ∧ x.l.length ≤ sizeLine
instance : Ob (Dk κ α) where
  own := ownD
  keep := fun {K x v f W W'} ⟨p, q, e, ef, g, h, a, l⟩ s n k => by
    subst ef
    exact ⟨p, q, e, rfl, n p (List.mem_singleton.mpr rfl), (k p (List.mem_singleton.mpr rfl)).trans h, a.mono s, l⟩
  foot := fun {K x v f W} ⟨p, q, e, ef, g, h, a, l⟩ b hb => by
    subst ef
    obtain rfl := List.mem_singleton.mp hb
    exact ⟨g, by rw [h]; exact fun z => nomatch z⟩
theorem rd_inc {H H' : Hp} {a : Addr} {u : HO} (s : Inc H H') (h : Rd H a u) : Rd H' a u := h.imp (fun h => s _ _ h) fun ⟨o, h⟩ => ⟨o, s _ _ h⟩
/-- a dict that may be read -/
def kDs (K : Frag) (x : Dk κ α) : Kd := ⟨fun _ v W => ∃ p q, v = .ref p ∧ Rd W.H p (DKy.ho q) ∧ DR K x.l q W.G ∧ x.l.length ≤ sizeLine,
  fun ⟨p, q, e, h, a, l⟩ z => ⟨p, q, e, rd_inc z.h h, a.mono z.g, l⟩, fun _ h => h⟩
variable {c : Cn} {W0 : Wd} {X : WX} {As : List Sl}
theorem own_ds {K : Frag} {x : Dk κ α} {v : V} {f : List Addr} {W A : Wd} (h : Ob.own K x v f W) : (kDs K x).p A v W := by
  obtain ⟨p, q, e, ef, g, h, a, l⟩ := h
  exact ⟨p, q, e, .inl h, a, l⟩
theorem e_varD {x : Dk κ α} {pin : Option V} (i : Nat) (h : As[i]? = some (.ow pin x) := by rfl) : Exp c W0 (tVar i) As (kDs c.K x) := fun σ W a W1 e Q q => by
  obtain ⟨v, f, ev, o, _⟩ := (a.mono e).varO h
  exact ⟨v, ev, q v W1 (Le.refl _) (own_ds o)⟩
/-! {} -/
theorem e_dnew {te : TE} (ht : te = fun _ H Q => ∀ p, H p = none → Q (.ref p) (upd H p (DKy.ho ([] : List (κ × V))))) : Exp c W0 te As (kNw c.K (Dk.mk ([] : List (κ × α)))) := fun σ W a W1 e Q q => by
  subst ht
  exact fun p hp => q _ (W1.no p _ hp (ho_mut _)) (Le.no hp) ⟨[p], ⟨p, [], rfl, rfl, W1.sub.nope hp, upd_same, trivial, Nat.zero_le _⟩, fun a ha => by rw [List.mem_singleton.mp ha]; exact hp⟩
/-! d[k], k in d -/
def rDNi : R2 := fun y x H Q => ∃ a o, x = .ref a ∧ DGet H a y o ∧ Q (.bl (!o.isSome)) H
theorem o_dni : Op2 rDNi (fun k : κ => kFr K k) (fun x : Dk κ α => kDs K x) (fun k x => .ok (!(dval x.l k).isSome)) (fun b : Bool => kFr K b) := fun k x W0 W w v hw ⟨p, q, ev, hp, d, l⟩ Q qq =>
  ⟨p, _, ev, DKy.get hw W.sub hp, qq _ W (Le.refl _) (show V.bl _ = V.bl _ by rw [d.isSome])⟩
/-! d.get(k, x), d.get(k) -/
theorem r_dget2 {td ty tx : TE} {m : R (Dk κ α)} {n : R κ} {o : R α} (h : Exr c W0 X td As m fun x => kDs c.K x) (hn : Exr c W0 X ty As n fun x => kFr c.K x) (ho : Exr c W0 X tx As o fun x => kFr c.K x) :
    Exr c W0 X (tDGet2 td ty tx) As (m.bind fun x => n.bind fun k => o.bind fun z => .ok ((dval x.l k).getD z)) fun x => kFr c.K x := fun σ W a => by
  have h1 := h σ W a
  have h2 := hn σ W a
  have h3 := ho σ W a
  cases m with
  | no => trivial
  | ex e => exact fun W1 e1 Q q => h1 W1 e1 _ q
  | ok x =>
    have isd : ∀ {A W : Wd} {v : V}, (kDs c.K x).p A v W → ∃ p, v = .ref p ∧ IsD W.H p := fun ⟨p, q, ev, hp, _, _⟩ => ⟨p, ev, DKy.isD hp⟩
    cases n with
    | no => trivial
    | ex e => exact fun W1 e1 Q q => h1 W1 e1 _ fun v W2 e2 p => (isd p).elim fun b hb => ⟨b, hb.1, hb.2, h2 W2 (e1.trans e2) _ fun cls d W3 e3 z => q cls d W3 (e2.trans e3) z⟩
    | ok k =>
      cases o with
      | no => trivial
      | ex e => exact fun W1 e1 Q q => h1 W1 e1 _ fun v W2 e2 p => (isd p).elim fun b hb => ⟨b, hb.1, hb.2, h2 W2 (e1.trans e2) _ fun w W3 e3 _ => h3 W3 (e1.trans (e2.trans e3)) _ fun cls d W4 e4 z => q cls d W4 (e2.trans (e3.trans e4)) z⟩
      | ok z =>
        refine fun W1 e1 Q q => h1 W1 e1 _ fun v W2 e2 pd => (isd pd).elim fun b hb => ⟨b, hb.1, hb.2, h2 W2 (e1.trans e2) _ fun w W3 e3 pk => h3 W3 (e1.trans (e2.trans e3)) _ fun u W4 e4 pz => ?_⟩
        obtain ⟨p, qs, ev, hp, d, l⟩ := (kDs c.K x).up pd (e3.trans e4)
        obtain rfl : p = b := by rw [hb.1] at ev; injection ev with ev; exact ev.symm
        refine ⟨valV qs k, DKy.get (Rp.mono e4.g pk) W4.sub hp, q _ W4 (e2.trans (e3.trans e4)) ?_⟩
        cases hv : dval x.l k with
        | none => rw [d.none hv]; exact pz
        | some y => obtain ⟨t, et, rt⟩ := d.some hv; rw [et]; exact rt
/-! d[k] = v -/
@[irreducible] def R.dput (x : Dk κ α) (k : κ) (a : α) : R (Dk κ α) := if x.l.length < sizeLine then .ok ⟨Fw.dput x.l k a⟩ else .no
variable {J S ρ : Type} {kr : ρ → Kd} {Ls : List Sl} {Js : J → List Sl} {B : Bd} {Bs : S → List Sl}
theorem d_dput {pin : Option V} {te ti : TE} {u : TS} {xs : Dk κ α} {m : R α} {n : R κ} {k : Dk κ α → Out S J ρ} (i : Nat) (hi : As[i]? = some (.ow pin xs)) (lx : Lx Ls As) (h : Exr c B.W0 X te As m fun x => kFr c.K x) (hn : Exr c B.W0 X ti As n fun x => kFr c.K x)
    (hk : ∀ ys : Dk κ α, Den c X kr Ls Js B u (As.set i (.ow pin ys)) (k ys) Bs) :
    Den c X kr Ls Js B (tSeq (sDPut (tVar i) ti te) u) As (m.to fun y => n.to fun j => (R.dput xs j y).to k) Bs := fun D σ W a f => by
  have h' := h σ W a
  have hn' := hn σ W a
  cases m with
  | no => exact False.elim f
  | ex e => exact h' W (Le.refl _) _ fun cls d W2 e2 z => f cls d σ W2 (lx_at lx (a.mono e2)) z
  | ok y =>
    refine h' W (Le.refl _) _ fun v W1 e1 r => ?_
    obtain ⟨w, fp, hw, rw_, _⟩ := (a.mono e1).chg (β := Dk κ α) (y := xs) hi
    refine ⟨w, hw, ?_⟩
    cases n with
    | no => exact False.elim f
    | ex e => exact hn' W1 e1 _ fun cls d W2 e2 z => f cls d σ W2 (lx_at lx (a.mono (e1.trans e2))) z
    | ok j =>
      refine hn' W1 e1 _ fun jv W2 e2 rj => ?_
      obtain ⟨w', fp', hw', rw', n0', chg'⟩ := (a.mono (e1.trans e2)).chg (β := Dk κ α) (y := ⟨Fw.dput xs.l j y⟩) hi
      rw [hw] at hw'
      cases hw'
      obtain ⟨p, q, ep, ef, g, hh, d, l⟩ := rw'
      subst ep ef
      have f' : Fin c X kr Ls Js B Bs D (R.to (if xs.l.length < sizeLine then R.ok ⟨Fw.dput xs.l j y⟩ else .no) k) := by
        have f2 : Fin c X kr Ls Js B Bs D ((R.dput xs j y).to k) := f
        unfold R.dput at f2
        exact f2
      by_cases cz : xs.l.length < sizeLine
      · rw [if_pos cz] at f'
        refine ⟨p, _, rfl, DKy.put (v := v) rj W2.sub hh (by rw [← d.len]; exact cz), ?_⟩
        have a3 := chg' (W2.mt p (DKy.ho (putK q j v)) g (ho_mut _)) [p] (Inc.refl _) (fun b _ hb _ => hb) (fun b hb n => mut_keep g b hb n) ⟨p, _, rfl, rfl, g, upd_same, d.put (Rp.mono e2.g r), Nat.le_trans (dput_len _ _ _) cz⟩ (fun b hb => .inl hb)
        exact hk _ D _ _ a3 f'
      · rw [if_neg cz] at f'
        exact False.elim f'
end
/-! ### tuples of ints for keys -/
section
variable {c : Cn} {W0 : Wd} {X : WX} {As : List Sl} {K : Frag}
end
end Fw

namespace Fw
open PySem L2
section
open PySem.Spec PyProof.Rows
variable {prog : Program} {w : World} {A : Around} {E : Value → Shared → Prop}
end
section
open PySem.Spec PyProof.Rows
variable {X : Cx}
end
/-! ### a tuple known to have no dict of its own -/
structure TZ (α : Type) where
  l : List α
deriving DecidableEq
section
variable {α : Type} [Rp α] {c : Cn} {W0 : Wd} {X : WX} {As : List Sl} {K : Frag}
instance : Rp (TZ α) := ⟨fun K x v G => ∃ p o vs, v = .ref p ∧ G p = some (.frz o (.tup vs)) ∧ o.cls = .type "tuple" ∧ o.dict = none ∧ Al (fun x v => Rp.rep K x v G) x.l vs ∧ x.l.length ≤ sizeLine, fun s ⟨p, o, vs, e, h, h1, h2, a, l⟩ => ⟨p, o, vs, e, s _ _ h, h1, h2, a.imp fun _ _ r => Rp.mono s r, l⟩⟩
theorem tz_tup {x : TZ α} {v : V} {G : Hp} (h : Rp.rep K x v G) : Rp.rep K (Tup.mk x.l) v G := by
  obtain ⟨p, o, vs, e, h, h1, h2, a, l⟩ := h
  exact ⟨p, vs, e, .inl (.inr ⟨o, h⟩), a, l⟩
end
end Fw

namespace Fw
open PySem L2
section
variable {α : Type} [Rp α]
instance : Pt (TZ α) := ⟨"tuple", fun h => Pt.is (tz_tup h)⟩
instance [Pd α] : Pd (TZ α) := ⟨fun x => Pd.pd (Tup.mk x.l), fun h => Pd.dp (tz_tup h), Pd.n (Tup α), fun h => Pd.dep (tz_tup h), fun h => Pd.lay (tz_tup h), fun x y => by
  rw [Pd.eq]; cases x; cases y; simp⟩
instance : NN (TZ α) := ⟨fun h => NN.nn (tz_tup h)⟩
instance [Pd α] : Apart Str (TZ α) := ⟨fun _ _ => by simp [Pd.pd, PyData.eqv], fun _ _ => by simp [Pd.pd, PyData.eqv]⟩
instance : Pt TK := ⟨"tuple", fun h => Pt.is (tk_tup h)⟩
instance : Pd TK := ⟨fun x => Pd.pd (Tup.mk x.l), fun h => Pd.dp (tk_tup h), Pd.n (Tup Int), fun h => Pd.dep (tk_tup h), fun h => Pd.lay (tk_tup h), fun x y => by
  rw [Pd.eq]; cases x; cases y; simp⟩
instance : NN TK := ⟨fun h => NN.nn (tk_tup h)⟩
end
section
variable {X : Cx} {o i e f : Expr} {pos apos cpos : Pos} {td ty tx : TE}
theorem hu1 {A : Around} {k : Nat} (hr : Room k A) : A.units + 1 < cLine := by have := hr.un; omega
theorem pc_dniO (hu : X.A.units + 1 < cLine) (hi : PE X i ty) (ho : PE X o td) : PC X .NotIn i o (tOp rDNi ty td) := pc_dnotin hu hi ho
theorem pe_dget2O (hu : X.A.units + 1 < cLine) (ho : PE X o td) (he : PE X e ty) (hf : PE X f tx) (h1 : attributeBase o "get" X.env (eval o X.env) = eval o X.env := by rfl)
    (h2 : ((backTo cpos (starEach [e, f] X.env)).all (fun x => !x.1) && (backToKw cpos (keywordEach [] X.env)).all (fun x => x.1.isSome)
    && decide (([e, f] : List Expr).length + ([] : List Keyword).length + (if ([] : List Keyword).isEmpty then 0 else 1) < 30)) = true := by rfl) (h3 : (apos.endLine == cpos.line) = true := by rfl)
    (h4 : backTo cpos (starEach [e, f] X.env) = [(false, eval e X.env), (false, eval f X.env)] := by rfl) : PE X (.Call (.Attribute o "get" apos) [e, f] [] cpos) (tDGet2 td ty tx) := pe_dget2 hu ho he hf ⟨h1, h2, h3, h4⟩
end
end Fw

namespace Fw
open PySem L2
section
variable {α : Type} [Rp α] {c : Cn} {W0 : Wd} {X : WX} {As : List Sl} {K : Frag}
/-! ### a list none of whose items is None -/
/-! ### == of None or a thing -/
class AN (α : Type) [Rp α] [Pd α] where
  l : ∀ a : α, PyData.eqv .none (Pd.pd a) = false
  r : ∀ a : α, PyData.eqv (Pd.pd a) .none = false
instance : AN Int := ⟨fun _ => by simp [Pd.pd, PyData.eqv], fun _ => by simp [Pd.pd, PyData.eqv]⟩
instance : AN Str := ⟨fun _ => by simp [Pd.pd, PyData.eqv], fun _ => by simp [Pd.pd, PyData.eqv]⟩
instance : AN Bool := ⟨fun _ => by simp [Pd.pd, PyData.eqv], fun _ => by simp [Pd.pd, PyData.eqv]⟩
instance [Pd α] : AN (List α) := ⟨fun _ => by simp [Pd.pd, PyData.eqv], fun _ => by simp [Pd.pd, PyData.eqv]⟩
instance {β : Type} [Rp β] [Pd α] [Pd β] : AN (α × β) := ⟨fun _ => by simp [Pd.pd, PyData.eqv], fun _ => by simp [Pd.pd, PyData.eqv]⟩
instance {β γ : Type} [Rp β] [Rp γ] [Pd α] [Pd β] [Pd γ] : AN (T3 α β γ) := ⟨fun _ => by simp [Pd.pd, PyData.eqv], fun _ => by simp [Pd.pd, PyData.eqv]⟩
instance {β γ δ : Type} [Rp β] [Rp γ] [Rp δ] [Pd α] [Pd β] [Pd γ] [Pd δ] : AN (T4 α β γ δ) := ⟨fun _ => by simp [Pd.pd, PyData.eqv], fun _ => by simp [Pd.pd, PyData.eqv]⟩
instance [Pd α] [AN α] : Pd (Option α) where
  pd x := match x with
    | none => .none
    | some a => Pd.pd a
  dp := fun {K x v G} h => by
    cases x with
    | none => have h' : v = .non := h; subst h'; exact .non
    | some a => exact Pd.dp (α := α) h.2
  n := Pd.n α
  dep := fun {K x v G} h => by
    cases x with
    | none => simp [PyData.depth]
    | some a => exact Pd.dep (α := α) h.2
  lay := fun {K x v G} h => by
    cases x with
    | none => simp [PyData.canLay0]
    | some a => exact Pd.lay (α := α) h.2
  eq x y := by
    cases x with
    | none =>
      cases y with
      | none => simp [PyData.eqv]
      | some b => simp [AN.l]
    | some a =>
      cases y with
      | none => simp [AN.r]
      | some b => simp [Pd.eq]
/-! ### x in a tuple of flat things -/
class Fl (α : Type) [Rp α] extends Eqs α where
  fl : ∀ x : α, flatV (Eqs.v x) = true
  dec : [DecidableEq α] → ∀ x y : α, eqV (Eqs.v y) (Eqs.v x) = decide (x = y)
instance : Fl Str := ⟨fun _ => rfl, fun x y => by
  simp only [Eqs.v, eqV]
  rw [Bool.eq_iff_iff]
  exact ⟨fun h => decide_eq_true (eq_of_beq h).symm, fun h => by have e := of_decide_eq_true h; subst e; simp⟩⟩
instance : Fl Int := ⟨fun _ => rfl, fun x y => by
  simp only [Eqs.v, eqV]
  rw [Bool.eq_iff_iff]
  exact ⟨fun h => decide_eq_true (eq_of_beq h).symm, fun h => by have e := of_decide_eq_true h; subst e; simp⟩⟩
variable [DecidableEq α] [Fl α]
theorem inV_fl (x : α) : ∀ ys : List α, inV (Eqs.v x) (ys.map Eqs.v) = decide (x ∈ ys)
  | [] => by simp [inV]
  | y :: ys => by
    have ih := inV_fl x ys
    unfold inV at ih ⊢
    rw [List.map_cons, List.any_cons, ih, Fl.dec]
    by_cases h : x = y
    · subst h; simp
    · simp [h]
theorem fl_all (xs : List α) : (xs.map Eqs.v).all flatV = true := by
  rw [List.all_map]
  exact List.all_eq_true.mpr fun x _ => Fl.fl x
theorem o_ninP : Op2 (rIn K true) (fun x : α => kFr K x) (fun y : α × α => kFr K y) (fun x y => .ok (!memB x [y.1, y.2])) (fun b : Bool => kFr K b) := fun x y W0 W v w hv ⟨p, a, b, ew, hs, ra, rb⟩ Q q => by
  have h1 : v = Eqs.v x := Eqs.rv hv
  have h2 : a = Eqs.v y.1 := Eqs.rv ra
  have h3 : b = Eqs.v y.2 := Eqs.rv rb
  subst h1 h2 h3
  exact ⟨p, _, ew, .inr (W.sub.sqt hs), Fl.fl x, fl_all [y.1, y.2], q _ W (Le.refl _) (by rw [if_pos rfl]; show V.bl (!inV _ ([y.1, y.2].map Eqs.v)) = _; rw [inV_fl]; rfl)⟩
end
end Fw

namespace Fw
open PySem L2
/-! ### what is owned, looked at as frozen, where only a scalar comes out -/
inductive FzW : List Sl → List Sl → Prop
  | nil : FzW [] []
  | un {As Bs : List Sl} : FzW As Bs → FzW (.un :: As) (.un :: Bs)
  | fr {α : Type} [Rp α] {x : α} {As Bs : List Sl} : FzW As Bs → FzW (.fr x :: As) (.fr x :: Bs)
  | ow {α : Type} [Fz α] {pin : Option V} {x : α} {As Bs : List Sl} : FzW As Bs → FzW (.ow pin x :: As) (.fr x :: Bs)
theorem FzW.len {As Bs : List Sl} (h : FzW As Bs) : As.length = Bs.length := by
  induction h with
  | nil => rfl
  | un _ ih => exact congrArg (· + 1) ih
  | fr _ ih => exact congrArg (· + 1) ih
  | ow _ ih => exact congrArg (· + 1) ih
theorem FzW.at {K : Frag} {W : Wd} {As Bs : List Sl} (h : FzW As Bs) : ∀ {σ : St}, (∀ (i : Nat) A o, As[i]? = some A → σ[i]? = some o → ∃ f, Hd K A o W f) → ∀ (i : Nat) B o, Bs[i]? = some B → σ[i]? = some o → Hd K B o (.all W.H) [] := by
  induction h with
  | nil => intro σ _ i B o e; simp at e
  | @un As Bs _ ih =>
    intro σ hh i B o e1 e2
    cases σ with
    | nil => simp at e2
    | cons s σ =>
      cases i with
      | zero => cases e1; trivial
      | succ i => exact ih (σ := σ) (fun j A o a b => hh (j + 1) A o a b) i B o e1 e2
  | @fr α _ x As Bs _ ih =>
    intro σ hh i B o e1 e2
    cases σ with
    | nil => simp at e2
    | cons s σ =>
      cases i with
      | zero =>
        cases e1
        obtain ⟨f, v, e, r⟩ := hh 0 _ o rfl e2
        exact ⟨v, e, Rp.mono W.sub r⟩
      | succ i => exact ih (σ := σ) (fun j A o a b => hh (j + 1) A o a b) i B o e1 e2
  | @ow α _ pin x As Bs _ ih =>
    intro σ hh i B o e1 e2
    cases σ with
    | nil => simp at e2
    | cons s σ =>
      cases i with
      | zero =>
        cases e1
        obtain ⟨f, v, e, r, _⟩ := hh 0 _ o rfl e2
        exact ⟨v, e, own_bw (A := W) r⟩
      | succ i => exact ih (σ := σ) (fun j A o a b => hh (j + 1) A o a b) i B o e1 e2
section
variable {c : Cn} {W0 : Wd} {X : WX} {As Bs : List Sl} {ρ : Type}
end
/-! ### a list of lists, all its own -/
structure DL (α : Type) where
  l : List (List α)
deriving DecidableEq
section
variable {α : Type} [Rp α] {K : Frag}
def DRow (K : Frag) (xs : List α) (q : Addr) (W : Wd) : Prop := W.G q = none ∧ ∃ vs, W.H q = some (.lst vs) ∧ Al (fun x v => Rp.rep K x v W.G) xs vs ∧ xs.length ≤ sizeLine
def DRows (K : Frag) : List (List α) → List Addr → Wd → Prop
  | [], [], _ => True
  | xs :: r, q :: qs, W => DRow K xs q W ∧ DRows K r qs W
  | _, _, _ => False
theorem DRow.keep {W W' : Wd} {xs : List α} {q : Addr} (h : DRow K xs q W) (s : Inc W.G W'.G) (n : W'.G q = none) (k : W'.H q = W.H q) : DRow K xs q W' := by
  obtain ⟨g, vs, hh, al, l⟩ := h
  exact ⟨n, vs, k.trans hh, al.imp fun _ _ r => Rp.mono s r, l⟩
theorem DRows.keep {W W' : Wd} : ∀ {xs : List (List α)} {qs : List Addr}, DRows K xs qs W → Inc W.G W'.G → (∀ q ∈ qs, W'.G q = none) → (∀ q ∈ qs, W'.H q = W.H q) → DRows K xs qs W'
  | [], [], _, _, _, _ => trivial
  | x :: xs, q :: qs, h, s, n, k => ⟨h.1.keep s (n q (by simp)) (k q (by simp)), DRows.keep h.2 s (fun b hb => n b (List.mem_cons_of_mem _ hb)) fun b hb => k b (List.mem_cons_of_mem _ hb)⟩
  | [], _ :: _, h, _, _, _ => h.elim
  | _ :: _, [], h, _, _, _ => h.elim
theorem DRows.len {W : Wd} : ∀ {xs : List (List α)} {qs : List Addr}, DRows K xs qs W → xs.length = qs.length
  | [], [], _ => rfl
  | x :: xs, q :: qs, h => by rw [List.length_cons, List.length_cons, h.2.len]
  | [], _ :: _, h => h.elim
  | _ :: _, [], h => h.elim
theorem DRows.foot {W : Wd} : ∀ {xs : List (List α)} {qs : List Addr}, DRows K xs qs W → ∀ q ∈ qs, W.G q = none ∧ W.H q ≠ none
  | [], [], _, q, hq => by cases hq
  | x :: xs, b :: qs, h, q, hq => by
    rcases List.mem_cons.mp hq with e | hq
    · subst e
      obtain ⟨g, vs, hh, _⟩ := h.1
      exact ⟨g, by rw [hh]; exact fun z => nomatch z⟩
    · exact h.2.foot q hq
  | [], _ :: _, h, _, _ => h.elim
  | _ :: _, [], h, _, _ => h.elim
theorem DRows.snoc {W : Wd} {y : List α} {b : Addr} (r : DRow K y b W) : ∀ {xs : List (List α)} {qs : List Addr}, DRows K xs qs W → DRows K (xs ++ [y]) (qs ++ [b]) W
  | [], [], _ => ⟨r, trivial⟩
  | x :: xs, q :: qs, h => ⟨h.1, DRows.snoc r h.2⟩
  | [], _ :: _, h => h.elim
  | _ :: _, [], h => h.elim
theorem DRows.get {W : Wd} : ∀ {xs : List (List α)} {qs : List Addr} {i : Nat} {x : List α}, DRows K xs qs W → xs[i]? = some x → ∃ q, qs[i]? = some q ∧ DRow K x q W
  | x :: xs, q :: qs, 0, y, h, e => by cases e; exact ⟨q, rfl, h.1⟩
  | x :: xs, q :: qs, i + 1, y, h, e => DRows.get (i := i) h.2 e
  | [], [], i, y, h, e => by simp at e
  | [], _ :: _, _, _, h, _ => h.elim
  | _ :: _, [], _, _, h, _ => h.elim
/-- one row is another one now, the others as they were -/
theorem DRows.put {W W' : Wd} {y : List α} {b : Addr} (r : DRow K y b W') (s : Inc W.G W'.G) (hk : ∀ q, q ≠ b → W.G q = none → W.H q ≠ none → W'.G q = none ∧ W'.H q = W.H q) : ∀ {xs : List (List α)} {qs : List Addr} {i : Nat}, DRows K xs qs W → qs[i]? = some b → qs.Nodup → DRows K (xs.set i y) qs W'
  | x :: xs, q :: qs, 0, h, e, nd => by
    cases e
    refine ⟨r, h.2.keep s (fun c hc => ?_) fun c hc => ?_⟩
    · exact (hk c (fun z => by rw [z] at hc; exact (List.nodup_cons.mp nd).1 hc) (h.2.foot c hc).1 (h.2.foot c hc).2).1
    · exact (hk c (fun z => by rw [z] at hc; exact (List.nodup_cons.mp nd).1 hc) (h.2.foot c hc).1 (h.2.foot c hc).2).2
  | x :: xs, q :: qs, i + 1, h, e, nd => by
    have hq : q ≠ b := fun z => by
      subst z
      exact (List.nodup_cons.mp nd).1 (List.mem_of_getElem? (i := i) e)
    have f : W.G q = none ∧ W.H q ≠ none := (show DRows K (x :: xs) (q :: qs) W from h).foot q (by simp)
    exact ⟨h.1.keep s (hk q hq f.1 f.2).1 (hk q hq f.1 f.2).2, DRows.put (i := i) r s hk h.2 e (List.nodup_cons.mp nd).2⟩
  | [], [], _, _, e, _ => by simp at e
  | [], _ :: _, _, h, _, _ => h.elim
  | _ :: _, [], _, h, _, _ => h.elim
theorem DRows.rep {W : Wd} {G : Hp} (s : Inc W.G G) : ∀ {xs : List (List α)} {qs : List Addr}, DRows K xs qs W → (∀ q ∈ qs, G q = W.H q) → Al (fun x v => Rp.rep K x v G) xs (qs.map V.ref)
  | [], [], _, _ => Al.nil
  | x :: xs, q :: qs, h, k => by
    obtain ⟨g, vs, hh, al, l⟩ := h.1
    exact (DRows.rep s h.2 fun b hb => k b (List.mem_cons_of_mem _ hb)).cons ⟨q, vs, rfl, (k q (by simp)).trans hh, al.imp fun _ _ r => Rp.mono s r, l⟩
  | [], _ :: _, h, _ => h.elim
  | _ :: _, [], h, _ => h.elim
instance : Rp (DL α) := ⟨fun K x v G => Rp.rep K x.l v G, fun s h => Rp.mono s h⟩
def ownDL (K : Frag) (x : DL α) (v : V) (f : List Addr) (W : Wd) : Prop := ∃ p qs, v = .ref p ∧ f = p :: qs ∧ (p :: qs).Nodup ∧ W.G p = none ∧ W.H p = some (.lst (qs.map V.ref)) ∧ DRows K x.l qs W ∧ x.l.length ≤ sizeLine
instance : Fz (DL α) where
  own := ownDL
  keep := fun {K x v f W W'} ⟨p, qs, e, ef, nd, g, h, r, l⟩ s n k => by
    subst ef
    exact ⟨p, qs, e, rfl, nd, n p (by simp), (k p (by simp)).trans h, r.keep s (fun q hq => n q (List.mem_cons_of_mem _ hq)) fun q hq => k q (List.mem_cons_of_mem _ hq), l⟩
  foot := fun {K x v f W} ⟨p, qs, e, ef, nd, g, h, r, l⟩ b hb => by
    subst ef
    rcases List.mem_cons.mp hb with z | hb
    · subst z
      exact ⟨g, by rw [h]; exact fun z => nomatch z⟩
    · exact r.foot b hb
  fz := fun {K x v f W} ⟨p, qs, e, ef, nd, g, h, r, l⟩ => by
    subst ef
    exact ⟨p, _, e, (Wd.fz_in (by simp)).trans h, r.rep Wd.fz_sub fun q hq => Wd.fz_in (List.mem_cons_of_mem _ hq), l⟩
variable {c : Cn} {W0 : Wd} {X : WX} {As : List Sl}
variable {J S ρ : Type} {kr : ρ → Kd} {Ls : List Sl} {Js : J → List Sl} {B : Bd} {Bs : S → List Sl}
end
/-! ### an owned thing goes into another one -/
section
variable {K : Frag} {W0 W W' : Wd} {As : List Sl} {σ : St} {i j : Nat}
end
section
variable {α : Type} [Rp α] {c : Cn} {W0 : Wd} {X : WX} {As : List Sl}
variable {J S ρ : Type} {kr : ρ → Kd} {Ls : List Sl} {Js : J → List Sl} {B : Bd} {Bs : S → List Sl}
end
end Fw

namespace Fw
open PySem L2
section
variable {K : Frag} {W0 W : Wd} {As : List Sl} {σ : St} {i : Nat}
theorem At.repin {α : Type} [Ob α] {x : α} {pin pin' : Option V} {v : V} (h : At K W0 As σ W) (hi : As[i]? = some (.ow pin x)) (hv : σ[i]? = some (some v)) (hp : ∀ u, pin' = some u → v = u) : At K W0 (As.set i (.ow pin' x)) σ W := by
  obtain ⟨l, le, F, h1, h2, h3⟩ := h
  refine ⟨by simp [l], le, F, fun j B o a b => ?_, h2, h3⟩
  by_cases q : i = j
  · subst q
    rw [get_set_eq a]
    obtain ⟨w, e, r, _⟩ := h1 i _ o hi b
    rw [hv] at b
    cases b
    cases e
    exact ⟨v, rfl, r, hp⟩
  · rw [get_set_ne q] at a
    exact h1 j B o a b
end
section
variable {J S T ρ α : Type} {c : Cn} {X : WX} {kr : ρ → Kd} {Ls : List Sl} {Js : J → List Sl} {B : Bd} {As : List Sl} {Cs : T → List Sl} {Bs' : S → List Sl}
theorem d_unpin {β : Type} [Ob β] {pin : Option V} {x : β} {t : TS} {m : Out S J ρ} (i : Nat) (hi : As[i]? = some (.ow pin x)) (h : Den c X kr Ls Js B t (As.set i (.ow none x)) m Bs') : Den c X kr Ls Js B t As m Bs' := fun D σ W a f => by
  obtain ⟨v, fp, hv, _⟩ := a.varO hi
  exact h D σ W (a.repin hi hv fun u e => nomatch e) f
/-- for x in xs, xs one's own and left as it is -/
theorem d_forO [Rp α] {pin : Option V} {xs : List α} {g : TG} {tb u : TS} {s0 : S} {Bs : V → S → List Sl} {Ts : V → S → α → List Sl} {f : S → α → Out S S ρ} {kk : S → Out T J ρ} (i : Nat) (hi : As[i]? = some (.ow pin xs)) (hB : ∀ v s, (Bs v s)[i]? = some (.ow (some v) xs)) (w : ∀ v, Wk (As.set i (.ow (some v) xs)) (Bs v s0))
    (hg : ∀ v s (W1 : Wd), Tg c W1 g (Bs v s) (fun x : α => kFr c.K x) (Ts v s)) (hb : ∀ v s x B', Den c X kr Ls (Bs v) B' tb (Ts v s x) (f s x) (Bs v)) (hk : ∀ v s, Den c X kr Ls Js B u (Bs v s) (kk s) Cs) :
    Den c X kr Ls Js B (tSeq (tFor (iList c.K (tVar i)) g tb) u) As ((R.ok xs).to fun l => (forL l s0 f).bind kk) Cs := fun D σ W a fn => by
  obtain ⟨v, fp, hv, ⟨p, vs, ev, ef, gp, hp, al, l⟩, _⟩ := a.varO hi
  have ap : At c.K B.W0 (As.set i (.ow (some v) xs)) σ W := a.repin hi hv fun u e => (Option.some.inj e)
  have a2 : At c.K B.W0 (Bs v s0) σ W := ap.wk (w v)
  let Wb := B.W0.rb W a2.le
  have eb : Le B.W0 Wb := Le.rb0 a2.le
  have fin0 : Fin c X kr Ls Js B (Bs v) { D with nx := u D } (forL xs s0 f) := by
    have fn' : Fin c X kr Ls Js B Cs D ((forL xs s0 f).bind kk) := fn
    revert fn'
    generalize (forL xs s0 f : Out S J ρ) = o
    intro fn'
    cases o with
    | nx s => exact fun σ' W' a' => hk v s D σ' W' a' fn'
    | _ => exact fn'
  subst ev
  refine ⟨.ref p, hv, p, rfl, ⟨vs, .inl (.inl hp)⟩, ?_⟩
  refine ⟨fun i n σ H => ∃ (Wd' : Wd) (s : S), H = Wd'.H ∧ At c.K Wb (Bs (.ref p) s) σ Wd' ∧ n = xs.length - i ∧ i ≤ xs.length ∧ Fin c X kr Ls Js B (Bs (.ref p)) { D with nx := u D } (forL (xs.drop i) s f), ⟨xs.length, W, s0, rfl, a2.rb, by simp, Nat.zero_le _, fin0⟩, ?_⟩
  rintro j n σ H ⟨Wi, s, rfl, ai, rfl, il, fi⟩
  obtain ⟨v', fp', hv', ⟨p', vs', ev', ef', gp', hp', al', l'⟩, pn'⟩ := ai.varO (hB (.ref p) s)
  have e1 := pn'.1 _ rfl
  rw [ev'] at e1
  cases e1
  have hs : SqL c.K Wi.H p vs' := .inl (.inl hp')
  by_cases ci : j = xs.length
  · refine .inl ⟨⟨vs', hs, by rw [← al'.1]; omega⟩, ?_⟩
    rw [ci, List.drop_length] at fi
    exact fi σ Wi (ai.re eb)
  · have hx : xs[j]? = some (xs[j]'(by omega)) := List.getElem?_eq_getElem (by omega)
    obtain ⟨y, hy, ry⟩ := al'.get hx
    rw [drop_cons hx] at fi
    refine .inr ⟨⟨vs', y, hs, hy⟩, fun σ' H' => ∃ (Wd' : Wd) (s : S), H' = Wd'.H ∧ At c.K Wb (Bs (.ref p) s) σ' Wd' ∧ Fin c X kr Ls Js B (Bs (.ref p)) { D with nx := u D } (forL (xs.drop (j + 1)) s f), fun σ' H' ⟨W', s', e1, e2', e3⟩ => ⟨xs.length - (j + 1), by omega, W', s', e1, e2', rfl, by omega, e3⟩, fun v2 H' ⟨eh, kv⟩ => ?_⟩
    subst eh
    have e5 := kv vs' hs
    rw [hy] at e5
    cases e5
    refine hg _ s Wb _ σ Wi Wi y ai ry _ fun σ2 a2' => ?_
    refine hb _ s _ (B.re Wb eb) _ σ2 Wi a2' ?_
    have fi' : Fin c X kr Ls Js B (Bs (.ref p)) { D with nx := u D } (match f s (xs[j]'(by omega)) with
      | .nx s' => forL (xs.drop (j + 1)) s' f
      | .ct s' => forL (xs.drop (j + 1)) s' f
      | .bk s' => .nx s'
      | .rt r => .rt r
      | .ex e => .ex e
      | .no => .no) := fi
    revert fi'
    generalize f s (xs[j]'(by omega)) = o
    intro fi'
    cases o with
    | nx s' => exact fun σ3 W3 a3 => ⟨W3, s', rfl, a3, fi'⟩
    | ct s' => exact fun σ3 W3 a3 => ⟨W3, s', rfl, a3, fi'⟩
    | bk s' => exact fun σ3 W3 a3 => fi' σ3 W3 (a3.re eb)
    | rt r => exact fun v W3 l p => fi' v W3 (eb.trans l) p
    | ex e => exact fi'
    | no => exact fi'
end
end Fw

namespace Fw
open PySem L2
section
variable {X : Cx} {o e : Expr} {to te : TE}
end
end Fw

namespace Fw
open PySem L2
section
variable {α : Type} [Rp α] {c : Cn} {W0 : Wd} {X : WX} {As : List Sl} {K : Frag}
/-! ### t[a:b] of a tuple -/
/-! ### t + u -/
/-! ### tuple(range(n)) -/
/-! ### reversed(range(n)) -/
end
section
variable {c : Cn} {W0 : Wd} {X : WX} {As : List Sl} {K : Frag}
/-! ### range(a, b, d), d written, above 0 -/
end
end Fw

namespace Fw
open PySem L2
section
variable {K : Frag}
/-! ### great ints -/
instance : DecidableRel CDivW := fun i j => inferInstanceAs (Decidable (_ ∧ _))
instance : DecidableRel CMulW := fun i j => inferInstanceAs (Decidable (_ < _))
end
end Fw

namespace Fw
open PySem L2
section
variable {c : Cn} {W0 : Wd} {X : WX} {As : List Sl} {K : Frag}
/-! ### range(a, b, d) -/
/-! ### {k: v, ..}, the keys ints -/
end
/-! ### lengths of tuples of three and four -/
section
variable {K : Frag} {α β γ δ : Type} [Rp α] [Rp β] [Rp γ] [Rp δ]
theorem o_len3 : OpA (rLen K) (fun z : T3 α β γ × Unit => aCons (kFr K z.1) aNil) (fun z => .ok (3 : Int)) (fun n : Int => kFr K n) := fun z W0 W vs ⟨v, r, e, ⟨p, x1, x2, x3, ev, hs, _⟩, en⟩ Q q => by
  subst e ev en
  exact ⟨p, [x1, x2, x3], rfl, .inr (W.sub.sqt hs), q _ W (Le.refl _) rfl⟩
theorem o_len4 : OpA (rLen K) (fun z : T4 α β γ δ × Unit => aCons (kFr K z.1) aNil) (fun z => .ok (4 : Int)) (fun n : Int => kFr K n) := fun z W0 W vs ⟨v, r, e, ⟨p, x1, x2, x3, x4, ev, hs, _⟩, en⟩ Q q => by
  subst e ev en
  exact ⟨p, [x1, x2, x3, x4], rfl, .inr (W.sub.sqt hs), q _ W (Le.refl _) rfl⟩
theorem o_len2 : OpA (rLen K) (fun z : (α × β) × Unit => aCons (kFr K z.1) aNil) (fun z => .ok (2 : Int)) (fun n : Int => kFr K n) := fun z W0 W vs ⟨v, r, e, ⟨p, x1, x2, ev, hs, _⟩, en⟩ Q q => by
  subst e ev en
  exact ⟨p, [x1, x2], rfl, .inr (W.sub.sqt hs), q _ W (Le.refl _) rfl⟩
end
end Fw

namespace Fw
open PySem L2 PySem.Spec
open PyProof.Rows hiding St
/-! ### a caught exception that is kept -/
def exN (a C : Addr) (d : Option Addr) : HO := .ext fun h => ∃ (oe : Obj) (vs : Array Value), h.get? a = some oe ∧ oe.cls = .ref C ∧ oe.dict = d ∧ oe.data = .fields vs
section
variable {X : Cx} {pins : List (Addr × Obj)} {σ : St} {H : Hp} {sI s s' : Shared} {B : Heap} {W : WX} {E : XK}
end
section
variable {X : Cx} {x n : Str} {c : Value} {i : Nat} {body suite : List Stmt} {b₀ : Stmt} {np pos pos' : Pos} {tb : WX → TS} {ts : TS}
end
/-! ### isinstance of a kept exception, its fields -/
section
variable {prog : Program} {w : World} {A : Around} {E : Value → Shared → Prop} {s : Shared} {K : Frag} {x D : Addr} {ox : Obj} {od : Option Obj}
open PySem.W PySem.Calls
end
/-! ### __init__ of an own class: B.__init__(self, ..), self.f = x -/
end Fw

namespace Fw
open PySem L2
/-! ### exceptions of own classes -/
/-- the value of a name at the top -/
def mK (K : Frag) : Str → Value := fun n => match PySem.W.nsIn K mainGlobals n with
  | some (some v) => v
  | _ => .none
theorem ExD.mono {fs : List (Str × V)} {d : Option Addr} {G H : Hp} (s : Inc G H) (h : ExD fs d G) : ExD fs d H := by
  cases fs with
  | nil => exact h
  | cons p r =>
    obtain ⟨a, e, g⟩ := h
    exact ⟨a, e, s _ _ g⟩
instance : Rp Exc := ⟨fun K e v G => ∃ a C d, v = .ref a ∧ PySem.W.nsIn K mainGlobals e.cls = some (some (.ref C)) ∧ G a = some (exN a C d) ∧ ExD e.fs d G ∧ ∀ p ∈ e.fs, VOk p.2,
  fun s ⟨a, C, d, h1, h2, h3, h4, h5⟩ => ⟨a, C, d, h1, h2, s _ _ h3, h4.mono s, h5⟩⟩
/-- what may be a field -/
class Sv (α : Type) [Rp α] where
  toV : α → V
  ofV : V → R α
  rep : ∀ {K : Frag} {x : α} {v : V} {G : Hp}, Rp.rep K x v G → v = toV x ∧ VOk v
  back : ∀ {K : Frag} {x : α} {v : V} {G : Hp}, ofV v = .ok x → VOk v → Rp.rep K x v G
  nex : ∀ {v : V} {e : Exc}, ofV v ≠ .ex e
instance : Sv Int := ⟨fun x => .int x, fun v => match v with | .int x => .ok x | _ => .no, fun h => ⟨h, by rw [show _ = V.int _ from h]; trivial⟩, fun {K x v G} h _ => by
  cases v <;> first | (cases h; done) | (injection h with h; subst h; rfl), fun {v e} h => by cases v <;> cases h⟩
instance : Sv Str := ⟨fun x => .str x, fun v => match v with | .str x => .ok x | _ => .no, fun h => ⟨h.1, by rw [h.1]; exact h.2⟩, fun {K x v G} h o => by
  cases v <;> first | (cases h; done) | (injection h with h; subst h; exact ⟨rfl, o⟩), fun {v e} h => by cases v <;> cases h⟩
class Fv (τ : Type) [Args τ] where
  vs : τ → List V
  rep : ∀ {K : Frag} {x : τ} {ws : List V} {G : Hp}, Args.reps K x ws G → ws = vs x ∧ ∀ v ∈ ws, VOk v
instance : Fv Unit := ⟨fun _ => [], fun {K x ws G} h => by
  have h' : ws = [] := h
  subst h'
  exact ⟨rfl, fun v hv => absurd hv (by simp)⟩⟩
instance {α τ : Type} [Rp α] [Sv α] [Args τ] [Fv τ] : Fv (α × τ) := ⟨fun x => Sv.toV x.1 :: Fv.vs x.2, fun {K x ws G} ⟨v, r, e, h1, h2⟩ => by
  subst e
  obtain ⟨a, b⟩ := Fv.rep h2
  obtain ⟨c, d⟩ := Sv.rep h1
  exact ⟨by rw [a, c], fun u hu => by
    rcases List.mem_cons.mp hu with z | z
    · rw [z]; exact d
    · exact b u z⟩⟩
/-- .. as it is found through its class -/
structure Ini (P : Program) (w : World) (K : Frag) (mg : Str → Option Value) (base : Heap) (C : Addr) (k : Nat) (ps : List Str) (sp : Sp) : Prop where
  ex : ∃ (f : Addr) (fd : FuncData), PySem.W.findIn K (.ref C) "__init__" = some (some (.ref f)) ∧ PySem.W.typeIn K (.ref f) = some (.type "function") ∧ Binds K fd ps [] ∧ FnOk P w K mg base (L2.CX P w) k f fd ps sp
section
variable {J S T U ρ α β γ τ : Type} {c : Cn} {X : WX} {kr : ρ → Kd} {Ls : List Sl} {Js : J → List Sl} {B : Bd} {As : List Sl} {Bs : S → List Sl} {K : Frag} {W0 : Wd}
/-- try -/
def Out.npx (m : Out S J ρ) : Out S J ρ := match m with
  | .ex _ => .no
  | o => o
@[simp] theorem Out.npx_nx (s : S) : (Out.nx s : Out S J ρ).npx = .nx s := rfl
@[simp] theorem Out.npx_rt (r : ρ) : (Out.rt r : Out S J ρ).npx = .rt r := rfl
end
/-! ### __init__: B.__init__(self, 'text'); self.f = x -/
section
variable {K : Frag} {C : Addr} {N : List Str} {vs : List V} {H : Hp} {Q : VK} {E : XK} {s : Str}
end
/-! ### the end of a law, with the classes -/
theorem walk_lawM {l : PySem.W.OpenLaw} {q : Program} {loose : List Str} {XP : (Str → Option Value) → Heap → Prop} {YP : World → Heap → Prop} {d : DefRec} {K : Params → PySem.W.Frag} {k : Nat} {x : Str} {f : Sq Int → R Bool}
    (H : ∀ ns : List Int, ns.length ≤ 63 → f ⟨ns⟩ = .ok true) (hn : l.most = some 63) (hdf : d.params.defaults = []) (hr : Room k callerA) (hY : ∀ (w : World) (h : Heap), YP w h → (K w.params).In h)
    (F : ∀ (w : World) (mg : Str → Option Value) (fa : Addr) (h : Heap), (K w.params).In h → h.Ns mainGlobals mg → mg d.name = some (.ref fa) →
      ∃ fd : FuncData, (∀ (s : Shared) (u : Value), BindsTo s fd ⟨[u], []⟩ [(x, u)]) ∧ ∀ base : Heap, (K w.params).In base → base.Ns mainGlobals mg → FnOk l.prog w (K w.params) mg base (L2.CX l.prog w) k fa fd [x] (spF ⟨K w.params, mK (K w.params)⟩ (fun x : Sq Int × Unit => f x.1) (fun x : Bool => kFr (K w.params) x))) :
    PySem.W.WalkO q loose XP YP l.row.toRowW d [] (fun f vs => PySem.call f vs) :=
  L2.walk_of (n := 63) (k := k) (x := x) (CX := fun w => L2.CX l.prog w) (sp := fun w => spF ⟨K w.params, mK (K w.params)⟩ (fun x : Sq Int × Unit => f x.1) (fun x : Bool => kFr (K w.params) x)) hn (by decide) hdf hr hY F (fun _ Hh a ns hl _ hS => law_end H Hh a ns hl hS) fun _ _ _ _ _ z => cx_never z
/-! ### classes -/
structure ExK (K : Frag) (n : Str) (C : Addr) : Prop where
  ns : PySem.W.nsIn K mainGlobals n = some (some (.ref C))
  o : OexC K C
  e : ExcC K C
  x : XfC K C
theorem ExK.only {K : Frag} {n : Str} {C D : Addr} (h : ExK K n C) (e : PySem.W.nsIn K mainGlobals n = some (some (.ref D))) : D = C := by
  rw [h.ns] at e
  cases e
  rfl
/-! ### tables of the classes that are raised -/
end Fw

namespace Fw
open PySem L2 PySem.Spec
open PyProof.Rows hiding St
/-! ### isinstance(e, (C, D, ..)) -/
section
variable {c : Cn} {W0 : Wd} {X : WX} {As : List Sl} {K : Frag}
end
section
variable {K : Frag}
end
instance : NN Exc := ⟨fun ⟨_, _, _, e, _⟩ => by rw [e]; exact fun z => nomatch z⟩
end Fw

namespace Fw
open PySem L2
section
variable {J S T U ρ α β γ δ : Type} {c : Cn} {X : WX} {kr : ρ → Kd} {Ls : List Sl} {Js : J → List Sl} {B : Bd} {As : List Sl} {Bs : S → List Sl} {K : Frag}
/-! ### a, b, c = e -/
def R.to3 (m : R (T3 α β γ)) (k : α → β → γ → Out S J ρ) : Out S J ρ := m.to fun x => k x.a x.b x.c
@[simp] theorem R.to3_ok (x : T3 α β γ) (k : α → β → γ → Out S J ρ) : R.to3 (R.ok x) k = k x.a x.b x.c := rfl
/-! ### partition -/
end
instance {α : Type} [Rp α] : NN (DL α) := ⟨fun {K x v G} h => by
  obtain ⟨p, vs, e, _⟩ := (show Rp.rep K x.l v G from h)
  rw [e]
  exact fun z => nomatch z⟩
end Fw

namespace Fw
open PySem L2
/-! ### sorted -/
section
variable {K : Frag}
end
section
variable {K : Frag} {α : Type} [Rp α]
end
end Fw

namespace Fw
open PySem L2 PyProof.Rows PySem.Calls
/-! ### sorted(xs, key=f) -/
/-- the datum d is read of v, wherever what is tracked stands -/
def RdD (K : Frag) (d : PyData) (v : V) (H : Hp) : Prop := ∀ (P : Program) (w : World) (h : Heap) (u : Value), K.In h → HOk P w H h → RelV v u → Reads h u d []
section
variable {X : Cx} {k : Nat} {f : Addr} {fd : FuncData} {ps : List Str} {sp : Sp} {A : Around} {pins : List (Addr × Obj)} {σ : L2.St} {H : Hp} {s : Shared} {a kS : Addr} {e1 : Nat} {xs : List V} {vs : List Value} {kz : List PyData} {E : Value → Shared → Prop} {R : PySem.Fin → Shared → Prop} {P : Nat → List V → Hp → Prop}
end

/-! the keys: a whole number and a tuple of such -/
theorem rd_int {K : Frag} {H : Hp} (i : Int) : RdD K (.int i) (.int i) H := fun P w h u _ _ ⟨t, e⟩ => by
  rw [e]; exact .int i t
theorem reads_all {K : Frag} {H : Hp} {P : Program} {w : World} {h : Heap} (hk : K.In h) (ok : HOk P w H h) : ∀ {ds : List PyData} {vs : List V} {us : List Value}, Al (fun d v => RdD K d v H) ds vs → Vals vs us → ReadsAll h us ds []
  | [], [], _, _, .nil => .nil
  | d :: ds, v :: vs, _, a, .cons (b := u) r t => by
    have h1 := a.2 0 d v rfl rfl _ _ _ u hk ok r
    have h2 := reads_all hk ok (ds := ds) (vs := vs) ⟨by have := a.1; simpa using this, fun i x y e1 e2 => a.2 (i + 1) x y (by simpa using e1) (by simpa using e2)⟩ t
    exact ReadsAll.cons h1 h2
  | [], _ :: _, _, a, _ => absurd a.1 (by simp)
  | _ :: _, [], _, a, _ => absurd a.1 (by simp)
theorem rd_tup {K : Frag} {H : Hp} {p : Addr} {vs : List V} {ds : List PyData} (hp : SqT K H p vs) (al : Al (fun d v => RdD K d v H) ds vs) : RdD K (.tuple ds) (.ref p) H := fun P w h u hk ok e => by
  obtain rfl : u = .ref p := e
  rcases hp with r | ⟨o, its, n, hl, hc, hd, hz, rv⟩
  · obtain ⟨z, its, rv, o, ho, hc, n, hd⟩ := r.ok ok
    exact Reads.tuple ho hc hd (by simpa using reads_all hk ok al rv)
  · exact Reads.tuple (hk p o hl) hc hd (reads_all hk ok al rv)
section
variable {c : Cn} {W0 : Wd} {X : WX} {As : List Sl} {f : Addr}
end
end Fw

namespace Fw
open PySem L2
/-! ### a dict is locked for good where it is frozen -/
section
variable {X : Cx}
end
section
variable {K : Frag} {W0 W : Wd} {As : List Sl} {σ : St} {i : Nat}
end
section
variable {κ α : Type} [DecidableEq κ] [Rp κ] [DKy κ] [Rp α] {c : Cn} {W0 : Wd} {X : WX} {As : List Sl}
variable {J S ρ : Type} {kr : ρ → Kd} {Ls : List Sl} {Js : J → List Sl} {B : Bd} {Bs : S → List Sl}
end
/-! ### the keys of a dict, walked -/
section
variable {c : Cn} {W0 : Wd} {X : WX} {As : List Sl} {α : Type} [Rp α]
end
end Fw

namespace Fw
open PySem PySem.Spec PyProof.Rows L2
/-! ### sets of texts: what they are, how they grow -/
def keyT (e : Int × Value) : Str := match e.2 with | .str k _ => k | _ => Str.empty
def GoodT (w : World) (e : Int × Value) : Prop := ∃ k tk, e.2 = Value.str k tk ∧ e.1 = hashStr w k
def SetT (w : World) (h : Heap) (a : Addr) (S : Str → Bool) (n : Nat) : Prop :=
  ∃ o es ep t, h.get? a = some o ∧ o.ExactSet ∧ o.data = .set es ep t ∧ (∀ e ∈ es.toList, GoodT w e) ∧ (es.toList.map keyT).Nodup ∧ (∀ k, S k = true ↔ k ∈ es.toList.map keyT) ∧
    es.size < scanBound ∧ t.fits es.size = true ∧ es.size = n ∧ Ris t.place.toList ∧ (w.params.followText "set-order" = true ∨ t.led = true)
section
variable {P : Program} {w : World} {h h' : Heap} {a : Addr} {S : Str → Bool} {n : Nat}
theorem SetT.at (R : SetT w h a S n) (k : ∀ o, h.get? a = some o → h'.get? a = some o) : SetT w h' a S n := by
  obtain ⟨o, es, ep, t, ho, r⟩ := R
  exact ⟨o, es, ep, t, k o ho, r⟩
theorem SetT.congr {S' : Str → Bool} (R : SetT w h a S n) (e : ∀ k, S' k = S k) : SetT w h a S' n := by
  have q : S' = S := funext e
  rw [q]; exact R
end
section
variable {P : Program} {w : World} {A : Around} {E : Value → Shared → Prop} {s : Shared} {a : Addr} {S : Str → Bool} {n : Nat}
end
section
variable {P : Program} {w : World} {A : Around} {E : Value → Shared → Prop} {s : Shared}
end
end Fw

namespace Fw
open PySem PySem.Spec PyProof.Rows L2
/-! ### sorted(set(xs)), len(set(xs)), xs texts -/
section
variable {α : Type} [DecidableEq α]
end
section
variable {P : Program} {w : World} {A : Around} {E : Value → Shared → Prop} {s : Shared} {a : Addr}
end
section
variable {X : Cx} {a : Expr} {ta : TE} {p p2 q pos : Pos}
end
section
variable {K : Frag}
end
end Fw

namespace Fw
open PySem PySem.Spec PyProof.Rows L2
/-! ### len of a dict -/
section
variable {K : Frag} {α : Type} [Rp α]
end
end Fw

namespace Fw
open PySem L2
/-! ### defs that change two things handed in, the last two arguments -/
/-- things that stand at one place -/
class ObP (α : Type) extends Ob α where
  one : ∀ {K : Frag} {x : α} {v : V} {f : List Addr} {W : Wd}, own K x v f W → ∃ p, v = .ref p ∧ f = [p]
instance {α : Type} [Rp α] : ObP (List α) where
  one := fun {K x v f W} ⟨p, vs, e, ef, _⟩ => ⟨p, e, ef⟩
instance {κ α : Type} [DecidableEq κ] [Rp κ] [DKy κ] [Rp α] : ObP (Dk κ α) where
  one := fun {K x v f W} ⟨p, q, e, ef, _⟩ => ⟨p, e, ef⟩
section
variable {c : Cn} {W0 : Wd} {X : WX} {As Bs : List Sl} {α β γ τ ρ : Type} [ObP α] [ObP β]
variable {J S T ρ' : Type} {kr' : ρ' → Kd} {Ls : List Sl} {Js : J → List Sl} {B : Bd} {Cs : T → List Sl}
/-! the def itself -/
end
end Fw

namespace Fw
open PySem L2
/-! ### x = xs.pop() -/
theorem Al.dropLast {α : Type} {P : α → V → Prop} {xs : List α} {vs : List V} (h : Al P xs vs) : Al P xs.dropLast vs.dropLast := ⟨by rw [List.length_dropLast, List.length_dropLast, h.1], fun i x v a b => by
  rw [List.getElem?_dropLast] at a b
  split at a
  · split at b
    · exact h.2 i x v a b
    · cases b
  · cases a⟩
def R.pop {α : Type} (xs : List α) : R (α × List α) := match xs[xs.length - 1]? with
  | some y => .ok (y, xs.dropLast)
  | none => .no
section
variable {J S ρ α : Type} {c : Cn} {X : WX} {kr : ρ → Kd} {Ls : List Sl} {Js : J → List Sl} {B : Bd} {As : List Sl} {Bs : S → List Sl}
end
end Fw

namespace Fw
open PySem PySem.Spec PyProof.Rows L2
/-! ### sets of ints -/
section
variable {P : Program} {w : World} {A : Around} {E : Value → Shared → Prop} {s : Shared}
end
section
variable {X : Cx} {a : Expr} {ta : TE} {p p2 q pos : Pos}
end
section
variable {K : Frag}
end
end Fw

namespace Fw
open PySem L2
/-! ### great ints shifted -/
section
variable {K : Frag}
instance : DecidableRel CShl := fun i j => inferInstanceAs (Decidable (_ ∧ _))
end
end Fw

namespace Fw
open PySem L2
/-! ### a pair whose parts are one's own -/
section
variable {α β : Type}
def ownP [Ob α] [Ob β] (K : Frag) (x : α × β) (v : V) (f : List Addr) (W : Wd) : Prop := ∃ p va vb fa fb, v = .ref p ∧ W.G p = some (.tup [va, vb]) ∧ f = fa ++ fb ∧ Ob.own K x.1 va fa W ∧ Ob.own K x.2 vb fb W ∧ ∀ a ∈ fa, a ∉ fb
theorem ownP_keep [Ob α] [Ob β] {K : Frag} {x : α × β} {v : V} {f : List Addr} {W W' : Wd} : ownP K x v f W → Inc W.G W'.G → (∀ a ∈ f, W'.G a = none) → (∀ a ∈ f, W'.H a = W.H a) → ownP K x v f W' := fun ⟨p, va, vb, fa, fb, e, hp, ef, o1, o2, d⟩ s n k => by
  subst ef
  exact ⟨p, va, vb, fa, fb, e, s _ _ hp, rfl, Ob.keep o1 s (fun a ha => n a (List.mem_append.mpr (.inl ha))) (fun a ha => k a (List.mem_append.mpr (.inl ha))), Ob.keep o2 s (fun a ha => n a (List.mem_append.mpr (.inr ha))) (fun a ha => k a (List.mem_append.mpr (.inr ha))), d⟩
theorem ownP_foot [Ob α] [Ob β] {K : Frag} {x : α × β} {v : V} {f : List Addr} {W : Wd} : ownP K x v f W → ∀ a ∈ f, W.G a = none ∧ W.H a ≠ none := fun ⟨p, va, vb, fa, fb, e, hp, ef, o1, o2, d⟩ a ha => by
  subst ef
  rcases List.mem_append.mp ha with z | z
  · exact Ob.foot o1 a z
  · exact Ob.foot o2 a z
theorem fz_more [Rp α] {K : Frag} {x : α} {v : V} {W : Wd} {f g : List Addr} (h : Rp.rep K x v (W.fz f).G) (hs : ∀ a ∈ f, a ∈ g) : Rp.rep K x v (W.fz g).G := Rp.mono (fun a o e => by
  by_cases q : a ∈ f
  · rw [Wd.fz_in q] at e; rw [Wd.fz_in (hs a q)]; exact e
  · rw [Wd.fz_ni q] at e
    by_cases q2 : a ∈ g
    · rw [Wd.fz_in q2]; exact W.sub _ _ e
    · rw [Wd.fz_ni q2]; exact e) h
instance [Fz α] [Fz β] : Fz (α × β) where
  own := ownP
  keep := ownP_keep
  foot := ownP_foot
  fz := fun {K x v f W} ⟨p, va, vb, fa, fb, e, hp, ef, o1, o2, d⟩ => by
    subst ef
    exact ⟨p, va, vb, e, .inl (.inl (Wd.fz_sub _ _ hp)), fz_more (Fz.fz o1) fun a ha => List.mem_append.mpr (.inl ha), fz_more (Fz.fz o2) fun a ha => List.mem_append.mpr (.inr ha)⟩
section
variable {c : Cn} {W0 : Wd} {As : List Sl} {K : Frag}
end
section
variable {J S ρ : Type} {c : Cn} {X : WX} {kr : ρ → Kd} {Ls : List Sl} {Js : J → List Sl} {B : Bd} {As : List Sl} {Bs : S → List Sl} {W0 : Wd}
end
end
end Fw

namespace Fw
open PySem L2
/-! ### xs.insert(i, e) -/
@[irreducible] def R.ins {α : Type} (xs : List α) (i : Int) (y : α) : R (List α) := if xs.length < sizeLine ∧ 0 ≤ i ∧ i < 2 ^ 63 then .ok (xs.take i.toNat ++ [y] ++ xs.drop i.toNat) else .no
section
variable {J S ρ α : Type} {c : Cn} {X : WX} {kr : ρ → Kd} {Ls : List Sl} {Js : J → List Sl} {B : Bd} {As : List Sl} {Bs : S → List Sl}
end
end Fw

namespace Fw
open PySem L2
/-! ### a pair of a text and what is one's own -/
instance : Fz Str where
  own := fun _ x v f _ => v = .str x ∧ SOk x ∧ f = []
  keep := fun h _ _ _ => h
  foot := fun ⟨_, _, e⟩ a ha => by subst e; cases ha
  fz := fun ⟨e, s, _⟩ => ⟨e, s⟩
section
variable {α β : Type}
variable {J S ρ : Type} {c : Cn} {X : WX} {kr : ρ → Kd} {Ls : List Sl} {Js : J → List Sl} {B : Bd} {As : List Sl} {Bs : S → List Sl} {W0 : Wd}
end
/-! ### isinstance of one of two kinds -/
section
variable {K : Frag} {α β : Type}
end
end Fw

namespace Fw
open PySem L2
section
variable {α β : Type}
variable {c : Cn} {X : WX} {As : List Sl} {W0 : Wd}
/-! ### list(range(n)) -/
/-! ### [a new list for x in xs if t], as a list of one's own lists -/
theorem DRows.up [Rp β] {K : Frag} {W W' : Wd} {xs : List (List β)} {qs : List Addr} (h : DRows K xs qs W) (e : Le W W') : DRows K xs qs W' := h.keep e.g (fun b hb => e.o b (h.foot b hb).1 (h.foot b hb).2) fun b hb => by
  cases z : W.H b with
  | none => exact absurd z (h.foot b hb).2
  | some o => exact e.h _ _ z
end
section
variable {α β : Type}
variable {J S ρ : Type} {c : Cn} {X : WX} {kr : ρ → Kd} {Ls : List Sl} {Js : J → List Sl} {B : Bd} {As : List Sl} {Bs : S → List Sl} {W0 : Wd}
end
end Fw

namespace Fw
open PySem L2
section
variable {α β : Type}
variable {J S ρ : Type} {c : Cn} {X : WX} {kr : ρ → Kd} {Ls : List Sl} {Js : J → List Sl} {B : Bd} {As : List Sl} {Bs : S → List Sl} {W0 : Wd}
end
end Fw

namespace Fw
open PySem L2
/-! ### a dict frozen but not locked -/
structure Dq (κ α : Type) where
  l : List (κ × α)
deriving DecidableEq
section
variable {κ α : Type} [DecidableEq κ] [Rp κ] [DKy κ] [Rp α]
def repQ (K : Frag) (x : Dq κ α) (v : V) (G : Hp) : Prop := ∃ p q, v = .ref p ∧ G p = some (DKy.ho q) ∧ DR K x.l q G ∧ x.l.length ≤ sizeLine
instance : Rp (Dq κ α) := ⟨repQ, fun s ⟨p, q, e, h, a, l⟩ => ⟨p, q, e, s _ _ h, a.mono s, l⟩⟩
instance : Fz (Dq κ α) where
  own := fun K x v f W => Ob.own K (Dk.mk x.l : Dk κ α) v f W
  keep := fun h s n k => Ob.keep h s n k
  foot := fun h => Ob.foot h
  fz := fun {K x v f W} ⟨p, q, e, ef, g, h, d, l⟩ => by
    subst ef
    exact ⟨p, q, e, (Wd.fz_in (by simp)).trans h, d.mono Wd.fz_sub, l⟩
variable {c : Cn} {W0 : Wd} {X : WX} {As : List Sl}
end
/-! ### dict(d), list(d.items()), keys texts -/
section
variable {α : Type} [Rp α] {K : Frag}
variable {c : Cn} {W0 : Wd} {X : WX} {As : List Sl}
end
end Fw

namespace Fw
open PySem L2
/-! ### a dict of one's own lists, keys texts -/
structure DG (α : Type) where
  l : List (Str × List α)
deriving DecidableEq
section
variable {α : Type} [Rp α]
def ownG (K : Frag) (x : DG α) (v : V) (f : List Addr) (W : Wd) : Prop := ∃ (p : Addr) (q : List (Str × V)) (qs : List Addr), v = .ref p ∧ f = p :: qs ∧ (p :: qs).Nodup ∧ W.G p = none ∧ W.H p = some (.dK (q.map fun e => (kS e.1, e.2))) ∧ q.map (·.1) = x.l.map (·.1) ∧ q.map (·.2) = qs.map V.ref ∧ (x.l.map (·.1)).Nodup ∧ DRows K (x.l.map (·.2)) qs W ∧ x.l.length ≤ sizeLine
instance : Rp (DG α) := ⟨fun K x v G => Rp.rep K (Dq.mk x.l : Dq Str (List α)) v G, fun s h => Rp.mono s h⟩
theorem dr_of {K : Frag} {β : Type} [Rp β] {G : Hp} : ∀ {x : List (Str × β)} {q : List (Str × V)}, q.map (·.1) = x.map (·.1) → Al (fun x v => Rp.rep K x v G) (x.map (·.2)) (q.map (·.2)) → DR K x q G
  | [], [], _, _ => trivial
  | p :: x, e :: q, h, a => by
    rw [List.map_cons, List.map_cons] at h
    injection h with h1 h2
    refine ⟨h1.symm, a.2 0 p.2 e.2 rfl rfl, dr_of h2 ⟨by have := a.1; simpa using this, fun i y w h1 h2 => a.2 (i + 1) y w h1 h2⟩⟩
  | [], _ :: _, h, _ => by simp at h
  | _ :: _, [], h, _ => by simp at h
instance : Fz (DG α) where
  own := ownG
  keep := fun {K x v f W W'} ⟨p, q, qs, e, ef, nd, g, h, k1, k2, kn, r, l⟩ s n k => by
    subst ef
    exact ⟨p, q, qs, e, rfl, nd, n p (by simp), (k p (by simp)).trans h, k1, k2, kn, r.keep s (fun b hb => n b (List.mem_cons_of_mem _ hb)) fun b hb => k b (List.mem_cons_of_mem _ hb), l⟩
  foot := fun {K x v f W} ⟨p, q, qs, e, ef, nd, g, h, k1, k2, kn, r, l⟩ b hb => by
    subst ef
    rcases List.mem_cons.mp hb with z | hb
    · subst z
      exact ⟨g, by rw [h]; exact fun z => nomatch z⟩
    · exact r.foot b hb
  fz := fun {K x v f W} ⟨p, q, qs, e, ef, nd, g, h, k1, k2, kn, r, l⟩ => by
    subst ef
    refine ⟨p, q, e, (Wd.fz_in (by simp)).trans h, dr_of k1 ?_, l⟩
    rw [k2]
    exact r.rep Wd.fz_sub fun q hq => Wd.fz_in (List.mem_cons_of_mem _ hq)
variable {c : Cn} {W0 : Wd} {X : WX} {As : List Sl}
end
section
variable {α : Type} [Rp α] {J S ρ : Type} {c : Cn} {X : WX} {kr : ρ → Kd} {Ls : List Sl} {Js : J → List Sl} {B : Bd} {As : List Sl} {Bs : S → List Sl} {W0 : Wd}
end
end Fw

namespace Fw
open PySem L2
/-! ### list(xs) within a comprehension -/
end Fw

namespace Fw
open PySem L2
/-! ### what is owned, looked at as frozen: whatever has no owned thing in it may come out, exceptions too -/
theorem Tk.sqt {K : Frag} {G G' : Hp} {p : Addr} {xs : List V} (t : Tk G G') (h : SqT K G p xs) : SqT K G' p xs := by
  rcases h with (h | ⟨o, h⟩) | h
  · exact .inl (.inl (t p _ rfl h))
  · exact .inl (.inr ⟨o, t p _ rfl h⟩)
  · exact .inr h
/-- values that have no changing thing in them -/
class Uf (α : Type) [Rp α] where
  uf : ∀ {K : Frag} {x : α} {v : V} {G G' : Hp}, Tk G G' → Rp.rep K x v G → Rp.rep K x v G'
instance : Uf Int := ⟨fun _ h => h⟩
instance : Uf Bool := ⟨fun _ h => h⟩
instance : Uf Str := ⟨fun _ h => h⟩
instance : Uf Unit := ⟨fun _ h => h⟩
section
variable {α β γ δ : Type} [Rp α] [Rp β] [Rp γ] [Rp δ] [Uf α] [Uf β] [Uf γ] [Uf δ]
instance : Uf (α × β) := ⟨fun t ⟨p, a, b, e, h, r1, r2⟩ => ⟨p, a, b, e, t.sqt h, Uf.uf t r1, Uf.uf t r2⟩⟩
instance : Uf (T3 α β γ) := ⟨fun t ⟨p, a, b, c, e, h, r1, r2, r3⟩ => ⟨p, a, b, c, e, t.sqt h, Uf.uf t r1, Uf.uf t r2, Uf.uf t r3⟩⟩
instance : Uf (T4 α β γ δ) := ⟨fun t ⟨p, a, b, c, d, e, h, r1, r2, r3, r4⟩ => ⟨p, a, b, c, d, e, t.sqt h, Uf.uf t r1, Uf.uf t r2, Uf.uf t r3, Uf.uf t r4⟩⟩
instance : Uf (Tup α) := ⟨fun t ⟨p, vs, e, h, a, l⟩ => ⟨p, vs, e, t.sqt h, a.imp fun _ _ r => Uf.uf t r, l⟩⟩
instance : Uf (Option α) := ⟨fun {K x v G G'} t h => by
  cases x with
  | none => exact h
  | some y => exact ⟨h.1, Uf.uf t h.2⟩⟩
instance : Uf (α ⊕ β) := ⟨fun {K x v G G'} t h => by
  cases x with
  | inl y => exact Uf.uf (α := α) t h
  | inr y => exact Uf.uf (α := β) t h⟩
end
instance : Uf TK := ⟨fun t ⟨p, e, h, l⟩ => ⟨p, e, t p _ rfl h, l⟩⟩
/-- new things whose parts have no changing thing in them -/
class UfO (α : Type) [Ob α] where
  uf : ∀ {K : Frag} {x : α} {v : V} {f : List Addr} {W W' : Wd}, Tk W.G W'.G → (∀ a ∈ f, W'.G a = none) → W'.H = W.H → Ob.own K x v f W → Ob.own K x v f W'
section
variable {κ α : Type} [DecidableEq κ] [Rp κ] [DKy κ] [Rp α]
theorem al_uf [Uf α] {K : Frag} {G G' : Hp} (t : Tk G G') {xs : List α} {vs : List V} (h : Al (fun x v => Rp.rep K x v G) xs vs) : Al (fun x v => Rp.rep K x v G') xs vs := h.imp fun _ _ r => Uf.uf t r
theorem DR.uf [Uf α] {K : Frag} {G G' : Hp} (t : Tk G G') : ∀ {x : List (κ × α)} {q : List (κ × V)}, DR K x q G → DR K x q G'
  | [], [], h => h
  | _ :: _, _ :: _, h => ⟨h.1, Uf.uf t h.2.1, DR.uf t h.2.2⟩
  | [], _ :: _, h => h.elim
  | _ :: _, [], h => h.elim
instance [Uf α] : UfO (List α) := ⟨fun {K x v f W W'} t n k ⟨p, vs, e, ef, g, h, a, l⟩ => by
  subst ef
  exact ⟨p, vs, e, rfl, n p (by simp), by rw [k]; exact h, al_uf t a, l⟩⟩
instance [Uf α] : UfO (Dk κ α) := ⟨fun {K x v f W W'} t n k ⟨p, q, e, ef, g, h, d, l⟩ => by
  subst ef
  exact ⟨p, q, e, rfl, n p (by simp), by rw [k]; exact h, d.uf t, l⟩⟩
theorem DRows.uf [Uf α] {K : Frag} {W W' : Wd} (t : Tk W.G W'.G) (k : W'.H = W.H) : ∀ {xs : List (List α)} {qs : List Addr}, (∀ q ∈ qs, W'.G q = none) → DRows K xs qs W → DRows K xs qs W'
  | [], [], _, _ => trivial
  | x :: xs, q :: qs, n, h => by
    obtain ⟨g, vs, hh, al, l⟩ := h.1
    exact ⟨⟨n q (by simp), vs, by rw [k]; exact hh, al_uf t al, l⟩, DRows.uf t k (fun b hb => n b (List.mem_cons_of_mem _ hb)) h.2⟩
  | [], _ :: _, _, h => h.elim
  | _ :: _, [], _, h => h.elim
instance [Uf α] : UfO (DL α) := ⟨fun {K x v f W W'} t n k ⟨p, qs, e, ef, nd, g, h, r, l⟩ => by
  subst ef
  exact ⟨p, qs, e, rfl, nd, n p (by simp), by rw [k]; exact h, r.uf t k fun q hq => n q (List.mem_cons_of_mem _ hq), l⟩⟩
end
section
variable {α β : Type}
instance [Fz α] [Fz β] [UfO α] [UfO β] : UfO (α × β) := ⟨fun {K x v f W W'} t n k ⟨p, va, vb, fa, fb, e, hp, ef, o1, o2, d⟩ => by
  subst ef
  exact ⟨p, va, vb, fa, fb, e, t p _ rfl hp, rfl, UfO.uf t (fun a ha => n a (List.mem_append.mpr (.inl ha))) k o1, UfO.uf t (fun a ha => n a (List.mem_append.mpr (.inr ha))) k o2, d⟩⟩
end
/-! the view -/
inductive FvW : List Sl → List Sl → Prop
  | nil : FvW [] []
  | un {As Bs : List Sl} : FvW As Bs → FvW (.un :: As) (.un :: Bs)
  | fr {α : Type} [Rp α] {x : α} {As Bs : List Sl} : FvW As Bs → FvW (.fr x :: As) (.fr x :: Bs)
  | ow {α : Type} [Fz α] {pin : Option V} {x : α} {As Bs : List Sl} : FvW As Bs → FvW (.ow pin x :: As) (.fr x :: Bs)
  | no {α : Type} [Ob α] {pin : Option V} {x : α} {As Bs : List Sl} : FvW As Bs → FvW (.ow pin x :: As) (.un :: Bs)
theorem FvW.len {As Bs : List Sl} (h : FvW As Bs) : As.length = Bs.length := by
  induction h with
  | nil => rfl
  | _ _ ih => exact congrArg (· + 1) ih
theorem FvW.at {K : Frag} {W : Wd} {As Bs : List Sl} (h : FvW As Bs) : ∀ {σ : St}, (∀ (i : Nat) A o, As[i]? = some A → σ[i]? = some o → ∃ f, Hd K A o W f) → ∀ (i : Nat) B o, Bs[i]? = some B → σ[i]? = some o → Hd K B o (.all W.H) [] := by
  induction h with
  | nil => intro σ _ i B o e; simp at e
  | @un As Bs _ ih =>
    intro σ hh i B o e1 e2
    cases σ with
    | nil => simp at e2
    | cons s σ =>
      cases i with
      | zero => cases e1; trivial
      | succ i => exact ih (σ := σ) (fun j A o a b => hh (j + 1) A o a b) i B o e1 e2
  | @fr α _ x As Bs _ ih =>
    intro σ hh i B o e1 e2
    cases σ with
    | nil => simp at e2
    | cons s σ =>
      cases i with
      | zero =>
        cases e1
        obtain ⟨f, v, e, r⟩ := hh 0 _ o rfl e2
        exact ⟨v, e, Rp.mono W.sub r⟩
      | succ i => exact ih (σ := σ) (fun j A o a b => hh (j + 1) A o a b) i B o e1 e2
  | @ow α _ pin x As Bs _ ih =>
    intro σ hh i B o e1 e2
    cases σ with
    | nil => simp at e2
    | cons s σ =>
      cases i with
      | zero =>
        cases e1
        obtain ⟨f, v, e, r, _⟩ := hh 0 _ o rfl e2
        exact ⟨v, e, own_bw (A := W) r⟩
      | succ i => exact ih (σ := σ) (fun j A o a b => hh (j + 1) A o a b) i B o e1 e2
  | @no α _ pin x As Bs _ ih =>
    intro σ hh i B o e1 e2
    cases σ with
    | nil => simp at e2
    | cons s σ =>
      cases i with
      | zero => cases e1; trivial
      | succ i => exact ih (σ := σ) (fun j A o a b => hh (j + 1) A o a b) i B o e1 e2
section
variable {c : Cn} {W0 : Wd} {X : WX} {As Bs : List Sl} {α ρ : Type}
end
end Fw

namespace Fw
open PySem L2
/-! ### tuples of ints and texts that are known to be just that: keys of dicts -/
class KA (α : Type) [Rp α] where
  key : α → L2.Key
  inj : ∀ a b, key a = key b → a = b
  ok : α → Prop
  rv : ∀ {K : Frag} {x : α} {v : V} {G : Hp}, Rp.rep K x v G → v = L2.kV (key x) ∧ ok x
  vr : ∀ {K : Frag} {x : α} {G : Hp}, ok x → Rp.rep K x (L2.kV (key x)) G
instance : KA Int := ⟨kI, kI_inj, fun _ => True, fun h => ⟨h, trivial⟩, fun _ => rfl⟩
instance : KA Str := ⟨kS, kS_inj, SOk, fun h => ⟨h.1, h.2⟩, fun h => ⟨rfl, h⟩⟩
class KT (α : Type) [Rp α] where
  ks : α → List L2.Key
  inj : ∀ a b, ks a = ks b → a = b
  ok : α → Prop
  rep : ∀ {K : Frag} {x : α} {p : Addr} {G : Hp}, G p = some (.tup ((ks x).map L2.kV)) → ok x → Rp.rep K x (.ref p) G
section
variable {α β γ δ : Type} [Rp α] [Rp β] [Rp γ] [Rp δ] [KA α] [KA β] [KA γ] [KA δ]
instance : KT (α × β) := ⟨fun x => [KA.key x.1, KA.key x.2], fun a b h => by
  injection h with h1 h2
  injection h2 with h2 _
  exact Prod.ext (KA.inj _ _ h1) (KA.inj _ _ h2), fun x => KA.ok x.1 ∧ KA.ok x.2, fun h o => ⟨_, _, _, rfl, .inl (.inl h), KA.vr o.1, KA.vr o.2⟩⟩
instance : KT (T4 α β γ δ) := ⟨fun x => [KA.key x.a, KA.key x.b, KA.key x.c, KA.key x.d], fun a b h => by
  injection h with h1 h2
  injection h2 with h2 h3
  injection h3 with h3 h4
  injection h4 with h4 _
  obtain ⟨a1, a2, a3, a4⟩ := a
  obtain ⟨b1, b2, b3, b4⟩ := b
  have q1 : a1 = b1 := KA.inj _ _ h1
  have q2 : a2 = b2 := KA.inj _ _ h2
  have q3 : a3 = b3 := KA.inj _ _ h3
  have q4 : a4 = b4 := KA.inj _ _ h4
  rw [q1, q2, q3, q4], fun x => KA.ok x.a ∧ KA.ok x.b ∧ KA.ok x.c ∧ KA.ok x.d, fun h o => ⟨_, _, _, _, _, rfl, .inl (.inl h), KA.vr o.1, KA.vr o.2.1, KA.vr o.2.2.1, KA.vr o.2.2.2⟩⟩
end
structure Ky (α : Type) where
  k : α
deriving DecidableEq
section
variable {α β γ δ : Type} [Rp α] [Rp β] [Rp γ] [Rp δ]
instance [KT α] : Rp (Ky α) := ⟨fun K x v G => ∃ p, v = .ref p ∧ G p = some (.tup ((KT.ks x.k).map L2.kV)) ∧ KT.ok x.k, fun s ⟨p, e, h, o⟩ => ⟨p, e, s _ _ h, o⟩⟩
instance [KT α] : Uf (Ky α) := ⟨fun t ⟨p, e, h, o⟩ => ⟨p, e, t p _ rfl h, o⟩⟩
theorem ky_rep [KT α] {K : Frag} {x : Ky α} {v : V} {G : Hp} (h : Rp.rep K x v G) : Rp.rep K x.k v G := by
  obtain ⟨p, e, h, o⟩ := h
  subst e
  exact KT.rep h o
def kyk [KT α] (x : Ky α) : List L2.Key := KT.ks x.k
theorem kyk_inj [KT α] : ∀ a b : Ky α, kyk a = kyk b → a = b := fun a b h => by
  obtain ⟨a⟩ := a
  obtain ⟨b⟩ := b
  exact congrArg Ky.mk (KT.inj a b h)
instance [KT α] [DecidableEq α] : DKy (Ky α) where
  ho kvs := .dT (kvs.map fun p => (kyk p.1, p.2))
  get := fun {K G H k y p kvs} ⟨b, r, hb, _⟩ s e => by
    subst r
    rw [← valV_inj kyk_inj k kvs]
    exact .inr ⟨_, kyk k, b, e, rfl, s _ _ hb, rfl⟩
  put := fun {K G H k y v p kvs} ⟨b, r, hb, _⟩ s e l => by
    subst r
    rw [← putK_inj kyk_inj k v kvs]
    exact DPut.t (k := kyk k) e (s _ _ hb) (by rw [List.length_map]; exact l)
  isD := fun e => .inr ⟨_, e⟩
  mu := fun _ => trivial
instance [KT α] [Pd α] : Pd (Ky α) := ⟨fun x => Pd.pd x.k, fun h => Pd.dp (ky_rep h), Pd.n α, fun h => Pd.dep (ky_rep h), fun h => Pd.lay (ky_rep h), fun x y => by
  rw [Pd.eq]
  exact ⟨fun h => by cases x; cases y; exact congrArg Ky.mk h, fun h => congrArg Ky.k h⟩⟩
instance [KT α] [Pd α] [AN α] : AN (Ky α) := ⟨fun a => AN.l a.k, fun a => AN.r a.k⟩
variable {c : Cn} {W0 : Wd} {X : WX} {As : List Sl} {K : Frag}
/-! displays -/
theorem e_kyP [KA α] [KA β] {ta : TA} {x : α} {y : β} (h : Axp c W0 ta As (aCons (kFr c.K x) (aCons (kFr c.K y) aNil))) : Exp c W0 (tTup ta) As (kFr c.K (Ky.mk (x, y))) := fun σ W a W1 e Q q =>
  h σ W a W1 e _ fun vs W2 e2 ⟨v, r, ev, p1, w, r2, ew, p2, en⟩ => by
    subst ev ew en
    obtain ⟨e3, o3⟩ := KA.rv (show Rp.rep c.K x v W2.G from p1)
    obtain ⟨e4, o4⟩ := KA.rv (show Rp.rep c.K y w W2.G from p2)
    subst e3 e4
    exact ⟨by show 2 ≤ sizeLine; rw [sizeLine_eq]; decide, fun p hp => q _ (W2.nf p _) (e2.trans (Le.nf hp)) ⟨p, rfl, upd_same, o3, o4⟩⟩
end
/-! ### list(d), d of such keys -/
section
variable {α β : Type} [Rp α] [KT α] [DecidableEq α] [Rp β] {K : Frag}
end
/-! ### orders -/
class Lt (α : Type) [Rp α] [Pd α] [DecidableEq α] where
  lt : α → α → Bool
  is : ∀ a b : α, PySem.W.dataLt (Pd.pd a) (Pd.pd b) = lt a b
  al : ∀ a b : α, PySem.W.alike (Pd.pd a) (Pd.pd b) = true
theorem dataLt_self' (d : PyData) : PySem.W.dataLt d d = false := PyProof.Rows.lex_irrefl _
instance : Lt Int := ⟨fun a b => decide (a < b), fun a b => PySem.W.dataLt_int a b, fun a b => by simp [Pd.pd, PySem.W.alike]⟩
instance : Lt Str := ⟨fun a b => decide (a.cps.toList < b.cps.toList), fun a b => PySem.W.dataLt_str a b, fun a b => by simp [Pd.pd, PySem.W.alike]⟩
section
variable {α β γ δ : Type} [Rp α] [Rp β] [Rp γ] [Rp δ] [Pd α] [Pd β] [Pd γ] [Pd δ] [DecidableEq α] [DecidableEq β] [DecidableEq γ] [DecidableEq δ] [Lt α] [Lt β] [Lt γ] [Lt δ]
theorem eqv_if {b : Bool} {x y : α} {t e : Bool} (h : b = PyData.eqv (Pd.pd x) (Pd.pd y)) : (if b = true then t else e) = if x = y then t else e := by
  subst h
  by_cases q : x = y
  · rw [if_pos q, if_pos ((Pd.eq x y).mpr q)]
  · rw [if_neg q, if_neg fun z => q ((Pd.eq x y).mp z)]
instance : Lt (α × β) := ⟨fun a b => if a.1 = b.1 then Lt.lt a.2 b.2 else Lt.lt a.1 b.1, fun a b => by
  show PySem.W.dataLt (.tuple [Pd.pd a.1, Pd.pd a.2]) (.tuple [Pd.pd b.1, Pd.pd b.2]) = _
  rw [PySem.W.dataLt_tuple, PySem.W.dataLt_cons (Lt.al _ _), eqv_if rfl, PySem.W.dataLt_cons (Lt.al _ _), eqv_if rfl, Lt.is, Lt.is]
  by_cases q : a.1 = b.1
  · rw [if_pos q, if_pos q]
    by_cases q2 : a.2 = b.2
    · rw [if_pos q2, q2, ← Lt.is, dataLt_self']; rfl
    · rw [if_neg q2]
  · rw [if_neg q, if_neg q], fun a b => by simp [Pd.pd, PySem.W.alike, PySem.W.alikeAll, Lt.al]⟩
instance : Lt (T4 α β γ δ) := ⟨fun a b => if a.a = b.a then (if a.b = b.b then (if a.c = b.c then Lt.lt a.d b.d else Lt.lt a.c b.c) else Lt.lt a.b b.b) else Lt.lt a.a b.a, fun a b => by
  show PySem.W.dataLt (.tuple [Pd.pd a.a, Pd.pd a.b, Pd.pd a.c, Pd.pd a.d]) (.tuple [Pd.pd b.a, Pd.pd b.b, Pd.pd b.c, Pd.pd b.d]) = _
  rw [PySem.W.dataLt_tuple, PySem.W.dataLt_cons (Lt.al _ _), eqv_if rfl, PySem.W.dataLt_cons (Lt.al _ _), eqv_if rfl, PySem.W.dataLt_cons (Lt.al _ _), eqv_if rfl, PySem.W.dataLt_cons (Lt.al _ _), eqv_if rfl, Lt.is, Lt.is, Lt.is, Lt.is]
  by_cases q2 : a.d = b.d
  · rw [if_pos q2, q2, ← Lt.is (Lt.lt (α := δ) b.d b.d |> fun _ => b.d) b.d, dataLt_self']; rfl
  · rw [if_neg q2], fun a b => by simp [Pd.pd, PySem.W.alike, PySem.W.alikeAll, Lt.al]⟩
instance [KT α] : Lt (Ky α) := ⟨fun a b => Lt.lt a.k b.k, fun a b => Lt.is (α := α) a.k b.k, fun a b => Lt.al (α := α) a.k b.k⟩
/-- what reads as its data -/
class Rdd (α : Type) [Rp α] [Pd α] where
  rd : ∀ {K : Frag} {G H : Hp} {x : α} {v : V}, Inc G H → Rp.rep K x v G → RdD K (Pd.pd x) v H
instance : Rdd Int := ⟨fun s h => by cases h; exact rd_int _⟩
instance : Rdd Str := ⟨fun s h => by
  cases h.1
  exact fun P w h u _ _ ⟨t, e⟩ => by rw [e]; exact .str _ t⟩
instance [Rdd α] [Rdd β] : Rdd (α × β) := ⟨fun s ⟨p, a, b, e, h, r1, r2⟩ => by
  subst e
  exact rd_tup (s.sqt h) (Al.cons (Rdd.rd s r1) (Al.one (Rdd.rd s r2)))⟩
instance [Rdd α] [Rdd β] [Rdd γ] [Rdd δ] : Rdd (T4 α β γ δ) := ⟨fun s ⟨p, a, b, c, d, e, h, r1, r2, r3, r4⟩ => by
  subst e
  exact rd_tup (s.sqt h) (Al.cons (Rdd.rd s r1) (Al.cons (Rdd.rd s r2) (Al.cons (Rdd.rd s r3) (Al.one (Rdd.rd s r4)))))⟩
instance [KT α] [Rdd α] : Rdd (Ky α) := ⟨fun {K G H x v} s h => Rdd.rd (α := α) (x := x.k) s (ky_rep h)⟩
end
/-! ### sorted(xs), xs tuples -/
section
open PySem.Spec PyProof.Rows PySem.Calls
variable {X : Cx} {k : Nat}
end
section
variable {α : Type} [Rp α] [Pd α] [DecidableEq α] [Lt α] [Rdd α] {K : Frag}
class TupD (α : Type) [Rp α] [Pd α] where
  tup : ∀ x : α, ∃ d r, Pd.pd x = .tuple (d :: r)
instance {α β : Type} [Rp α] [Rp β] [Pd α] [Pd β] : TupD (α × β) := ⟨fun x => ⟨_, _, rfl⟩⟩
instance {α β γ δ : Type} [Rp α] [Rp β] [Rp γ] [Rp δ] [Pd α] [Pd β] [Pd γ] [Pd δ] : TupD (T4 α β γ δ) := ⟨fun x => ⟨_, _, rfl⟩⟩
instance {α : Type} [Rp α] [KT α] [Pd α] [h : TupD α] : TupD (Ky α) := ⟨fun x => h.tup x.k⟩
end
end Fw

namespace Fw
open PySem L2
/-! ### the keys of a locked dict, tuples, walked -/
section
variable {c : Cn} {W0 : Wd} {X : WX} {As : List Sl} {α β : Type} [Rp α] [KT α] [DecidableEq α] [Rp β]
end
/-! ### instances of own classes -/
/-- a field that is frozen -/
structure Fr (α : Type) where
  x : α
deriving DecidableEq
instance {α : Type} [Rp α] : Rp (Fr α) := ⟨fun K x v G => Rp.rep K x.x v G, fun s h => Rp.mono s h⟩
instance {α : Type} [Rp α] : Fz (Fr α) where
  own := fun K x v f W => f = [] ∧ Rp.rep K x.x v W.G
  keep := fun ⟨e, r⟩ s _ _ => ⟨e, Rp.mono s r⟩
  foot := fun ⟨e, r⟩ a ha => by subst e; cases ha
  fz := fun {K x v f W} ⟨e, r⟩ => Rp.mono Wd.fz_sub r
/-- fields -/
class Fs (φ : Type) where
  names : List Str
  own : Frag → φ → List (Str × V) → List Addr → Wd → Prop
  rep : Frag → φ → List (Str × V) → Hp → Prop
  nm : ∀ {K : Frag} {x : φ} {fs : List (Str × V)} {f : List Addr} {W : Wd}, own K x fs f W → fs.map (·.1) = names
  rm : ∀ {K : Frag} {x : φ} {fs : List (Str × V)} {G : Hp}, rep K x fs G → fs.map (·.1) = names
  mono : ∀ {K : Frag} {x : φ} {fs : List (Str × V)} {G H : Hp}, Inc G H → rep K x fs G → rep K x fs H
  keep : ∀ {K : Frag} {x : φ} {fs : List (Str × V)} {f : List Addr} {W W' : Wd}, own K x fs f W → Inc W.G W'.G → (∀ a ∈ f, W'.G a = none) → (∀ a ∈ f, W'.H a = W.H a) → own K x fs f W'
  foot : ∀ {K : Frag} {x : φ} {fs : List (Str × V)} {f : List Addr} {W : Wd}, own K x fs f W → ∀ a ∈ f, W.G a = none ∧ W.H a ≠ none
  fz : ∀ {K : Frag} {x : φ} {fs : List (Str × V)} {f : List Addr} {W : Wd}, own K x fs f W → rep K x fs (W.fz f).G
/-- none -/
structure Fn where
deriving DecidableEq
instance : Fs Fn where
  names := []
  own := fun _ _ fs f _ => fs = [] ∧ f = []
  rep := fun _ _ fs _ => fs = []
  nm := fun ⟨e, _⟩ => by rw [e]; rfl
  rm := fun e => by rw [e]; rfl
  mono := fun _ h => h
  keep := fun h _ _ _ => h
  foot := fun ⟨_, e⟩ a ha => by subst e; cases ha
  fz := fun ⟨e, _⟩ => e
/-- one more -/
structure Fd (φ : Type) (n : Str) (α : Type) where
  r : φ
  x : α
section
variable {φ φ' α β γ : Type} {n m : Str}
instance [Fs φ] [Fz α] : Fs (Fd φ n α) where
  names := Fs.names φ ++ [n]
  own := fun K x fs f W => ∃ fs' v f1 f2, fs = fs' ++ [(n, v)] ∧ f = f1 ++ f2 ∧ Fs.own K x.r fs' f1 W ∧ Ob.own K x.x v f2 W ∧ ∀ a ∈ f1, a ∉ f2
  rep := fun K x fs G => ∃ fs' v, fs = fs' ++ [(n, v)] ∧ Fs.rep K x.r fs' G ∧ Rp.rep K x.x v G
  nm := fun ⟨fs', v, f1, f2, e, _, o, _⟩ => by rw [e, List.map_append, Fs.nm o]; rfl
  rm := fun ⟨fs', v, e, o, _⟩ => by rw [e, List.map_append, Fs.rm o]; rfl
  mono := fun s ⟨fs', v, e, r1, r2⟩ => ⟨fs', v, e, Fs.mono s r1, Rp.mono s r2⟩
  keep := fun {K x fs f W W'} ⟨fs', v, f1, f2, e, ef, o1, o2, d⟩ s n k => by
    subst ef
    exact ⟨fs', v, f1, f2, e, rfl, Fs.keep o1 s (fun a ha => n a (List.mem_append_left _ ha)) (fun a ha => k a (List.mem_append_left _ ha)), Ob.keep o2 s (fun a ha => n a (List.mem_append_right _ ha)) (fun a ha => k a (List.mem_append_right _ ha)), d⟩
  foot := fun {K x fs f W} ⟨fs', v, f1, f2, e, ef, o1, o2, d⟩ a ha => by
    subst ef
    rcases List.mem_append.mp ha with z | z
    · exact Fs.foot o1 a z
    · exact Ob.foot o2 a z
  fz := fun {K x fs f W} ⟨fs', v, f1, f2, e, ef, o1, o2, d⟩ => by
    subst ef
    refine ⟨fs', v, e, Fs.mono (fun a o h => ?_) (Fs.fz o1), fz_more (Fz.fz o2) fun a ha => List.mem_append_right _ ha⟩
    by_cases q : a ∈ f1
    · rw [Wd.fz_in q] at h; rw [Wd.fz_in (List.mem_append_left _ q)]; exact h
    · rw [Wd.fz_ni q] at h
      by_cases q2 : a ∈ f1 ++ f2
      · rw [Wd.fz_in q2]; exact W.sub _ _ h
      · rw [Wd.fz_ni q2]; exact h
theorem lookup_app_in {fs : List (Str × V)} {n : Str} {v : V} {m : Str} {w : V} (h : fs.lookup m = some w) : (fs ++ [(n, v)]).lookup m = some w := by
  induction fs with
  | nil => cases h
  | cons p fs ih =>
    obtain ⟨a, b⟩ := p
    rw [List.lookup_cons] at h
    show List.lookup m ((a, b) :: (fs ++ [(n, v)])) = _
    rw [List.lookup_cons]
    cases q : m == a with
    | true => rw [q] at h; exact h
    | false => rw [q] at h; exact ih h
/-- a field among others, perhaps exchanged by one of another kind -/
structure Sel (φ φ' : Type) [Fs φ] [Fs φ'] (n : Str) (α β : Type) [Fz α] [Fz β] where
  get : φ → α
  set : φ → β → φ'
  rep : ∀ {K : Frag} {x : φ} {fs : List (Str × V)} {G : Hp}, Fs.rep K x fs G → ∃ v, fs.lookup n = some v ∧ Rp.rep K (get x) v G
  chg : ∀ {K : Frag} {x : φ} {fs : List (Str × V)} {f : List Addr} {W : Wd}, Fs.own K x fs f W → ∃ v f1, fs.lookup n = some v ∧ Ob.own K (get x) v f1 W ∧ (∀ a ∈ f1, a ∈ f) ∧
    (∀ (W' : Wd) (y : β) f1', Inc W.G W'.G → (∀ a ∈ f, a ∉ f1 → W'.G a = none ∧ W'.H a = W.H a) → Ob.own K y v f1' W' → (∀ a ∈ f1', a ∈ f1 ∨ W.H a = none) → ∃ f', Fs.own K (set x y) fs f' W' ∧ ∀ a ∈ f', a ∈ f ∨ W.H a = none) ∧
    ∀ (W' : Wd) f1', Inc W.G W'.G → (∀ a ∈ f, a ∉ f1 → W'.G a = none ∧ W'.H a = W.H a) → Ob.own K (get x) v f1' W' → (∀ a ∈ f1', a ∈ f1 ∨ W.H a = none) → ∃ f', Fs.own K x fs f' W' ∧ ∀ a ∈ f', a ∈ f ∨ W.H a = none
def Sel.up [Fs φ] [Fs φ'] [Fz α] [Fz β] [Fz γ] (s : Sel φ φ' n α β) : Sel (Fd φ m γ) (Fd φ' m γ) n α β where
  get := fun x => s.get x.r
  set := fun x y => ⟨s.set x.r y, x.x⟩
  rep := fun {K x fs G} ⟨fs', v, e, r1, r2⟩ => by
    obtain ⟨w, hw, r⟩ := s.rep r1
    exact ⟨w, by rw [e]; exact lookup_app_in hw, r⟩
  chg := fun {K x fs f W} ⟨fs', v, f1, f2, e, ef, o1, o2, d⟩ => by
    subst ef
    obtain ⟨w, g1, hw, ow, sg, k1, k0⟩ := s.chg o1
    have dg : ∀ a ∈ f2, a ∉ g1 := fun a ha hb => d a (sg a hb) ha
    have go : ∀ {ψ : Type} [Fs ψ] (z : ψ) (W' : Wd) (f1' : List Addr), Inc W.G W'.G → (∀ a ∈ f1 ++ f2, a ∉ g1 → W'.G a = none ∧ W'.H a = W.H a) → Fs.own K z fs' f1' W' → (∀ a ∈ f1', a ∈ f1 ∨ W.H a = none) → ∃ f', Fs.own K (Fd.mk z x.x : Fd ψ m γ) fs f' W' ∧ ∀ a ∈ f', a ∈ f1 ++ f2 ∨ W.H a = none := fun {ψ} _ z W' f1' si k of hf1 => by
      refine ⟨f1' ++ f2, ⟨fs', v, f1', f2, e, rfl, of, Ob.keep o2 si (fun a ha => (k a (List.mem_append_right _ ha) (dg a ha)).1) (fun a ha => (k a (List.mem_append_right _ ha) (dg a ha)).2), fun a ha hb => ?_⟩, fun a ha => ?_⟩
      · rcases hf1 a ha with z | z
        · exact d a z hb
        · exact (Ob.foot o2 a hb).2 z
      · rcases List.mem_append.mp ha with z | z
        · exact (hf1 a z).imp (List.mem_append_left _) id
        · exact .inl (List.mem_append_right _ z)
    refine ⟨w, g1, by rw [e]; exact lookup_app_in hw, ow, fun a ha => List.mem_append_left _ (sg a ha), fun W' y g1' si k o' hf => ?_, fun W' g1' si k o' hf => ?_⟩
    · obtain ⟨f1', of, hf1⟩ := k1 W' y g1' si (fun a ha hn => k a (List.mem_append_left _ ha) hn) o' hf
      exact go (s.set x.r y) W' f1' si k of hf1
    · obtain ⟨f1', of, hf1⟩ := k0 W' g1' si (fun a ha hn => k a (List.mem_append_left _ ha) hn) o' hf
      exact go x.r W' f1' si k of hf1
/-- an instance of the class named so -/
structure Ins (cls : Str) (φ : Type) where
  f : φ
variable {cls : Str}
instance [Fs φ] : Fz (Ins cls φ) where
  rep := fun K x v G => ∃ p C dx fs, v = .ref p ∧ G p = some (.ins C dx fs) ∧ PySem.W.nsIn K mainGlobals cls = some (some (.ref C)) ∧ Fs.rep K x.f fs G
  mono := fun s ⟨p, C, dx, fs, e, h, hc, r⟩ => ⟨p, C, dx, fs, e, s _ _ h, hc, Fs.mono s r⟩
  own := fun K x v f W => ∃ p C dx fs f1, v = .ref p ∧ f = p :: f1 ∧ p ∉ f1 ∧ W.G p = none ∧ W.H p = some (.ins C dx fs) ∧ PySem.W.nsIn K mainGlobals cls = some (some (.ref C)) ∧ Fs.own K x.f fs f1 W
  keep := fun {K x v f W W'} ⟨p, C, dx, fs, f1, e, ef, np, g, h, hc, o⟩ s n k => by
    subst ef
    exact ⟨p, C, dx, fs, f1, e, rfl, np, n p List.mem_cons_self, (k p List.mem_cons_self).trans h, hc, Fs.keep o s (fun a ha => n a (List.mem_cons_of_mem _ ha)) fun a ha => k a (List.mem_cons_of_mem _ ha)⟩
  foot := fun {K x v f W} ⟨p, C, dx, fs, f1, e, ef, np, g, h, hc, o⟩ a ha => by
    subst ef
    rcases List.mem_cons.mp ha with z | z
    · subst z; exact ⟨g, by rw [h]; exact fun z => nomatch z⟩
    · exact Fs.foot o a z
  fz := fun {K x v f W} ⟨p, C, dx, fs, f1, e, ef, np, g, h, hc, o⟩ => by
    subst ef
    refine ⟨p, C, dx, fs, e, (Wd.fz_in List.mem_cons_self).trans h, hc, Fs.mono (fun a u q => ?_) (Fs.fz o)⟩
    by_cases z : a ∈ f1
    · rw [Wd.fz_in z] at q; rw [Wd.fz_in (List.mem_cons_of_mem _ z)]; exact q
    · rw [Wd.fz_ni z] at q
      by_cases z2 : a ∈ p :: f1
      · rw [Wd.fz_in z2]; exact W.sub _ _ q
      · rw [Wd.fz_ni z2]; exact q
/-- what the text says of a class: its place, plain, none of the fields is one of its names -/
structure ClT (K : Frag) (cls : Str) (C : Addr) (ns : List Str) : Prop where
  at_ : PySem.W.nsIn K mainGlobals cls = some (some (.ref C))
  cl : Cls K C
  no : ∀ n ∈ ns, NoAttr K C n
theorem ClT.eq {K : Frag} {C C' : Addr} {ns : List Str} (h : ClT K cls C ns) (e : PySem.W.nsIn K mainGlobals cls = some (some (.ref C'))) : C' = C := by
  rw [h.at_] at e
  cases e; rfl
end
section
variable {φ φ' α β γ : Type} {n cls : Str} [Fs φ] [Fs φ'] {c : Cn} {W0 : Wd} {X : WX} {As : List Sl} {C : Addr} {ns : List Str}
end
section
variable {φ φ' α β κ : Type} {n cls : Str} [Fs φ] [Fs φ'] {J S ρ : Type} {c : Cn} {X : WX} {kr : ρ → Kd} {Ls : List Sl} {Js : J → List Sl} {B : Bd} {As : List Sl} {Bs : S → List Sl} {C : Addr} {ns : List Str}
end
end Fw

namespace Fw
open PySem L2
/-! ### places: parts of one's own things, changed where they stand -/
theorem lx_of {A W W' : Wd} {f : List Addr} (e : Le A W) (lx : LeX W f W') : LeX A f W' := ⟨e.g.trans lx.g, fun a n g m => lx.o a n (e.o a g m) (fun z => m (e.h.nope z)), fun a n m => by
  rw [lx.h a n (fun z => m (e.h.nope z))]
  cases q : A.H a with
  | none => exact absurd q m
  | some o => exact e.h a o q⟩
theorem le_lx {W W' : Wd} {f : List Addr} (e : Le W W') : LeX W f W' := ⟨e.g, fun a _ g m => e.o a g m, fun a _ m => by
  cases q : W.H a with
  | none => exact absurd q m
  | some o => exact e.h a o q⟩
section
variable {α β γ κ : Type} {c : Cn} {W0 : Wd} {X : WX} {As : List Sl}
variable {φ φ' : Type} {n cls : Str} [Fs φ] [Fs φ'] {C : Addr} {ns : List Str}
end
/-! ### changes -/
section
variable {α β γ κ τ : Type} {J S ρ : Type} {c : Cn} {X : WX} {kr : ρ → Kd} {Ls : List Sl} {Js : J → List Sl} {B : Bd} {As : List Sl} {Bs : S → List Sl}
variable [DecidableEq κ] [Rp κ] [DKy κ]
end
section
variable {α : Type} {c : Cn} {W0 : Wd} {X : WX} {As : List Sl}
end
end Fw

namespace Fw
open PySem L2
/-! ### d.setdefault(k, x), keys of any kind -/
def tDSetG (td ty tx : TE) : TE := fun σ H Q => td σ H fun x H1 => ∃ a, x = .ref a ∧ IsD H1 a ∧ ty σ H1 fun y H2 => tx σ H2 fun z H3 => ∃ o, DGet H3 a y o ∧ (∀ v, o = some v → Q v H3) ∧ (o = none → ∃ H4, DPut H3 a y z H4 ∧ Q z H4)
section
open PySem.Spec PyProof.Rows
variable {X : Cx} {pins : List (Addr × Obj)} {σ : L2.St} {H : Hp} {s : Shared} {a : Addr} {y d : V} {u r : Value} {o : Option V} {A : Around} {E : Value → Shared → Prop}
theorem d_setdG {Q : Value → Shared → Prop} (hu : A.units + 1 < cLine) (I : Inv X pins σ H s) (g : DGet H a y o) (ry : RelV y u) (rd : RelV d r) (h1 : ∀ v, o = some v → ∀ w' s', Inv X pins σ H s' → RelV v w' → Q w' s')
    (h2 : o = none → ∃ H', DPut H a y d H' ∧ ∀ w' s', Inv X pins σ H' s' → RelV d w' → Q w' s') : wpAny (model X.prog X.w) A (call (.builtin "dict.setdefault") [.ref a, u, r]) Q E s := by
  cases o with
  | some v =>
    rcases g with ⟨kvs, k, e, ey, l⟩ | ⟨kvs, k, b, e, ey, eb, l⟩
    · subst ey
      obtain ⟨z, hd, vs, rel, dd⟩ := dk_rd I.hok e
      have hz : vs.length ≤ sizeLine := by rw [← rel.length]; exact z
      obtain ⟨w, hw, rw_⟩ := RelO.some_of (v := v) (o := valueAt vs k) (by rw [l]; exact rel.val k)
      refine call_meetsIn PySem.F.slot_dict_setdefault dd.typeIs PySem.F.entry_dict_setdefault (PySem.F.args_dict_setdefault_3 _ _ _) (kt_meets_setdefault (mixKind X.prog X.w) a (kV_is ry) hd r) ⟨vs, dd, hz, fun v2 hv2 => ?_, fun hn h' dd' hs => ?_⟩
      · rw [hw] at hv2
        cases hv2
        exact h1 v rfl _ _ (I.tok _) rw_
      · rw [hw] at hn; cases hn
    · subst ey
      cases (show u = Value.ref b from ry)
      obtain ⟨z, hd, xs, rel, dd⟩ := dt_rd I.hok e
      have hz : xs.length ≤ sizeLine := by rw [← Paired.length rel]; exact z
      obtain ⟨w, hw, rw_⟩ := RelO.some_of (v := v) (o := (atKey xs k).map (·.2)) (by rw [l]; exact rel.val k)
      obtain ⟨p, hp, hp2⟩ := Option.map_eq_some_iff.mp hw
      refine call_setdefault_heap (hsz := hz) (tupleKind_room_in1 hu) (key_of I.hok eb) hd dd (fun p2 hp3 => ?_) fun hn => ?_
      · rw [hp] at hp3
        cases hp3
        rw [hp2]
        exact h1 v rfl _ _ (I.tok _) rw_
      · rw [hp] at hn; cases hn
  | none =>
    obtain ⟨H', pt, q⟩ := h2 rfl
    rcases pt with ⟨kvs, k, e, ey, l, eH⟩ | ⟨kvs, k, b, e, ey, eb, l, eH⟩
    · subst ey eH
      have hv : valV kvs k = none := by
        rcases g with ⟨kvs2, k2, e2, ey2, l2⟩ | ⟨kvs2, k2, b2, e2, ey2, eb2, l2⟩
        · have ek : k2 = k := by
            cases k with
            | inl i => cases k2 with
              | inl j => cases ey2; rfl
              | inr j => cases ey2
            | inr i => cases k2 with
              | inl j => cases ey2
              | inr j => cases ey2; rfl
          subst ek
          rcases e2 with e2 | ⟨ob, e2⟩
          · rw [e] at e2; cases e2; exact l2.symm
          · rw [e] at e2; cases e2
        · cases k with
          | inl i => cases ey2
          | inr i => cases ey2
      refine L2.d_setd I e ry rd l (fun v h => ?_) fun _ w' s' I' rw' => q w' s' I' rw'
      rw [hv] at h; cases h
    · subst ey eH
      cases (show u = Value.ref b from ry)
      obtain ⟨z, hd, xs, rel, dd⟩ := dt_of I.hok e
      have hz : xs.length ≤ sizeLine := by rw [← Paired.length rel]; exact z
      have hl : (putK kvs k d).length ≤ sizeLine := by have := length_putK kvs k d; omega
      have hv : valV kvs k = none := by
        rcases g with ⟨kvs2, k2, e2, ey2, l2⟩ | ⟨kvs2, k2, b2, e2, ey2, eb2, l2⟩
        · cases k2 with
          | inl i => cases ey2
          | inr i => cases ey2
        · cases ey2
          rw [eb] at eb2
          have ek : k = k2 := by
            have inj : ∀ p q : List L2.Key, p.map L2.kV = q.map L2.kV → p = q := fun p => by
              induction p with
              | nil => intro q h; cases q with
                | nil => rfl
                | cons x q => simp at h
              | cons x p ih => intro q h; cases q with
                | nil => simp at h
                | cons x2 q =>
                  rw [List.map_cons, List.map_cons] at h
                  injection h with h1 h2
                  rw [ih q h2]
                  congr 1
                  cases x with
                  | inl i => cases x2 with
                    | inl j => cases h1; rfl
                    | inr j => cases h1
                  | inr i => cases x2 with
                    | inl j => cases h1
                    | inr j => cases h1; rfl
            injection eb2 with eb2
            injection eb2 with eb2
            exact inj _ _ eb2
          subst ek
          rcases e2 with e2 | ⟨ob, e2⟩
          · rw [e] at e2; cases e2; exact l2.symm
          · rw [e] at e2; cases e2
      refine call_setdefault_heap (hsz := hz) (tupleKind_room_in1 hu) (key_of I.hok eb) hd dd (fun p2 hp3 => ?_) fun hn h' dd' hs => ?_
      · have := rel.val k
        rw [hv] at this
        have hp4 : (atKey xs k).map (·.2) = some p2.2 := by rw [hp3]; rfl
        rw [hp4] at this
        exact this.elim
      · obtain ⟨qo, es, ep, hq, h2, h3, h4, _, h5⟩ := dd'
        refine q _ _ (d_write I (by rw [e]; exact True.intro) hs ⟨qo, hq⟩ ⟨hl, hd, _, (rel.put k eb rd).keeps fun c ys ec => ?_, qo, es, ep, hq, h2, h3, h4, h5⟩) rd
        rw [upd_ne (ne_of ec e (fun z => nomatch z))]
        exact ec
variable {o e f : Expr} {td ty tx : TE} {apos cpos : Pos}
theorem pe_dsetG (hu : X.A.units + 1 < cLine) (ho : PE X o td) (he : PE X e ty) (hf : PE X f tx) (m : M2 X o "setdefault" apos e f cpos) : PE X (.Call (.Attribute o "setdefault" apos) [e, f] [] cpos) (tDSetG td ty tx) := by
  refine ⟨fun pins s σ H Q I h => ?_⟩
  refine wpAny_Call_method m.base m.few m.line PySem.F.plainAttrs_dict PySem.F.slot_dict_setdefault PySem.F.type_dict_setdefault (thn (ho.run pins s σ H _ I h) fun u s1 ⟨x, H1, I1, rx, a, ex, d, q1⟩ => ?_)
  subst ex
  obtain rfl : u = Value.ref a := rx
  obtain ⟨t1, t2, _⟩ := isD_at I1 d
  refine ⟨t1, t2, ?_⟩
  rw [m.trees]
  exact Calls.callWith_builtin rfl (Calls.evalArgs_plain (Calls.spliced_cons (thn (he.run pins s1 σ H1 _ I1 q1) fun iv s2 ⟨y, H2, I2, ry, q2⟩ =>
    Calls.spliced_cons (thn (hf.run pins s2 σ H2 _ I2 q2) fun fv s3 ⟨z, H3, I3, rz, ov, gt, q3, q4⟩ => Calls.spliced_nil (d_setdG hu I3 gt ry rz (fun v hv w' s4 I4 rw' => ⟨v, _, I4, rw', q3 v hv⟩) fun hn => (q4 hn).elim fun H4 ⟨pt, q5⟩ => ⟨H4, pt, fun w' s4 I4 rw' => ⟨z, _, I4, rw', q5⟩⟩)))))
end
/-! ### a dict of one's own lists, keys of any kind -/
structure DGk (κ α : Type) where
  l : List (κ × List α)
deriving DecidableEq
section
variable {κ α : Type} [DecidableEq κ] [Rp κ] [DKy κ] [Rp α]
theorem dk_of' {K : Frag} {β : Type} [Rp β] {G : Hp} : ∀ {x : List (κ × β)} {q : List (κ × V)}, q.map (·.1) = x.map (·.1) → Al (fun x v => Rp.rep K x v G) (x.map (·.2)) (q.map (·.2)) → DR K x q G
  | [], [], _, _ => trivial
  | p :: x, e :: q, h, a => by
    rw [List.map_cons, List.map_cons] at h
    injection h with h1 h2
    exact ⟨h1.symm, a.2 0 p.2 e.2 rfl rfl, dk_of' h2 ⟨by have := a.1; simpa using this, fun i y w h1 h2 => a.2 (i + 1) y w h1 h2⟩⟩
  | [], _ :: _, h, _ => by simp at h
  | _ :: _, [], h, _ => by simp at h
instance : Rp (DGk κ α) := ⟨fun K x v G => Rp.rep K (Dq.mk x.l : Dq κ (List α)) v G, fun s h => Rp.mono s h⟩
def ownK (K : Frag) (x : DGk κ α) (v : V) (f : List Addr) (W : Wd) : Prop := ∃ (p : Addr) (q : List (κ × V)) (qs : List Addr), v = .ref p ∧ f = p :: qs ∧ (p :: qs).Nodup ∧ W.G p = none ∧ W.H p = some (DKy.ho q) ∧ q.map (·.1) = x.l.map (·.1) ∧ q.map (·.2) = qs.map V.ref ∧ (x.l.map (·.1)).Nodup ∧ DRows K (x.l.map (·.2)) qs W ∧ x.l.length ≤ sizeLine
theorem ho_ne (q : List (κ × V)) : some (DKy.ho q) ≠ none := fun z => nomatch z
instance : Fz (DGk κ α) where
  own := ownK
  keep := fun {K x v f W W'} ⟨p, q, qs, e, ef, nd, g, h, k1, k2, kn, r, l⟩ s n k => by
    subst ef
    exact ⟨p, q, qs, e, rfl, nd, n p (by simp), (k p (by simp)).trans h, k1, k2, kn, r.keep s (fun b hb => n b (List.mem_cons_of_mem _ hb)) fun b hb => k b (List.mem_cons_of_mem _ hb), l⟩
  foot := fun {K x v f W} ⟨p, q, qs, e, ef, nd, g, h, k1, k2, kn, r, l⟩ b hb => by
    subst ef
    rcases List.mem_cons.mp hb with z | hb
    · subst z
      exact ⟨g, by rw [h]; exact ho_ne q⟩
    · exact r.foot b hb
  fz := fun {K x v f W} ⟨p, q, qs, e, ef, nd, g, h, k1, k2, kn, r, l⟩ => by
    subst ef
    refine ⟨p, q, e, (Wd.fz_in (by simp)).trans h, dk_of' k1 ?_, l⟩
    rw [k2]
    exact r.rep Wd.fz_sub fun q hq => Wd.fz_in (List.mem_cons_of_mem _ hq)
variable {c : Cn} {W0 : Wd} {X : WX} {As : List Sl}
theorem k_find {k : κ} : ∀ {q : List (κ × V)} {xl : List (κ × List α)} {qs : List Addr}, q.map (·.1) = xl.map (·.1) → q.map (·.2) = qs.map V.ref → ∀ {v}, valV q k = some v → ∃ (j : Nat) (a : Addr) (r : List α), qs[j]? = some a ∧ v = .ref a ∧ xl[j]? = some (k, r) ∧ dval xl k = some r
  | [], _, _, _, _, v, h => by cases h
  | e :: q, p :: xl, a :: qs, h1, h2, v, h => by
    rw [List.map_cons, List.map_cons] at h1 h2
    injection h1 with e1 h1
    injection h2 with e2 h2
    by_cases z : e.1 = k
    · rw [valV_pos z] at h
      refine ⟨0, a, p.2, rfl, ?_, ?_, ?_⟩
      · rw [← Option.some.inj h, e2]
      · rw [← z, e1]; rfl
      · unfold dval
        rw [if_pos (e1.symm.trans z)]
    · rw [valV_neg z] at h
      obtain ⟨j, b, r, g1, g2, g3, g4⟩ := k_find h1 h2 h
      refine ⟨j + 1, b, r, g1, g2, g3, ?_⟩
      unfold dval
      rw [if_neg (fun w => z (e1.trans w))]
      exact g4
  | e :: q, [], _, h1, _, _, _ => by simp at h1
  | e :: q, _ :: _, [], _, h2, _, _ => by simp at h2
theorem k_none {k : κ} : ∀ {q : List (κ × V)} {xl : List (κ × List α)}, q.map (·.1) = xl.map (·.1) → valV q k = none → dval xl k = none ∧ k ∉ xl.map (·.1)
  | [], [], _, _ => ⟨rfl, by simp⟩
  | e :: q, p :: xl, h1, h => by
    rw [List.map_cons, List.map_cons] at h1
    injection h1 with e1 h1
    by_cases z : e.1 = k
    · rw [valV_pos z] at h; cases h
    · rw [valV_neg z] at h
      obtain ⟨g1, g2⟩ := k_none h1 h
      refine ⟨?_, ?_⟩
      · unfold dval
        rw [if_neg (fun w => z (e1.trans w))]
        exact g1
      · rw [List.map_cons, List.mem_cons]
        rintro (w | w)
        · exact z (e1.trans w.symm)
        · exact g2 w
  | [], _ :: _, h, _ => by simp at h
  | _ :: _, [], h, _ => by simp at h
theorem dput_keysK {k : κ} {y : List α} (xl : List (κ × List α)) (h : (dval xl k).isSome = true) : (dput xl k y).map (·.1) = xl.map (·.1) := by
  unfold dput
  rw [if_pos h, List.map_map]
  refine List.map_congr_left fun p _ => ?_
  show (if p.1 = k then (p.1, y) else p).1 = p.1
  split <;> rfl
theorem dput_valsK {k : κ} {y : List α} : ∀ {xl : List (κ × List α)} {j : Nat} {r : List α}, (xl.map (·.1)).Nodup → xl[j]? = some (k, r) → (xl.map (fun p => if p.1 = k then (p.1, y) else p)).map (·.2) = (xl.map (·.2)).set j y
  | [], j, r, _, h => by simp at h
  | p :: xl, 0, r, nd, h => by
    have e : p = (k, r) := by simpa using h
    subst e
    rw [List.map_cons] at nd
    have nk := (List.nodup_cons.mp nd).1
    rw [List.map_cons, List.map_cons, List.map_cons, List.set_cons_zero, if_pos rfl]
    congr 1
    rw [List.map_map]
    refine List.map_congr_left fun p hp => ?_
    show (if p.1 = k then (p.1, y) else p).2 = p.2
    rw [if_neg fun z => nk (by show k ∈ _; rw [← z]; exact List.mem_map_of_mem hp)]
  | p :: xl, j + 1, r, nd, h => by
    rw [List.map_cons] at nd
    obtain ⟨nk, nd2⟩ := List.nodup_cons.mp nd
    have h' : xl[j]? = some (k, r) := by simpa using h
    have hk : k ∈ xl.map (·.1) := List.mem_map.mpr ⟨_, List.mem_of_getElem? h', rfl⟩
    rw [List.map_cons, List.map_cons, List.map_cons, List.set_cons_succ, dput_valsK nd2 h']
    congr 1
    show (if p.1 = k then (p.1, y) else p).2 = p.2
    rw [if_neg fun z => nk (by rw [z]; exact hk)]
variable {J S ρ : Type} {kr : ρ → Kd} {Ls : List Sl} {Js : J → List Sl} {B : Bd} {Bs : S → List Sl}
end
end Fw

namespace Fw
open PySem L2
/-! ### methods -/
section
open PySem.Spec PyProof.Rows
variable {X : Cx} {CX : CXT} {k : Nat} {f C : Addr} {fd : FuncData} {ps : List Str} {sp : Sp} {E : L2.St → XK} {x m : Str} {p pos apos : Pos} {e o : Expr} {es : List Expr} {ta : TE} {t : TA}
end
/-! ### promises of methods -/
section
variable {α β ρ τ : Type} {c : Cn}
variable {N : List Str} {n : Nat} {t : TS} {vs : List V} {H : Hp} {Q : VK} {E : XK} [Args τ] [Ob α] [Ob β]
end
end Fw

namespace Fw
open PySem L2
/-! ### calls of methods -/
section
variable {α β γ ρ τ φ φ' : Type} {cls m : Str} {C : Addr} {ns : List Str} {c : Cn} {W0 : Wd} {X : WX} {As : List Sl} [Args τ] [Fs φ] [Fs φ']
variable {J S : Type} {ρ' : Type} {kr' : ρ' → Kd} {Ls : List Sl} {Js : J → List Sl} {B : Bd} {Bs : S → List Sl}
end
end Fw

namespace Fw
open PySem L2
/-! ### changes of the fields of what a slot holds -/
section
variable {φ φ' α β κ τ ρ : Type} {n m cls : Str} [Fs φ] [Fs φ'] {J S ρ' : Type} {c : Cn} {X : WX} {kr : ρ' → Kd} {Ls : List Sl} {Js : J → List Sl} {B : Bd} {As : List Sl} {Bs : S → List Sl} {C : Addr} {ns : List Str} {x : Ins cls φ} {pin : Option V}
variable [DecidableEq κ] [Rp κ] [DKy κ]
end
section
variable {X : Cx} {K : Frag} {e : Expr} {f : Str} {pos : Pos} {ta : TE}
end
/-! ### d.get(k) -/
section
variable {κ α : Type} [DecidableEq κ] [Rp κ] [DKy κ] [Rp α] {c : Cn} {W0 : Wd} {X : WX} {As : List Sl}
instance [KT α] : NN (Ky α) := ⟨fun ⟨p, e, _⟩ z => by rw [e] at z; cases z⟩
end
end Fw

namespace Fw
open PySem L2
/-! ### a, b = a list -/
section
variable {J S ρ α : Type} {c : Cn} {X : WX} {kr : ρ → Kd} {Ls : List Sl} {Js : J → List Sl} {B : Bd} {As : List Sl} {Bs : S → List Sl} {W0 : Wd}
end
/-! ### x < y, data that are alike -/
section
variable {α : Type} [Rp α] [Pd α] [DecidableEq α] [Lt α] [Rdd α] {K : Frag}
end
/-! ### a thing that is gone: nothing is known of it -/
structure Gone where
deriving DecidableEq
instance : Rp Gone := ⟨fun _ _ _ _ => True, fun _ h => h⟩
instance : Fz Gone where
  own := fun _ _ _ f _ => f = []
  keep := fun h _ _ _ => h
  foot := fun h a ha => by
    have h' := h
    subst h'
    cases ha
  fz := fun _ => trivial
section
variable {J S ρ α β γ : Type} {c : Cn} {X : WX} {kr : ρ → Kd} {Ls : List Sl} {Js : J → List Sl} {B : Bd} {As : List Sl} {Bs : S → List Sl} {W0 : Wd}
end
end Fw

namespace Fw
open PySem L2
section
variable {J S ρ α β : Type} {c : Cn} {X : WX} {Ls : List Sl} {Js : J → List Sl} {B : Bd} {As : List Sl} {Bs : S → List Sl} {W0 : Wd}
end
end Fw

namespace Fw
open PySem L2
section
variable {J S ρ α β γ δ : Type} {c : Cn} {X : WX} {kr : ρ → Kd} {Ls : List Sl} {Js : J → List Sl} {B : Bd} {As : List Sl} {Bs : S → List Sl} {W0 : Wd}
end
end Fw

namespace Fw
open PySem L2
/-! ### x = xs.pop(0) -/
section
variable {J S ρ α : Type} {c : Cn} {X : WX} {kr : ρ → Kd} {Ls : List Sl} {Js : J → List Sl} {B : Bd} {As : List Sl} {Bs : S → List Sl}
end
/-! ### a pair: the first one's own, the second frozen -/
structure PF (α β : Type) where
  a : α
  b : β
instance {α β : Type} [Ob α] [Rp β] : Ob (PF α β) where
  own := fun K x v f W => ∃ p va vb, v = .ref p ∧ W.G p = some (.tup [va, vb]) ∧ Ob.own K x.a va f W ∧ Rp.rep K x.b vb W.G
  keep := fun {K x v f W W'} ⟨p, va, vb, e, hp, o, r⟩ s n k => ⟨p, va, vb, e, s _ _ hp, Ob.keep o s n k, Rp.mono s r⟩
  foot := fun {K x v f W} ⟨p, va, vb, e, hp, o, r⟩ a ha => Ob.foot o a ha
instance {α β : Type} [Ob α] [Rp β] [UfO α] [Uf β] : UfO (PF α β) := ⟨fun {K x v f W W'} t n k ⟨p, va, vb, e, hp, o, r⟩ => ⟨p, va, vb, e, t p _ rfl hp, UfO.uf t n k o, Uf.uf t r⟩⟩
section
variable {J S ρ α β : Type} {c : Cn} {X : WX} {kr : ρ → Kd} {Ls : List Sl} {Js : J → List Sl} {B : Bd} {As : List Sl} {Bs : S → List Sl} {W0 : Wd}
end
/-! ### sorted(d), d by tuples; by whole numbers -/
section
open PySem.Spec PyProof.Rows PySem.Calls
variable {P : Program} {w : World} {A : Around} {E : Value → Shared → Prop} {s : Shared}
end
section
variable {K : Frag} {κ β : Type} [Rp κ] [KT κ] [DecidableEq κ] [Rp β]
end
section
variable {K : Frag} {α : Type} [Rp α]
end
end Fw

namespace Fw
open PySem L2
/-! ### x = d.pop(k), keys of any kind -/
def DPop (H : Hp) (a : Addr) (y v : V) (H' : Hp) : Prop :=
  (∃ (kvs : List (Key × V)) (k : Key), H a = some (.dK kvs) ∧ y = L2.kV k ∧ valV kvs k = some v ∧ H' = upd H a (.dK (dropK kvs k))) ∨
  ∃ (kvs : List (List Key × V)) (k : List Key) (b : Addr), H a = some (.dT kvs) ∧ y = .ref b ∧ H b = some (.tup (k.map L2.kV)) ∧ valV kvs k = some v ∧ H' = upd H a (.dT (dropK kvs k))
section
open PySem.Spec PyProof.Rows
variable {X : Cx} {pins : List (Addr × Obj)} {σ : L2.St} {H H' : Hp} {s : Shared} {a : Addr} {y v : V} {u : Value} {A : Around} {E : Value → Shared → Prop}
variable {o e : Expr} {td ty : TE} {apos cpos : Pos}
end
section
theorem dropK_inj {κ μ : Type} [DecidableEq κ] [DecidableEq μ] {f : κ → μ} (hf : ∀ a b, f a = f b → a = b) (k : κ) (kvs : List (κ × V)) : dropK (kvs.map fun p => (f p.1, p.2)) (f k) = (dropK kvs k).map fun p => (f p.1, p.2) := by
  unfold dropK
  rw [List.filter_map]
  congr 1
  refine List.filter_congr fun p _ => ?_
  show decide (f p.1 ≠ f k) = decide (p.1 ≠ k)
  by_cases e : p.1 = k
  · rw [e]; simp
  · rw [decide_eq_true (show p.1 ≠ k from e), decide_eq_true (show f p.1 ≠ f k from fun z => e (hf _ _ z))]
class PKy (κ : Type) [DecidableEq κ] [Rp κ] extends DKy κ where
  pop : ∀ {K : Frag} {G H : Hp} {k : κ} {y v : V} {p : Addr} {kvs : List (κ × V)}, Rp.rep K k y G → Inc G H → H p = some (DKy.ho kvs) → valV kvs k = some v → DPop H p y v (upd H p (DKy.ho (dropK kvs k)))
instance : PKy Int where
  pop := fun {K G H k y v p kvs} r _ e l => by
    have r' : y = .int k := r
    subst r'
    refine .inl ⟨_, kI k, e, rfl, ?_, ?_⟩
    · rw [valV_inj kI_inj]; exact l
    · rw [dropK_inj kI_inj]; rfl
instance : PKy Str where
  pop := fun {K G H k y v p kvs} r _ e l => by
    have r' : y = .str k := r.1
    subst r'
    refine .inl ⟨_, kS k, e, rfl, ?_, ?_⟩
    · rw [valV_inj kS_inj]; exact l
    · rw [dropK_inj kS_inj]; rfl
instance {α : Type} [Rp α] [KT α] [DecidableEq α] : PKy (Ky α) where
  pop := fun {K G H k y v p kvs} ⟨b, r, hb, _⟩ s e l => by
    subst r
    refine .inr ⟨_, kyk k, b, e, rfl, s _ _ hb, ?_, ?_⟩
    · rw [valV_inj kyk_inj]; exact l
    · rw [dropK_inj kyk_inj]; rfl
end
section
variable {κ α : Type} [DecidableEq κ] [Rp κ] [PKy κ] [Rp α]
theorem DR.drop {K : Frag} {G : Hp} {k : κ} : ∀ {x : List (κ × α)} {q : List (κ × V)}, DR K x q G → DR K (x.filter fun p => decide (p.1 ≠ k)) (dropK q k) G
  | [], [], _ => trivial
  | p :: x, e :: q, h => by
    unfold dropK
    rw [List.filter_cons, List.filter_cons]
    obtain ⟨h1, h2, h3⟩ := h
    by_cases z : e.1 = k
    · rw [decide_eq_false (show ¬ p.1 ≠ k from fun w => w (h1 ▸ z)), decide_eq_false (show ¬ e.1 ≠ k from fun w => w z)]
      exact DR.drop h3
    · rw [decide_eq_true (show p.1 ≠ k from fun w => z (h1 ▸ w)), decide_eq_true (show e.1 ≠ k from z), if_pos rfl, if_pos rfl]
      exact ⟨h1, h2, DR.drop h3⟩
  | [], _ :: _, h => h.elim
  | _ :: _, [], h => h.elim
variable {J S ρ : Type} {c : Cn} {X : WX} {kr : ρ → Kd} {Ls : List Sl} {Js : J → List Sl} {B : Bd} {As : List Sl} {Bs : S → List Sl}
end
end Fw

namespace Fw
open PySem L2
/-! ### four in a tuple: the first and the last two lists of one's own -/
section
variable {α β γ δ : Type} [Rp α] [Rp β] [Rp γ] [Rp δ]
def own4 (K : Frag) (x : T4 (List α) β (List γ) (List δ)) (v : V) (f : List Addr) (W : Wd) : Prop := ∃ (p : Addr) (vb : V) (qa qc qd : Addr) (va vc vd : List V), v = .ref p ∧ W.G p = some (.tup [.ref qa, vb, .ref qc, .ref qd]) ∧ f = [qa, qc, qd] ∧ [qa, qc, qd].Nodup ∧ (∀ q ∈ [qa, qc, qd], W.G q = none) ∧
  W.H qa = some (.lst va) ∧ W.H qc = some (.lst vc) ∧ W.H qd = some (.lst vd) ∧ Al (fun x v => Rp.rep K x v W.G) x.a va ∧ Al (fun x v => Rp.rep K x v W.G) x.c vc ∧ Al (fun x v => Rp.rep K x v W.G) x.d vd ∧ Rp.rep K x.b vb W.G ∧ x.a.length ≤ sizeLine ∧ x.c.length ≤ sizeLine ∧ x.d.length ≤ sizeLine
instance : Fz (T4 (List α) β (List γ) (List δ)) where
  own := own4
  keep := fun {K x v f W W'} ⟨p, vb, qa, qc, qd, va, vc, vd, e, hp, ef, nd, g, h1, h2, h3, a1, a2, a3, rb, l⟩ s n k => by
    subst ef
    exact ⟨p, vb, qa, qc, qd, va, vc, vd, e, s _ _ hp, rfl, nd, n, (k qa (by simp)).trans h1, (k qc (by simp)).trans h2, (k qd (by simp)).trans h3, a1.imp fun _ _ r => Rp.mono s r, a2.imp fun _ _ r => Rp.mono s r, a3.imp fun _ _ r => Rp.mono s r, Rp.mono s rb, l⟩
  foot := fun {K x v f W} ⟨p, vb, qa, qc, qd, va, vc, vd, e, hp, ef, nd, g, h1, h2, h3, _⟩ a ha => by
    subst ef
    refine ⟨g a ha, ?_⟩
    simp only [List.mem_cons, List.not_mem_nil, or_false] at ha
    rcases ha with z | z | z <;> subst z
    · rw [h1]; exact fun z => nomatch z
    · rw [h2]; exact fun z => nomatch z
    · rw [h3]; exact fun z => nomatch z
  fz := fun {K x v f W} ⟨p, vb, qa, qc, qd, va, vc, vd, e, hp, ef, nd, g, h1, h2, h3, a1, a2, a3, rb, l1, l2, l3⟩ => by
    subst ef
    have s := Wd.fz_sub (W := W) (f := [qa, qc, qd])
    exact ⟨p, _, _, _, _, e, .inl (.inl (s _ _ hp)), ⟨qa, va, rfl, (Wd.fz_in (by simp)).trans h1, a1.imp fun _ _ r => Rp.mono s r, l1⟩, Rp.mono s rb, ⟨qc, vc, rfl, (Wd.fz_in (by simp)).trans h2, a2.imp fun _ _ r => Rp.mono s r, l2⟩, ⟨qd, vd, rfl, (Wd.fz_in (by simp)).trans h3, a3.imp fun _ _ r => Rp.mono s r, l3⟩⟩
end
/-- .. of which the lengths alone are known -/
structure Tri where
  la : Nat
  lc : Nat
  ld : Nat
def ownTri (x : Tri) (v : V) (f : List Addr) (W : Wd) : Prop := ∃ (p : Addr) (vb : V) (qa qc qd : Addr) (va vc vd : List V), v = .ref p ∧ W.G p = some (.tup [.ref qa, vb, .ref qc, .ref qd]) ∧ f = [qa, qc, qd] ∧ [qa, qc, qd].Nodup ∧ (∀ q ∈ [qa, qc, qd], W.G q = none) ∧
  W.H qa = some (.lst va) ∧ W.H qc = some (.lst vc) ∧ W.H qd = some (.lst vd) ∧ va.length = x.la ∧ vc.length = x.lc ∧ vd.length = x.ld
instance : Ob Tri where
  own := fun _ => ownTri
  keep := fun {K x v f W W'} ⟨p, vb, qa, qc, qd, va, vc, vd, e, hp, ef, nd, g, h1, h2, h3, l⟩ s n k => by
    subst ef
    exact ⟨p, vb, qa, qc, qd, va, vc, vd, e, s _ _ hp, rfl, nd, n, (k qa (by simp)).trans h1, (k qc (by simp)).trans h2, (k qd (by simp)).trans h3, l⟩
  foot := fun {K x v f W} ⟨p, vb, qa, qc, qd, va, vc, vd, e, hp, ef, nd, g, h1, h2, h3, _⟩ a ha => by
    subst ef
    refine ⟨g a ha, ?_⟩
    simp only [List.mem_cons, List.not_mem_nil, or_false] at ha
    rcases ha with z | z | z <;> subst z
    · rw [h1]; exact fun z => nomatch z
    · rw [h2]; exact fun z => nomatch z
    · rw [h3]; exact fun z => nomatch z
section
variable {α β γ δ ε : Type} [Rp α] [Rp β] [Rp γ] [Rp δ] [Rp ε]
variable {J S ρ : Type} {c : Cn} {X : WX} {kr : ρ → Kd} {Ls : List Sl} {Js : J → List Sl} {B : Bd} {As : List Sl} {Bs : S → List Sl} {W0 : Wd}
end
end Fw

namespace Fw
open PySem PySem.Spec PyProof.Rows L2
/-! ### values of many kinds: plain data of a bounded depth -/
structure Dy (n : Nat) where
  d : PyData
instance {n : Nat} : Rp (Dy n) := ⟨fun K x v G => Dp K G v x.d ∧ x.d.depth ≤ n ∧ x.d.canLay0 = true, fun s ⟨h, a, b⟩ => ⟨dp_mono s h, a, b⟩⟩
/-- what can be looked at as such a value -/
class Dn (α : Type) [Rp α] where
  toD : α → PyData
  dp : ∀ {K : Frag} {x : α} {v : V} {G : Hp}, Rp.rep K x v G → Dp K G v (toD x)
  n : Nat
  dep : ∀ {K : Frag} {x : α} {v : V} {G : Hp}, Rp.rep K x v G → (toD x).depth ≤ n
  lay : ∀ {K : Frag} {x : α} {v : V} {G : Hp}, Rp.rep K x v G → (toD x).canLay0 = true
instance : Dn Int := ⟨.int, Pd.dp, 0, Pd.dep, Pd.lay⟩
instance : Dn Bool := ⟨.bool, Pd.dp, 0, Pd.dep, Pd.lay⟩
instance : Dn Str := ⟨.str, Pd.dp, 0, Pd.dep, Pd.lay⟩
instance : Dn Unit := ⟨fun _ => .none, Pd.dp, 0, Pd.dep, Pd.lay⟩
instance {n : Nat} : Dn (Dy n) := ⟨Dy.d, fun h => h.1, n, fun h => h.2.1, fun h => h.2.2⟩
section
variable {α β γ δ : Type} [Rp α] [Dn α] [Rp β] [Dn β] [Rp γ] [Dn γ] [Rp δ] [Dn δ] {K : Frag}
theorem dnAll {G : Hp} : ∀ {xs : List α} {vs : List V}, Al (fun x v => Rp.rep K x v G) xs vs → DpAll K G vs (xs.map Dn.toD)
  | [], [], _ => .nil
  | [], v :: vs, h => by have := h.1; simp at this
  | x :: xs, [], h => by have := h.1; simp at this
  | x :: xs, v :: vs, h => .cons (Dn.dp (h.2 0 x v rfl rfl)) (dnAll ⟨by have := h.1; simpa using this, fun i y w a b => h.2 (i + 1) y w a b⟩)
theorem dnDepAll {G : Hp} : ∀ {xs : List α} {vs : List V}, Al (fun x v => Rp.rep K x v G) xs vs → PyData.depthAll (xs.map Dn.toD) ≤ Dn.n α
  | [], [], _ => by simp [PyData.depthAll]
  | [], v :: vs, h => by have := h.1; simp at this
  | x :: xs, [], h => by have := h.1; simp at this
  | x :: xs, v :: vs, h => by
    have h1 := Dn.dep (h.2 0 x v rfl rfl)
    have h2 := dnDepAll (xs := xs) (vs := vs) ⟨by have := h.1; simpa using this, fun i y w a b => h.2 (i + 1) y w a b⟩
    simp only [List.map_cons, PyData.depthAll]
    omega
theorem dnLayAll {G : Hp} : ∀ {xs : List α} {vs : List V}, Al (fun x v => Rp.rep K x v G) xs vs → PyData.canLayAll0 (xs.map Dn.toD) = true
  | [], [], _ => by simp [PyData.canLayAll0]
  | [], v :: vs, h => by have := h.1; simp at this
  | x :: xs, [], h => by have := h.1; simp at this
  | x :: xs, v :: vs, h => by
    have h1 := Dn.lay (h.2 0 x v rfl rfl)
    have h2 := dnLayAll (xs := xs) (vs := vs) ⟨by have := h.1; simpa using this, fun i y w a b => h.2 (i + 1) y w a b⟩
    simp only [List.map_cons, PyData.canLayAll0, h1, h2, Bool.and_self]
instance : Dn (List α) := ⟨fun xs => .list (xs.map Dn.toD), fun ⟨p, vs, e, h, al, l⟩ => by subst e; exact .lst (.inl (.inl h)) (dnAll al), Dn.n α + 1, fun ⟨p, vs, e, h, al, l⟩ => by
  simp only [PyData.depth]; have := dnDepAll al; omega, fun ⟨p, vs, e, h, al, l⟩ => by simp only [PyData.canLay0]; exact dnLayAll al⟩
instance : Dn (Tup α) := ⟨fun xs => .tuple (xs.l.map Dn.toD), fun ⟨p, vs, e, h, al, l⟩ => by subst e; exact .tup h (dnAll al), Dn.n α + 1, fun ⟨p, vs, e, h, al, l⟩ => by
  simp only [PyData.depth]; have := dnDepAll al; omega, fun ⟨p, vs, e, h, al, l⟩ => by simp only [PyData.canLay0]; exact dnLayAll al⟩
instance : Dn (α × β) := ⟨fun x => .tuple [Dn.toD x.1, Dn.toD x.2], fun ⟨p, a, b, e, h, r1, r2⟩ => by subst e; exact .tup h (.cons (Dn.dp r1) (.cons (Dn.dp r2) .nil)), max (Dn.n α) (Dn.n β) + 1, fun ⟨p, a, b, e, h, r1, r2⟩ => by
  simp only [PyData.depth, PyData.depthAll]; have := Dn.dep r1; have := Dn.dep r2; omega, fun ⟨p, a, b, e, h, r1, r2⟩ => by simp only [PyData.canLay0, PyData.canLayAll0, Dn.lay r1, Dn.lay r2, Bool.and_self]⟩
instance : Dn (T3 α β γ) := ⟨fun x => .tuple [Dn.toD x.a, Dn.toD x.b, Dn.toD x.c], fun ⟨p, a, b, d, e, h, r1, r2, r3⟩ => by subst e; exact .tup h (.cons (Dn.dp r1) (.cons (Dn.dp r2) (.cons (Dn.dp r3) .nil))), max (Dn.n α) (max (Dn.n β) (Dn.n γ)) + 1, fun ⟨p, a, b, d, e, h, r1, r2, r3⟩ => by
  simp only [PyData.depth, PyData.depthAll]; have := Dn.dep r1; have := Dn.dep r2; have := Dn.dep r3; omega, fun ⟨p, a, b, d, e, h, r1, r2, r3⟩ => by simp only [PyData.canLay0, PyData.canLayAll0, Dn.lay r1, Dn.lay r2, Dn.lay r3, Bool.and_self]⟩
instance : Dn (T4 α β γ δ) := ⟨fun x => .tuple [Dn.toD x.a, Dn.toD x.b, Dn.toD x.c, Dn.toD x.d], fun ⟨p, a, b, d, f, e, h, r1, r2, r3, r4⟩ => by subst e; exact .tup h (.cons (Dn.dp r1) (.cons (Dn.dp r2) (.cons (Dn.dp r3) (.cons (Dn.dp r4) .nil)))), max (Dn.n α) (max (Dn.n β) (max (Dn.n γ) (Dn.n δ))) + 1, fun ⟨p, a, b, d, f, e, h, r1, r2, r3, r4⟩ => by
  simp only [PyData.depth, PyData.depthAll]; have := Dn.dep r1; have := Dn.dep r2; have := Dn.dep r3; have := Dn.dep r4; omega, fun ⟨p, a, b, d, f, e, h, r1, r2, r3, r4⟩ => by simp only [PyData.canLay0, PyData.canLayAll0, Dn.lay r1, Dn.lay r2, Dn.lay r3, Dn.lay r4, Bool.and_self]⟩
instance : Dn (α ⊕ β) where
  toD x := match x with
    | .inl a => Dn.toD a
    | .inr b => Dn.toD b
  dp := fun {K x v G} h => by
    cases x with
    | inl a => exact Dn.dp (α := α) h
    | inr b => exact Dn.dp (α := β) h
  n := max (Dn.n α) (Dn.n β)
  dep := fun {K x v G} h => by
    cases x with
    | inl a => have := Dn.dep (α := α) h; dsimp only; omega
    | inr b => have := Dn.dep (α := β) h; dsimp only; omega
  lay := fun {K x v G} h => by
    cases x with
    | inl a => exact Dn.lay (α := α) h
    | inr b => exact Dn.lay (α := β) h
end
section
variable {α β : Type} [Rp α] [Rp β] {c : Cn} {W0 : Wd} {X : WX} {As : List Sl}
structure Cast (f : α → R β) : Prop where
  ex : ∀ x e, f x ≠ .ex e
  ok : ∀ {K : Frag} {x : α} {y : β} {v : V} {G : Hp}, f x = .ok y → Rp.rep K x v G → Rp.rep K y v G
end
section
variable {n : Nat} {K : Frag}
/-! == a text, in (a text, a text) -/
/-! list of a tuple -/
/-! isinstance -/
end
end Fw

/-! a text == a dict -/
namespace PySem.SeqAt
open AutoSeq1 (wpAny_loadPart')
open MeetsSeq
section
variable {A : Around} {s : Shared}
end
end PySem.SeqAt
namespace Fw
open PySem PySem.Spec PyProof.Rows L2
/-! ### values of many kinds, dicts among them -/
mutual
inductive Dx (K : Frag) (H : Hp) : V → PyData → Prop
  | non : Dx K H .non .none
  | bl (b : Bool) : Dx K H (.bl b) (.bool b)
  | int (i : Int) : Dx K H (.int i) (.int i)
  | str (x : Str) : Dx K H (.str x) (.str x)
  | lst {a : Addr} {xs : List V} {ds : List PyData} : SqL K H a xs → DxAll K H xs ds → Dx K H (.ref a) (.list ds)
  | tup {a : Addr} {xs : List V} {ds : List PyData} : SqT K H a xs → DxAll K H xs ds → Dx K H (.ref a) (.tuple ds)
  | dct {a : Addr} {o : Obj} {kvs : List (L2.Key × V)} : H a = some (.frz o (.dK kvs)) → Dx K H (.ref a) (.dict [])
inductive DxAll (K : Frag) (H : Hp) : List V → List PyData → Prop
  | nil : DxAll K H [] []
  | cons {v : V} {vs : List V} {d : PyData} {ds : List PyData} : Dx K H v d → DxAll K H vs ds → DxAll K H (v :: vs) (d :: ds)
end
section
variable {K : Frag}
mutual
theorem dx_mono {G H : Hp} (s : Inc G H) : ∀ {v : V} {d : PyData}, Dx K G v d → Dx K H v d
  | _, _, .non => .non
  | _, _, .bl b => .bl b
  | _, _, .int i => .int i
  | _, _, .str x => .str x
  | _, _, .lst h a => .lst (s.sql h) (dxAll_mono s a)
  | _, _, .tup h a => .tup (s.sqt h) (dxAll_mono s a)
  | _, _, .dct h => .dct (s _ _ h)
theorem dxAll_mono {G H : Hp} (s : Inc G H) : ∀ {vs : List V} {ds : List PyData}, DxAll K G vs ds → DxAll K H vs ds
  | _, _, .nil => .nil
  | _, _, .cons h t => .cons (dx_mono s h) (dxAll_mono s t)
end
mutual
theorem dp_dx {G : Hp} : ∀ {v : V} {d : PyData}, Dp K G v d → Dx K G v d
  | _, _, .non => .non
  | _, _, .bl b => .bl b
  | _, _, .int i => .int i
  | _, _, .str x => .str x
  | _, _, .lst h a => .lst h (dpAll_dx a)
  | _, _, .tup h a => .tup h (dpAll_dx a)
theorem dpAll_dx {G : Hp} : ∀ {vs : List V} {ds : List PyData}, DpAll K G vs ds → DxAll K G vs ds
  | _, _, .nil => .nil
  | _, _, .cons h t => .cons (dp_dx h) (dpAll_dx t)
end
mutual
theorem dx_dp {G : Hp} : ∀ {v : V} {d : PyData}, Dx K G v d → d.canLay0 = true → Dp K G v d
  | _, _, .non, _ => .non
  | _, _, .bl b, _ => .bl b
  | _, _, .int i, _ => .int i
  | _, _, .str x, _ => .str x
  | _, _, .lst h a, c => .lst h (dxAll_dp a (by simpa [PyData.canLay0] using c))
  | _, _, .tup h a, c => .tup h (dxAll_dp a (by simpa [PyData.canLay0] using c))
  | _, _, .dct h, c => by simp [PyData.canLay0] at c
theorem dxAll_dp {G : Hp} : ∀ {vs : List V} {ds : List PyData}, DxAll K G vs ds → PyData.canLayAll0 ds = true → DpAll K G vs ds
  | _, _, .nil, _ => .nil
  | _, _, .cons h t, c => by
    simp only [PyData.canLayAll0, Bool.and_eq_true] at c
    exact .cons (dx_dp h c.1) (dxAll_dp t c.2)
end
end
structure Dz where
  d : PyData
instance : Rp Dz := ⟨fun K x v G => Dx K G v x.d, fun s h => dx_mono s h⟩
class Dm (α : Type) [Rp α] where
  toX : α → PyData
  dx : ∀ {K : Frag} {x : α} {v : V} {G : Hp}, Rp.rep K x v G → Dx K G v (toX x)
instance : Dm Int := ⟨.int, fun h => dp_dx (Pd.dp h)⟩
instance : Dm Bool := ⟨.bool, fun h => dp_dx (Pd.dp h)⟩
instance : Dm Str := ⟨.str, fun h => dp_dx (Pd.dp h)⟩
instance : Dm Unit := ⟨fun _ => .none, fun h => dp_dx (Pd.dp h)⟩
instance : Dm Dz := ⟨Dz.d, fun h => h⟩
instance {α : Type} [Rp α] : Dm (Dk Int α) := ⟨fun _ => .dict [], fun ⟨p, q, o, e, h, a, l⟩ => by subst e; exact .dct h⟩
section
variable {α β γ δ : Type} [Rp α] [Dm α] [Rp β] [Dm β] [Rp γ] [Dm γ] [Rp δ] [Dm δ] {K : Frag}
theorem dmAll {G : Hp} : ∀ {xs : List α} {vs : List V}, Al (fun x v => Rp.rep K x v G) xs vs → DxAll K G vs (xs.map Dm.toX)
  | [], [], _ => .nil
  | [], v :: vs, h => by have := h.1; simp at this
  | x :: xs, [], h => by have := h.1; simp at this
  | x :: xs, v :: vs, h => .cons (Dm.dx (h.2 0 x v rfl rfl)) (dmAll ⟨by have := h.1; simpa using this, fun i y w a b => h.2 (i + 1) y w a b⟩)
instance : Dm (List α) := ⟨fun xs => .list (xs.map Dm.toX), fun ⟨p, vs, e, h, al, l⟩ => by subst e; exact .lst (.inl (.inl h)) (dmAll al)⟩
instance : Dm (Tup α) := ⟨fun xs => .tuple (xs.l.map Dm.toX), fun ⟨p, vs, e, h, al, l⟩ => by subst e; exact .tup h (dmAll al)⟩
instance : Dm (α × β) := ⟨fun x => .tuple [Dm.toX x.1, Dm.toX x.2], fun ⟨p, a, b, e, h, r1, r2⟩ => by subst e; exact .tup h (.cons (Dm.dx r1) (.cons (Dm.dx r2) .nil))⟩
instance : Dm (T3 α β γ) := ⟨fun x => .tuple [Dm.toX x.a, Dm.toX x.b, Dm.toX x.c], fun ⟨p, a, b, d, e, h, r1, r2, r3⟩ => by subst e; exact .tup h (.cons (Dm.dx r1) (.cons (Dm.dx r2) (.cons (Dm.dx r3) .nil)))⟩
instance : Dm (T4 α β γ δ) := ⟨fun x => .tuple [Dm.toX x.a, Dm.toX x.b, Dm.toX x.c, Dm.toX x.d], fun ⟨p, a, b, d, f, e, h, r1, r2, r3, r4⟩ => by subst e; exact .tup h (.cons (Dm.dx r1) (.cons (Dm.dx r2) (.cons (Dm.dx r3) (.cons (Dm.dx r4) .nil))))⟩
end
section
variable {K : Frag}
/-! == a text, in (a text, a text) -/
def isD : PyData → Bool
  | .dict _ => true
  | _ => false
/-! isinstance -/
end
end Fw

namespace Fw
open PySem L2
end Fw

namespace Fw
open PySem L2
/-! ### the keys of a dict by numbers, walked -/
section
variable {c : Cn} {W0 : Wd} {X : WX} {As : List Sl} {α : Type} [Rp α]
end
end Fw

namespace Fw
open PySem L2
/-! ### xss[i][j] = y -/
section
variable {α : Type} [Rp α] {K : Frag}
theorem DRows.at {W : Wd} : ∀ {xs : List (List α)} {qs : List Addr} {j : Nat} {r : List α}, DRows K xs qs W → xs[j]? = some r → ∃ q vs, qs[j]? = some q ∧ W.G q = none ∧ W.H q = some (.lst vs) ∧ Al (fun x v => Rp.rep K x v W.G) r vs ∧ r.length ≤ sizeLine
  | [], _, _, _, _, h => by simp at h
  | x :: xs, [], _, _, h, _ => h.elim
  | x :: xs, q :: qs, 0, r, h, e => by
    cases e
    obtain ⟨g, vs, hh, al, l⟩ := h.1
    exact ⟨q, vs, rfl, g, hh, al, l⟩
  | x :: xs, q :: qs, j + 1, r, h, e => DRows.at (j := j) h.2 e
variable {c : Cn} {X : WX} {As : List Sl} {J S ρ : Type} {kr : ρ → Kd} {Ls : List Sl} {Js : J → List Sl} {B : Bd} {Bs : S → List Sl}
end
end Fw

namespace Fw
open PySem L2
/-! ### raise C('text'), C an own class without own __init__ -/
section
variable {J S ρ : Type} {c : Cn} {X : WX} {kr : ρ → Kd} {Ls : List Sl} {Js : J → List Sl} {B : Bd} {As : List Sl} {Bs : S → List Sl}
end
end Fw

namespace Fw
open PySem PySem.Spec L2
open PyProof.Rows hiding St
/-! ### dict(zip(keys, values)) -/
end Fw
namespace Fw
open PySem L2
section
variable {c : Cn} {W0 : Wd} {X : WX} {As : List Sl} {β : Type} [Rp β] {K : Frag}
end
end Fw

namespace Fw
open PySem L2
/-! ### x < y of tuples and lists -/
section
variable {α β γ : Type} [Rp α] [Rp β] [Rp γ] [Pd α] [Pd β] [Pd γ] [DecidableEq α] [DecidableEq β] [DecidableEq γ] [Lt α] [Lt β] [Lt γ]
def llt : List α → List α → Bool
  | [], [] => false
  | [], _ :: _ => true
  | _ :: _, [] => false
  | x :: xs, y :: ys => if x = y then llt xs ys else Lt.lt x y
theorem llt_is : ∀ xs ys : List α, PyProof.Rows.lexLt PyProof.Rows.itemOrd (PySem.W.keyToksAll (xs.map Pd.pd)) (PySem.W.keyToksAll (ys.map Pd.pd)) = llt xs ys
  | [], [] => PyProof.Rows.lex_irrefl _
  | [], y :: ys => by
    rw [List.map_nil, List.map_cons]
    simp only [PySem.W.keyToksAll]
    rfl
  | x :: xs, [] => by
    rw [List.map_nil, List.map_cons]
    simp only [PySem.W.keyToksAll]
    rfl
  | x :: xs, y :: ys => by
    rw [List.map_cons, List.map_cons, PySem.W.dataLt_cons (Lt.al _ _), eqv_if rfl, llt_is xs ys, Lt.is]
    rfl
theorem llt_al : ∀ xs ys : List α, PySem.W.alikeAll (xs.map Pd.pd) (ys.map Pd.pd) = true
  | [], _ => by rw [List.map_nil, PySem.W.alikeAll]
  | x :: xs, [] => by simp [PySem.W.alikeAll]
  | x :: xs, y :: ys => by simp only [List.map_cons, PySem.W.alikeAll, Lt.al, llt_al xs ys, Bool.and_self]
instance : Lt (List α) := ⟨llt, fun a b => (PySem.W.dataLt_list _ _).trans (llt_is a b), fun a b => by
  show PySem.W.alike (.list _) (.list _) = true
  rw [PySem.W.alike]
  exact llt_al a b⟩
instance : Lt (Tup α) := ⟨fun a b => llt a.l b.l, fun a b => (PySem.W.dataLt_tuple _ _).trans (llt_is a.l b.l), fun a b => by
  show PySem.W.alike (.tuple _) (.tuple _) = true
  rw [PySem.W.alike]
  exact llt_al a.l b.l⟩
instance : Lt (T3 α β γ) := ⟨fun a b => if a.a = b.a then (if a.b = b.b then Lt.lt a.c b.c else Lt.lt a.b b.b) else Lt.lt a.a b.a, fun a b => by
  show PySem.W.dataLt (.tuple [Pd.pd a.a, Pd.pd a.b, Pd.pd a.c]) (.tuple [Pd.pd b.a, Pd.pd b.b, Pd.pd b.c]) = _
  rw [PySem.W.dataLt_tuple, PySem.W.dataLt_cons (Lt.al _ _), eqv_if rfl, PySem.W.dataLt_cons (Lt.al _ _), eqv_if rfl, PySem.W.dataLt_cons (Lt.al _ _), eqv_if rfl, Lt.is, Lt.is, Lt.is]
  by_cases q : a.a = b.a
  · rw [if_pos q, if_pos q]
    by_cases q1 : a.b = b.b
    · rw [if_pos q1, if_pos q1]
      by_cases q2 : a.c = b.c
      · rw [if_pos q2, q2, ← Lt.is, dataLt_self']; rfl
      · rw [if_neg q2]
    · rw [if_neg q1, if_neg q1]
  · rw [if_neg q, if_neg q], fun a b => by simp [Pd.pd, PySem.W.alike, PySem.W.alikeAll, Lt.al]⟩
end
section
variable {α : Type} [Rp α] [Pd α] [DecidableEq α] [Lt α] {K : Frag}
end
end Fw

namespace Fw
open PySem L2
/-! ### try .. except X: without a name -/
section
variable {X : Cx} {x : Str} {cv : Value} {body suite : List Stmt} {b₀ : Stmt} {np pos pos' : Pos} {tb : WX → TS} {ts : TS}
end
section
variable {c : Cn} {X : WX} {As : List Sl} {J S ρ : Type} {kr : ρ → Kd} {Ls : List Sl} {Js : J → List Sl} {B : Bd} {Bs : S → List Sl} {Js' : List Sl}
end
end Fw

namespace PySem
open Sem (wp)
open L2 PyProof.Rows
/-! ### enumerate(d): the keys of a locked dict with their places -/
section
variable {prog : Program} {w : World} {A : Around} {E : Value → Shared → Prop} {s : Shared}
end
end PySem
namespace Fw
open PySem L2 PySem.Spec
open PyProof.Rows hiding St
section
variable {c : Cn} {W0 : Wd} {X : WX} {As : List Sl} {α : Type} [Rp α]
end
end Fw

namespace Fw
open PySem L2
/-! ### a list of three things of unlike kinds, frozen -/
structure H3 (α β γ : Type) where
  a : α
  b : β
  c : γ
deriving DecidableEq
section
variable {α β γ : Type} [Rp α] [Rp β] [Rp γ]
instance : Rp (H3 α β γ) := ⟨fun K x v G => ∃ p a b c, v = .ref p ∧ G p = some (.lst [a, b, c]) ∧ Rp.rep K x.a a G ∧ Rp.rep K x.b b G ∧ Rp.rep K x.c c G,
  fun s ⟨p, a, b, c, e, h, r1, r2, r3⟩ => ⟨p, a, b, c, e, s _ _ h, Rp.mono s r1, Rp.mono s r2, Rp.mono s r3⟩⟩
variable {J S ρ : Type} {c : Cn} {X : WX} {kr : ρ → Kd} {Ls : List Sl} {Js : J → List Sl} {B : Bd} {As : List Sl} {Bs : S → List Sl} {W0 : Wd}
def R.to3H (m : R (H3 α β γ)) (k : α → β → γ → Out S J ρ) : Out S J ρ := m.to fun z => k z.a z.b z.c
omit [Rp α] [Rp β] [Rp γ] in
@[simp] theorem R.to3H_ok (x : H3 α β γ) (k : α → β → γ → Out S J ρ) : R.to3H (R.ok x) k = k x.a x.b x.c := rfl
end
end Fw

namespace Fw
open PySem L2
/-! ### a thing of one's own, or None -/
def ownO {α : Type} [Ob α] (K : Frag) (x : Option α) (v : V) (f : List Addr) (W : Wd) : Prop := match x with
  | none => v = .non ∧ f = []
  | some y => v ≠ .non ∧ Ob.own K y v f W
instance {α : Type} [Fz α] : Fz (Option α) where
  own := ownO
  keep := fun {K x v f W W'} h s n k => by
    cases x with
    | none => exact h
    | some y => exact ⟨h.1, Ob.keep h.2 s n k⟩
  foot := fun {K x v f W} h a ha => by
    cases x with
    | none =>
      have h' : v = .non ∧ f = [] := h
      rw [h'.2] at ha; cases ha
    | some y => exact Ob.foot h.2 a ha
  fz := fun {K x v f W} h => by
    cases x with
    | none => exact h.1
    | some y => exact ⟨h.1, Fz.fz h.2⟩
instance {α : Type} [Fz α] [UfO α] : UfO (Option α) := ⟨fun {K x v f W W'} t n k h => by
  cases x with
  | none => exact h
  | some y => exact ⟨h.1, UfO.uf t n k h.2⟩⟩
/-- no such thing is None -/
class NNo (α : Type) [Ob α] where
  nn : ∀ {K : Frag} {x : α} {v : V} {f : List Addr} {W : Wd}, Ob.own K x v f W → v ≠ .non
instance {α : Type} [Rp α] : NNo (List α) := ⟨fun ⟨p, vs, e, _⟩ => by rw [e]; exact fun z => nomatch z⟩
instance {κ α : Type} [DecidableEq κ] [Rp κ] [DKy κ] [Rp α] : NNo (Dk κ α) := ⟨fun ⟨p, vs, e, _⟩ => by rw [e]; exact fun z => nomatch z⟩
instance {κ α : Type} [DecidableEq κ] [Rp κ] [DKy κ] [Rp α] : NNo (Dq κ α) := ⟨fun ⟨p, vs, e, _⟩ => by rw [e]; exact fun z => nomatch z⟩
instance {α β : Type} [Ob α] [Rp β] : NNo (PF α β) := ⟨fun ⟨p, va, vb, e, _⟩ => by rw [e]; exact fun z => nomatch z⟩
/-- a pair of a thing of one's own and a frozen one may be frozen -/
instance {α β : Type} [Rp α] [Rp β] : Rp (PF α β) := ⟨fun K x v G => ∃ p a b, v = .ref p ∧ SqT K G p [a, b] ∧ Rp.rep K x.a a G ∧ Rp.rep K x.b b G, fun s ⟨p, a, b, e, h, r1, r2⟩ => ⟨p, a, b, e, s.sqt h, Rp.mono s r1, Rp.mono s r2⟩⟩
instance {α β : Type} [Fz α] [Rp β] : Fz (PF α β) where
  fz := fun {K x v f W} ⟨p, va, vb, e, hp, o, r⟩ => ⟨p, va, vb, e, .inl (.inl (Wd.fz_sub _ _ hp)), Fz.fz o, Rp.mono Wd.fz_sub r⟩
section
variable {J S ρ α β : Type} {c : Cn} {X : WX} {kr : ρ → Kd} {Ls : List Sl} {Js : J → List Sl} {B : Bd} {As : List Sl} {Bs : S → List Sl} {W0 : Wd} {K : Frag}
end
instance {α : Type} [Rp α] : Pt (Dq Str α) := ⟨"dict", fun ⟨p, q, e, h, _⟩ => by subst e; exact .base (.dK h)⟩
instance {α β : Type} [Rp α] [Rp β] : Pt (PF α β) := ⟨"tuple", fun ⟨p, a, b, e, h, _⟩ => by subst e; exact sqt_ty h⟩
end Fw

namespace Fw
open PySem L2
/-! ### sum(xs, []) of a list of lists -/
section
open PySem.Spec PyProof.Rows PySem.Calls
open Sem (wp)
variable {prog : Program} {w : World} {A : Around} {R : Result → Shared → Prop}
end
section
open PySem.Spec PyProof.Rows
variable {X : Cx}
end
section
variable {α : Type} [Rp α]
end
end Fw

namespace Fw
open PySem L2
/-! ### x.setdefault(k, v), x one's own dict by texts -/
section
variable {J S ρ α : Type} [Rp α] {c : Cn} {X : WX} {kr : ρ → Kd} {Ls : List Sl} {Js : J → List Sl} {B : Bd} {As : List Sl} {Bs : S → List Sl}
end
/-! ### x[k] = v, x one's own dict that is not locked -/
section
variable {κ α : Type} [DecidableEq κ] [Rp κ] [DKy κ] [Rp α] {J S ρ : Type} {c : Cn} {X : WX} {kr : ρ → Kd} {Ls : List Sl} {Js : J → List Sl} {B : Bd} {As : List Sl} {Bs : S → List Sl}
end
section
variable {α : Type} [Fz α] [NNo α] {J S ρ : Type} {c : Cn} {X : WX} {kr : ρ → Kd} {Ls : List Sl} {Js : J → List Sl} {B : Bd} {As : List Sl} {Bs : S → List Sl}
end
end Fw

namespace Fw
open PySem L2
/-! ### r = xss[a]; r[b] = y: a row by a name of its own, which is not looked at behind it -/
section
variable {α : Type} [Rp α] {c : Cn} {X : WX} {As : List Sl} {J S ρ : Type} {kr : ρ → Kd} {Ls : List Sl} {Js : J → List Sl} {B : Bd} {Bs : S → List Sl}
end
end Fw

namespace Fw
open PySem L2
/-! ### == of lists of values of many kinds -/
section
variable {α β : Type} [Rp α] [Dn α] [Rp β] [Dn β] {K : Frag}
end
end Fw

namespace PySem.OrdBoolInt
open PyProof.Rows PyProof PySem.SeqAt
section
variable {prog : Program} {w : World} {A : Around} {E : Value → Shared → Prop} {s : Shared} {Q : Value → Shared → Prop}
end
end PySem.OrdBoolInt
namespace Fw
open PySem PySem.Spec PyProof.Rows L2
/-! ### i <= x and x < i of a value of many kinds that is a whole number or a truth -/
section
variable {n : Nat} {K : Frag}
end
end Fw

namespace Fw
open PySem PySem.Spec PyProof.Rows L2
/-! ### xs.index(k) of a list of whole numbers -/
/-! ### a tuple of some alike things, one partial -/
end Fw

namespace Fw
open PySem PySem.Spec PyProof.Rows L2
/-! ### (a dict, a number) == (a dict, a number): true where it is -/
/-- the world with more things -/
def exG (W : Wd) (H' : Hp) : Hp := fun a => match W.H a with
  | some _ => W.G a
  | none => match H' a with
    | some u => if imm u = true then some u else none
    | none => none
theorem exG_old {W : Wd} {H' : Hp} {a : Addr} {z : HO} (h : W.H a = some z) : exG W H' a = W.G a := by unfold exG; rw [h]
theorem exG_new {W : Wd} {H' : Hp} {a : Addr} {u : HO} (h : W.H a = none) (h2 : H' a = some u) : exG W H' a = if imm u = true then some u else none := by unfold exG; rw [h]; dsimp only; rw [h2]
theorem exG_no {W : Wd} {H' : Hp} {a : Addr} (h : W.H a = none) (h2 : H' a = none) : exG W H' a = none := by unfold exG; rw [h]; dsimp only; rw [h2]
def Wd.ext (W : Wd) (H' : Hp) (e : Ext W.H H') : Wd where
  G := exG W H'
  H := H'
  sub := fun a o h => by
    cases h1 : W.H a with
    | some z => rw [exG_old h1] at h; exact e a o (W.sub a o h)
    | none =>
      cases h2 : H' a with
      | some u =>
        rw [exG_new h1 h2] at h
        split at h
        · exact h
        · cases h
      | none => rw [exG_no h1 h2] at h; cases h
  im := fun a u h i => by
    cases h1 : W.H a with
    | some z =>
      have := e a z h1
      rw [h] at this
      cases this
      rw [exG_old h1]
      exact W.im a u h1 i
    | none => rw [exG_new h1 h, if_pos i]
theorem Le.ext {W : Wd} {H' : Hp} {e : Ext W.H H'} : Le W (W.ext H' e) where
  g := fun a o h => by
    show exG W H' a = some o
    rw [exG_old (W.sub a o h)]
    exact h
  h := e
  o := fun a h n => by
    show exG W H' a = none
    cases h1 : W.H a with
    | some z => rw [exG_old h1]; exact h
    | none => exact absurd h1 n
section
variable {c : Cn} {W0 : Wd} {X : WX} {As : List Sl} {α : Type} [Rp α]
variable [DecidableEq α] [Pd α]
end
end Fw

namespace Fw
open PySem L2
/-! ### a part of an expression evaluated ahead: places where a part stands first -/
section
variable {c : Cn} {W0 : Wd} {As : List Sl}
end
/-! ### a call that changes x and tells a number, within a statement -/
section
variable {c : Cn} {X : WX} {As : List Sl} {J S ρ α : Type} {kr : ρ → Kd} {Ls : List Sl} {Js : J → List Sl} {B : Bd} {Bs : S → List Sl}
end
end Fw

namespace Fw
open PySem L2
/-! ### x = xs.pop(i) -/
section
variable {J S ρ α : Type} {c : Cn} {X : WX} {kr : ρ → Kd} {Ls : List Sl} {Js : J → List Sl} {B : Bd} {As : List Sl} {Bs : S → List Sl}
end
/-! ### a def that changes what it is handed, called with a new thing that nobody else knows -/
section
variable {c : Cn} {W0 : Wd} {X : WX} {As : List Sl}
end
end Fw

namespace Fw
open PySem L2
open PyProof PyProof.Rows
/-! ### a op b op c op d -/
section
variable {c : Cn} {W0 : Wd} {X : WX} {As Bs : List Sl} {α β γ δ : Type}
end
/-! ### tuples of any length, as values of many kinds -/
section
variable {α : Type} [Rp α] [Dn α] {K : Frag}
end
end Fw

namespace Fw
open PySem L2
/-! ### any frozen thing told by a call that changes, evaluated ahead -/
section
variable {c : Cn} {X : WX} {As : List Sl} {J S ρ α : Type} {kr : ρ → Kd} {Ls : List Sl} {Js : J → List Sl} {B : Bd} {Bs : S → List Sl}
end
/-! ### a body that may raise, and that may end without a return -/
section
variable {c : Cn} {τ : Type}
end
end Fw

namespace Fw
open PySem L2
section
variable {J S ρ α β : Type} {c : Cn} {X : WX} {kr : ρ → Kd} {Ls : List Sl} {Js : J → List Sl} {B : Bd} {As : List Sl} {Bs : S → List Sl}
end
section
variable {φ φ' α κ : Type} {n cls : Str} [Fs φ] [Fs φ'] {J S ρ' : Type} {c : Cn} {X : WX} {kr : ρ' → Kd} {Ls : List Sl} {Js : J → List Sl} {B : Bd} {As : List Sl} {Bs : S → List Sl} {C : Addr} {ns : List Str} {x : Ins cls φ} {pin : Option V}
variable [DecidableEq κ] [Rp κ] [DKy κ]
end
end Fw

namespace Fw
open PySem L2 PySem.Spec
open PyProof.Rows hiding St
/-! ### isinstance of a caught exception, or of None -/
section
variable {K : Frag}
end
end Fw

namespace Fw
open PySem L2
/-! ### a dict of own lists: a new key, d[k] = [] -/
section
variable {κ α : Type} [DecidableEq κ] [Rp κ] [DKy κ] [Rp α]
variable {c : Cn} {W0 : Wd} {X : WX} {As : List Sl} {J S ρ : Type} {kr : ρ → Kd} {Ls : List Sl} {Js : J → List Sl} {B : Bd} {Bs : S → List Sl}
end
section
variable {φ φ' α κ : Type} {n cls : Str} [Fs φ] [Fs φ'] {J S ρ' : Type} {c : Cn} {X : WX} {kr : ρ' → Kd} {Ls : List Sl} {Js : J → List Sl} {B : Bd} {As : List Sl} {Bs : S → List Sl} {C : Addr} {ns : List Str} {x : Ins cls φ} {pin : Option V}
variable [DecidableEq κ] [Rp κ] [DKy κ] [Rp α]
end
end Fw

namespace Fw
open PySem L2
/-! ### a frozen thing whose value is known -/
structure Pn (α : Type) where
  x : α
  v : V
instance {α : Type} [Rp α] : Rp (Pn α) := ⟨fun K p v G => v = p.v ∧ Rp.rep K p.x v G, fun s h => ⟨h.1, Rp.mono s h.2⟩⟩
section
variable {α : Type} {c : Cn} {W0 : Wd} {As : List Sl}
/-- own slots looked at as frozen things whose values are known -/
inductive FvP : List Sl → List V → List Sl → Prop
  | nil : FvP [] [] []
  | un {As Bs : List Sl} {vs : List V} {v : V} : FvP As vs Bs → FvP (.un :: As) (v :: vs) (.un :: Bs)
  | fr {α : Type} [Rp α] {x : α} {As Bs : List Sl} {vs : List V} {v : V} : FvP As vs Bs → FvP (.fr x :: As) (v :: vs) (.fr x :: Bs)
  | ow {α : Type} [Fz α] {pin : Option V} {x : α} {As Bs : List Sl} {vs : List V} {v : V} : FvP As vs Bs → FvP (.ow pin x :: As) (v :: vs) (.fr (Pn.mk x v) :: Bs)
  | pf {α : Type} [Rp α] {x : α} {As Bs : List Sl} {vs : List V} {v : V} : FvP As vs Bs → FvP (.fr x :: As) (v :: vs) (.fr (Pn.mk x v) :: Bs)
theorem FvP.len {As Bs : List Sl} {vs : List V} (h : FvP As vs Bs) : As.length = Bs.length ∧ vs.length = As.length := by
  induction h with
  | nil => exact ⟨rfl, rfl⟩
  | _ _ ih => exact ⟨congrArg (· + 1) ih.1, congrArg (· + 1) ih.2⟩
theorem FvP.at {K : Frag} {W : Wd} {As Bs : List Sl} {vs : List V} (h : FvP As vs Bs) : ∀ {σ : St}, (∀ (i : Nat) v o, vs[i]? = some v → σ[i]? = some (some o) → v = o) → (∀ (i : Nat) A o, As[i]? = some A → σ[i]? = some o → ∃ f, Hd K A o W f) → ∀ (i : Nat) B o, Bs[i]? = some B → σ[i]? = some o → Hd K B o (.all W.H) [] := by
  induction h with
  | nil => intro σ _ _ i B o e; simp at e
  | @un As Bs vs v _ ih =>
    intro σ hv hh i B o e1 e2
    cases σ with
    | nil => simp at e2
    | cons s σ =>
      cases i with
      | zero => cases e1; trivial
      | succ i => exact ih (σ := σ) (fun j v o a b => hv (j + 1) v o a b) (fun j A o a b => hh (j + 1) A o a b) i B o e1 e2
  | @fr α _ x As Bs vs v _ ih =>
    intro σ hv hh i B o e1 e2
    cases σ with
    | nil => simp at e2
    | cons s σ =>
      cases i with
      | zero =>
        cases e1
        obtain ⟨f, w, e, r⟩ := hh 0 _ o rfl e2
        exact ⟨w, e, Rp.mono W.sub r⟩
      | succ i => exact ih (σ := σ) (fun j v o a b => hv (j + 1) v o a b) (fun j A o a b => hh (j + 1) A o a b) i B o e1 e2
  | @ow α _ pin x As Bs vs v _ ih =>
    intro σ hv hh i B o e1 e2
    cases σ with
    | nil => simp at e2
    | cons s σ =>
      cases i with
      | zero =>
        cases e1
        obtain ⟨f, w, e, r, _⟩ := hh 0 _ o rfl e2
        subst e
        have : v = w := hv 0 v w rfl e2
        exact ⟨w, rfl, this.symm, own_bw (A := W) r⟩
      | succ i => exact ih (σ := σ) (fun j v o a b => hv (j + 1) v o a b) (fun j A o a b => hh (j + 1) A o a b) i B o e1 e2
  | @pf α _ x As Bs vs v _ ih =>
    intro σ hv hh i B o e1 e2
    cases σ with
    | nil => simp at e2
    | cons s σ =>
      cases i with
      | zero =>
        cases e1
        obtain ⟨f, w, e, r⟩ := hh 0 _ o rfl e2
        subst e
        have : v = w := hv 0 v w rfl e2
        exact ⟨w, rfl, this.symm, Rp.mono W.sub r⟩
      | succ i => exact ih (σ := σ) (fun j v o a b => hv (j + 1) v o a b) (fun j A o a b => hh (j + 1) A o a b) i B o e1 e2
/-- the end's slots: what they were, what they are looked at, what they are -/
inductive FvB : List Sl → List V → List Sl → List Sl → Prop
  | nil : FvB [] [] [] []
  | un {A B : Sl} {As Bs Cs : List Sl} {vs : List V} {v : V} : FvB As vs Bs Cs → FvB (A :: As) (v :: vs) (B :: Bs) (.un :: Cs)
  | fr {α : Type} [Rp α] [Uf α] {A : Sl} {x : α} {As Bs Cs : List Sl} {vs : List V} {v : V} : FvB As vs Bs Cs → FvB (A :: As) (v :: vs) (.fr x :: Bs) (.fr x :: Cs)
  | ow {α : Type} [Fz α] {pin : Option V} {x : α} {As Bs Cs : List Sl} {vs : List V} {v : V} : FvB As vs Bs Cs → FvB (.ow pin x :: As) (v :: vs) (.fr (Pn.mk x v) :: Bs) (.ow pin x :: Cs)
  | pf {α : Type} [Rp α] {x : α} {As Bs Cs : List Sl} {vs : List V} {v : V} : FvB As vs Bs Cs → FvB (.fr x :: As) (v :: vs) (.fr (Pn.mk x v) :: Bs) (.fr x :: Cs)
theorem FvB.len {As Bs Cs : List Sl} {vs : List V} (h : FvB As vs Bs Cs) : Bs.length = Cs.length := by
  induction h with
  | nil => rfl
  | _ _ ih => exact congrArg (· + 1) ih
theorem FvB.at {K : Frag} {W W3 : Wd} {e : Le (.all W.H) W3} {As Bs Cs : List Sl} {vs : List V} (h : FvB As vs Bs Cs) : ∀ {σ σ3 : St} {F : Nat → List Addr}, σ.length = As.length → (∀ (i : Nat) v o, vs[i]? = some v → σ[i]? = some (some o) → v = o) → (∀ (i : Nat) A o, As[i]? = some A → σ[i]? = some o → Hd K A o W (F i)) → (∀ i a, a ∈ F i → W.G a = none ∧ W.H a ≠ none) →
    (∀ (i : Nat) B o, Bs[i]? = some B → σ3[i]? = some o → ∃ f, Hd K B o W3 f) → ∀ (i : Nat) C o, Cs[i]? = some C → σ3[i]? = some o → Hd K C o (W.bk W3 e) (F i) := by
  induction h with
  | nil => intro σ σ3 F _ _ _ _ _ i C o e; simp at e
  | @un A B As Bs Cs vs v _ ih =>
    intro σ σ3 F hl hv hh hf hb i C o e1 e2
    cases σ3 with
    | nil => simp at e2
    | cons s3 σ3 =>
      cases σ with
      | nil => simp at hl
      | cons s σ =>
        cases i with
        | zero => cases e1; trivial
        | succ i => exact ih (σ := σ) (σ3 := σ3) (F := fun j => F (j + 1)) (by simpa using hl) (fun j v o a b => hv (j + 1) v o a b) (fun j A o a b => hh (j + 1) A o a b) (fun j => hf (j + 1)) (fun j B o a b => hb (j + 1) B o a b) i C o e1 e2
  | @fr α _ _ A x As Bs Cs vs v _ ih =>
    intro σ σ3 F hl hv hh hf hb i C o e1 e2
    cases σ3 with
    | nil => simp at e2
    | cons s3 σ3 =>
      cases σ with
      | nil => simp at hl
      | cons s σ =>
        cases i with
        | zero =>
          cases e1
          obtain ⟨f, w, ew, r⟩ := hb 0 _ o rfl e2
          exact ⟨w, ew, Uf.uf bk_tk r⟩
        | succ i => exact ih (σ := σ) (σ3 := σ3) (F := fun j => F (j + 1)) (by simpa using hl) (fun j v o a b => hv (j + 1) v o a b) (fun j A o a b => hh (j + 1) A o a b) (fun j => hf (j + 1)) (fun j B o a b => hb (j + 1) B o a b) i C o e1 e2
  | @ow α _ pin x As Bs Cs vs v _ ih =>
    intro σ σ3 F hl hv hh hf hb i C o e1 e2
    cases σ3 with
    | nil => simp at e2
    | cons s3 σ3 =>
      cases σ with
      | nil => simp at hl
      | cons s σ =>
        cases i with
        | zero =>
          cases e1
          obtain ⟨f, w, ew, rv, _⟩ := hb 0 _ o rfl e2
          have h0 := hh 0 _ s rfl rfl
          have h1 := Hd.mono (bk_le (e := e)) (hf 0) h0
          obtain ⟨w0, es, _⟩ := h0
          have : v = w0 := hv 0 v w0 rfl (by rw [es]; rfl)
          have eo : o = s := by rw [ew, es, rv, ← this]
          rw [eo]
          exact h1
        | succ i => exact ih (σ := σ) (σ3 := σ3) (F := fun j => F (j + 1)) (by simpa using hl) (fun j v o a b => hv (j + 1) v o a b) (fun j A o a b => hh (j + 1) A o a b) (fun j => hf (j + 1)) (fun j B o a b => hb (j + 1) B o a b) i C o e1 e2
  | @pf α _ x As Bs Cs vs v _ ih =>
    intro σ σ3 F hl hv hh hf hb i C o e1 e2
    cases σ3 with
    | nil => simp at e2
    | cons s3 σ3 =>
      cases σ with
      | nil => simp at hl
      | cons s σ =>
        cases i with
        | zero =>
          cases e1
          obtain ⟨f, w, ew, rv, _⟩ := hb 0 _ o rfl e2
          have h0 := hh 0 _ s rfl rfl
          have h1 := Hd.mono (bk_le (e := e)) (hf 0) h0
          obtain ⟨w0, es, _⟩ := h0
          have : v = w0 := hv 0 v w0 rfl (by rw [es]; rfl)
          have eo : o = s := by rw [ew, es, rv, ← this]
          rw [eo]
          exact h1
        | succ i => exact ih (σ := σ) (σ3 := σ3) (F := fun j => F (j + 1)) (by simpa using hl) (fun j v o a b => hv (j + 1) v o a b) (fun j A o a b => hh (j + 1) A o a b) (fun j => hf (j + 1)) (fun j B o a b => hb (j + 1) B o a b) i C o e1 e2
theorem At.back {K : Frag} {W W3 : Wd} {Bs Cs : List Sl} {vs : List V} {σ σ3 : St} (h : At K W0 As σ W) (hv : ∀ (i : Nat) v o, vs[i]? = some v → σ[i]? = some (some o) → v = o) (h3 : At K (.all W.H) Bs σ3 W3) (z : FvB As vs Bs Cs) : At K W0 Cs σ3 (W.bk W3 h3.le) := by
  have l3 := h3.len
  have le3 := h3.le
  obtain ⟨l, le, F, f1, f2, f3⟩ := h
  obtain ⟨_, _, G, g1, _, _⟩ := h3
  refine ⟨l3.trans z.len, le.trans bk_le, F, z.at l hv f1 (fun i a ha => ⟨(f3 i a ha).1, (f3 i a ha).2.1⟩) fun i B o a b => ⟨G i, g1 i B o a b⟩, f2, fun i a ha => ?_⟩
  obtain ⟨p1, p2, p3⟩ := f3 i a ha
  have hk := (bk_le (W := W) (e := le3)).o a p1 p2
  refine ⟨hk, fun q => ?_, p3⟩
  cases q9 : W.H a with
  | none => exact p2 q9
  | some u =>
    have := (bk_le (W := W) (e := le3)).h a u q9
    rw [q] at this
    cases this
end
section
variable {J S ρ : Type} {c : Cn} {X : WX} {kr : ρ → Kd} {Ls : List Sl} {Js : J → List Sl} {B : Bd} {As : List Sl} {Cs : S → List Sl}
end
end Fw

namespace Fw
open PySem L2
/-! ### a list of two things of unlike kinds, frozen -/
structure H2 (α β : Type) where
  a : α
  b : β
deriving DecidableEq
section
variable {α β : Type} [Rp α] [Rp β]
instance : Rp (H2 α β) := ⟨fun K x v G => ∃ p a b, v = .ref p ∧ G p = some (.lst [a, b]) ∧ Rp.rep K x.a a G ∧ Rp.rep K x.b b G,
  fun s ⟨p, a, b, e, h, r1, r2⟩ => ⟨p, a, b, e, s _ _ h, Rp.mono s r1, Rp.mono s r2⟩⟩
instance [Pd α] [Pd β] : Pd (H2 α β) := ⟨fun x => .list [Pd.pd x.a, Pd.pd x.b], fun ⟨p, a, b, e, h, r1, r2⟩ => by subst e; exact .lst (.inl (.inl h)) (.cons (Pd.dp r1) (.cons (Pd.dp r2) .nil)), max (Pd.n α) (Pd.n β) + 1, fun ⟨p, a, b, e, h, r1, r2⟩ => by
  simp only [PyData.depth, PyData.depthAll]; have := Pd.dep r1; have := Pd.dep r2; omega, fun ⟨p, a, b, e, h, r1, r2⟩ => by simp only [PyData.canLay0, PyData.canLayAll0, Pd.lay r1, Pd.lay r2, Bool.and_self], fun x y => by
  simp only [PyData.eqv, PyData.eqvAll, Bool.and_eq_true, Pd.eq, and_true]; cases x; cases y; simp⟩
variable {c : Cn} {X : WX} {As : List Sl} {W0 : Wd}
/-! ### None as a value of many kinds -/
instance [Dn α] : Dn (Option α) where
  toD x := match x with
    | none => .none
    | some y => Dn.toD y
  dp := fun {K x v G} h => by
    cases x with
    | none => have e : v = .non := h; subst e; exact .non
    | some y => exact Dn.dp h.2
  n := Dn.n α
  dep := fun {K x v G} h => by
    cases x with
    | none => simp [PyData.depth]
    | some y => exact Dn.dep h.2
  lay := fun {K x v G} h => by
    cases x with
    | none => simp [PyData.canLay0]
    | some y => exact Dn.lay h.2
instance [Dn α] [Dn β] : Dn (H2 α β) := ⟨fun x => .list [Dn.toD x.a, Dn.toD x.b], fun ⟨p, a, b, e, h, r1, r2⟩ => by subst e; exact .lst (.inl (.inl h)) (.cons (Dn.dp r1) (.cons (Dn.dp r2) .nil)), max (Dn.n α) (Dn.n β) + 1, fun ⟨p, a, b, e, h, r1, r2⟩ => by
  simp only [PyData.depth, PyData.depthAll]; have := Dn.dep r1; have := Dn.dep r2; omega, fun ⟨p, a, b, e, h, r1, r2⟩ => by simp only [PyData.canLay0, PyData.canLayAll0, Dn.lay r1, Dn.lay r2, Bool.and_self]⟩
end
section
variable {n : Nat} {K : Frag}
end
end Fw

namespace Fw
open PySem L2
/-! ### try .. except X as n: .. except Y: .. : several handlers, with a name (the exception is kept) or without -/
section
open PySem.Spec PyProof.Rows
inductive HdsX (X : Cx) : List ExceptHandler → List (Value × Option Nat × TS) → Prop
  | nil {hds : List ExceptHandler} : HdsX X hds []
  | anon {x : Str} {c : Value} {ts : TS} {b₀ : Stmt} {suite : List Stmt} {np pos' : Pos} {hds : List ExceptHandler} {l : List (Value × Option Nat × TS)} (hc : Names X x c)
      (hsu : ∀ (a : Addr) (pn : List (Addr × Obj)), PSs (X.suite a pn) (b₀ :: suite) ts) (r : HdsX X hds l) :
      HdsX X (.ExceptHandler (some (.Name x np)) none (b₀ :: suite) pos' :: hds) ((c, none, ts) :: l)
  | as {x n : Str} {i : Nat} {c : Value} {ts : TS} {b₀ : Stmt} {suite : List Stmt} {np pos' : Pos} {hds : List ExceptHandler} {l : List (Value × Option Nat × TS)} (hi : X.N[i]? = some n) (hln : X.env.kindOf n = some .local) (hc : Names X x c)
      (hsu : ∀ (a : Addr) (pn : List (Addr × Obj)), PSs (X.suite a pn) (b₀ :: suite) ts) (r : HdsX X hds l) :
      HdsX X (.ExceptHandler (some (.Name x np)) (some n) (b₀ :: suite) pos' :: hds) ((c, some i, ts) :: l)
variable {X : Cx} {body : List Stmt} {h₀ : ExceptHandler} {hds : List ExceptHandler} {l : List (Value × Option Nat × TS)} {pos : Pos} {tb : WX → TS}
end
/-! the mirror -/
section
variable {J S ρ : Type}
def CatB (K : Frag) (M : Str → Value) (tb : List (Str × Bool)) (cv : Value) : Prop := ∀ n b, tb.lookup n = some b → ∃ C, M n = .ref C ∧ PySem.W.nsIn K mainGlobals n = some (some (.ref C)) ∧ PySem.W.exmOne K (.ref C) cv = some b
variable {c : Cn} {X : WX} {As : List Sl} {kr : ρ → Kd} {Ls : List Sl} {Js : J → List Sl} {B : Bd} {Bs : S → List Sl}
inductive DHs (c : Cn) (kr : ρ → Kd) (Js : J → List Sl) (B : Bd) (As : List Sl) (Bs : S → List Sl) : List (Value × Option Nat × TS) → List (List (Str × Bool) × (Exc → Out S J ρ)) → Prop
  | nil : DHs c kr Js B As Bs [] []
  | anon {cv : Value} {ts : TS} {tb : List (Str × Bool)} {h : Out S J ρ} {l : List (Value × Option Nat × TS)} {hs : List (List (Str × Bool) × (Exc → Out S J ρ))} {Js' : List Sl} (hc : CatB c.K c.M tb cv) (hd : Den c (fun _ _ _ _ => False) kr Js' Js B ts As h Bs) (r : DHs c kr Js B As Bs l hs) :
      DHs c kr Js B As Bs ((cv, none, ts) :: l) ((tb, fun _ => h) :: hs)
  | as {cv : Value} {ts : TS} {tb : List (Str × Bool)} {h : Exc → Out S J ρ} {l : List (Value × Option Nat × TS)} {hs : List (List (Str × Bool) × (Exc → Out S J ρ))} {Js' : List Sl} {Cs : Exc → S → List Sl} (i : Nat) (hc : CatB c.K c.M tb cv)
      (hd : ∀ e : Exc, Den c (fun _ _ _ _ => False) kr Js' Js B ts (As.set i (.fr e)) (h e) (Cs e)) (hw : ∀ e s, Wk ((Cs e s).set i .un) (Bs s)) (hj : ∀ j σ W, At c.K B.W0 (Js j) σ W → At c.K B.W0 (Js j) (σ.set i none) W) (r : DHs c kr Js B As Bs l hs) :
      DHs c kr Js B As Bs ((cv, some i, ts) :: l) ((tb, h) :: hs)
end
end Fw

namespace Fw
open PySem L2
/-! ### a def that changes its first argument, called with a new thing that nobody else knows -/
section
variable {c : Cn} {W0 : Wd} {X : WX} {As : List Sl}
end
end Fw

namespace Fw
open PySem L2
/-! ### defs that change any things handed in: the promise by slots -/
structure AtF (K : Frag) (As : List Sl) (σ : St) (W : Wd) (F : Nat → List Addr) : Prop where
  len : σ.length = As.length
  hd : ∀ (i : Nat) A o, As[i]? = some A → σ[i]? = some o → Hd K A o W (F i)
  dj : ∀ i j a, i ≠ j → a ∈ F i → a ∉ F j
  ft : ∀ i a, a ∈ F i → W.G a = none ∧ W.H a ≠ none
  out : ∀ i, As.length ≤ i → F i = []
theorem AtF.mono {K : Frag} {As : List Sl} {σ : St} {W W' : Wd} {F : Nat → List Addr} (h : AtF K As σ W F) (e : Le W W') : AtF K As σ W' F :=
  ⟨h.len, fun i A o a b => Hd.mono e (fun x hx => h.ft i x hx) (h.hd i A o a b), h.dj, fun i a ha => ⟨e.o a (h.ft i a ha).1 (h.ft i a ha).2, fun q => (h.ft i a ha).2 (e.h.nope q)⟩, h.out⟩
def fl (F : Nat → List Addr) (n : Nat) : List Addr := (List.range n).flatMap F
/-! the def itself -/
section
variable {τ S : Type} {c : Cn} {ins : τ → List Sl} {outs : S → List Sl}
/-- the slots at the end tell what the promise tells -/
inductive OutOk : List Sl → List V → List Sl → Prop
  | nil {As : List Sl} : OutOk As [] []
  | un {A : Sl} {As Os : List Sl} {v : V} {vs : List V} : OutOk As vs Os → OutOk (A :: As) (v :: vs) (.un :: Os)
  | ow {α : Type} [Ob α] {y : α} {As Os : List Sl} {v : V} {vs : List V} : OutOk As vs Os → OutOk (.ow (some v) y :: As) (v :: vs) (.ow none y :: Os)
theorem OutOk.len {As : List Sl} {vs : List V} {Os : List Sl} (h : OutOk As vs Os) : vs.length = Os.length := by
  induction h with
  | nil => rfl
  | _ _ ih => exact congrArg (· + 1) ih
theorem OutOk.at {K : Frag} {W : Wd} {As : List Sl} {vs : List V} {Os : List Sl} (h : OutOk As vs Os) : ∀ {σ : St} {F : Nat → List Addr}, σ.length = As.length → (∀ (i : Nat) A o, As[i]? = some A → σ[i]? = some o → Hd K A o W (F i)) → ∀ (i : Nat) O v, Os[i]? = some O → vs[i]? = some v → Hd K O (some v) W (F i) := by
  induction h with
  | nil => intro σ F _ _ i O v e; simp at e
  | @un A As Os v vs _ ih =>
    intro σ F hl hh i O w e1 e2
    cases σ with
    | nil => simp at hl
    | cons s σ =>
      cases i with
      | zero => cases e1; trivial
      | succ i => exact ih (σ := σ) (F := fun j => F (j + 1)) (by simpa using hl) (fun j A o a b => hh (j + 1) A o a b) i O w e1 e2
  | @ow α _ y As Os v vs _ ih =>
    intro σ F hl hh i O w e1 e2
    cases σ with
    | nil => simp at hl
    | cons s σ =>
      cases i with
      | zero =>
        cases e1
        cases e2
        obtain ⟨w, es, r, pn⟩ := hh 0 _ s rfl rfl
        have := pn v rfl
        subst this
        exact ⟨w, rfl, r, fun u z => nomatch z⟩
      | succ i => exact ih (σ := σ) (F := fun j => F (j + 1)) (by simpa using hl) (fun j A o a b => hh (j + 1) A o a b) i O w e1 e2
variable {N : List Str} {n k : Nat} {t : TS} {vs : List V} {H : Hp} {Q : VK} {E : XK}
/-! return e: frozen, new, own -/
variable {J ρ' S' : Type} {X : WX} {Ls : List Sl} {Js : J → List Sl} {B : Bd} {As : List Sl} {Bs : S' → List Sl}
end
end Fw

namespace Fw
open PySem L2
/-! ### calls of defs that change any things handed in -/
/-- what a call's arguments are: frozen, a slot's own thing, a new thing -/
inductive GArgs (K : Frag) (As : List Sl) (σ : St) (A W : Wd) : List (Option Nat) → List Sl → List V → List (List Addr) → Prop
  | nil : GArgs K As σ A W [] [] [] []
  | fr {α : Type} [Rp α] {x : α} {v : V} {J : List (Option Nat)} {Is : List Sl} {vs : List V} {fs : List (List Addr)} : Rp.rep K x v W.G → GArgs K As σ A W J Is vs fs → GArgs K As σ A W (none :: J) (.fr x :: Is) (v :: vs) ([] :: fs)
  | ow {α : Type} [Ob α] {y : α} {pin : Option V} {i : Nat} {v : V} {J : List (Option Nat)} {Is : List Sl} {vs : List V} {fs : List (List Addr)} : As[i]? = some (.ow pin y) → σ[i]? = some (some v) → GArgs K As σ A W J Is vs fs → GArgs K As σ A W (some i :: J) (.ow none y :: Is) (v :: vs) ([] :: fs)
  | nw {α : Type} [Ob α] {y : α} {v : V} {f : List Addr} {J : List (Option Nat)} {Is : List Sl} {vs : List V} {fs : List (List Addr)} : Ob.own K y v f W → (∀ a ∈ f, A.H a = none) → (∀ g ∈ fs, ∀ a ∈ f, a ∉ g) → GArgs K As σ A W J Is vs fs → GArgs K As σ A W (none :: J) (.ow none y :: Is) (v :: vs) (f :: fs)
section
variable {K : Frag} {As : List Sl} {σ : St}
theorem GArgs.mono {A W W' : Wd} {J : List (Option Nat)} {Is : List Sl} {vs : List V} {fs : List (List Addr)} (h : GArgs K As σ A W J Is vs fs) (e : Le W W') : GArgs K As σ A W' J Is vs fs := by
  induction h with
  | nil => exact .nil
  | fr r _ ih => exact .fr (Rp.mono e.g r) ih
  | ow h1 h2 _ ih => exact .ow h1 h2 ih
  | nw o n d _ ih => exact .nw (own_up o e) n d ih
theorem GArgs.dn {A A' W : Wd} {J : List (Option Nat)} {Is : List Sl} {vs : List V} {fs : List (List Addr)} (h : GArgs K As σ A W J Is vs fs) (e : Le A' A) : GArgs K As σ A' W J Is vs fs := by
  induction h with
  | nil => exact .nil
  | fr r _ ih => exact .fr r ih
  | ow h1 h2 _ ih => exact .ow h1 h2 ih
  | nw o n d _ ih => exact .nw o (fun a ha => e.h.nope (n a ha)) d ih
theorem GArgs.new {A W : Wd} {J : List (Option Nat)} {Is : List Sl} {vs : List V} {fs : List (List Addr)} (h : GArgs K As σ A W J Is vs fs) : ∀ g ∈ fs, ∀ a ∈ g, A.H a = none ∧ W.G a = none ∧ W.H a ≠ none := by
  induction h with
  | nil => intro g hg; cases hg
  | fr r _ ih => intro g hg a ha; rcases List.mem_cons.mp hg with z | z; · subst z; cases ha
                 · exact ih g z a ha
  | ow h1 h2 _ ih => intro g hg a ha; rcases List.mem_cons.mp hg with z | z; · subst z; cases ha
                     · exact ih g z a ha
  | nw o n d _ ih => intro g hg a ha; rcases List.mem_cons.mp hg with z | z; · subst z; exact ⟨n a ha, Ob.foot o a ha⟩
                     · exact ih g z a ha
/-- footprints of a call's arguments -/
def gFp (F : Nat → List Addr) : List (Option Nat) → List (List Addr) → Nat → List Addr
  | some i :: _, _ :: _, 0 => F i
  | none :: _, f :: _, 0 => f
  | _ :: J, _ :: fs, p + 1 => gFp F J fs p
  | _, _, _ => []
theorem GArgs.len {A W : Wd} {J : List (Option Nat)} {Is : List Sl} {vs : List V} {fs : List (List Addr)} (h : GArgs K As σ A W J Is vs fs) : vs.length = Is.length ∧ J.length = Is.length ∧ fs.length = Is.length := by
  induction h with
  | nil => exact ⟨rfl, rfl, rfl⟩
  | _ => simp_all
theorem GArgs.hd {A W : Wd} {J : List (Option Nat)} {Is : List Sl} {vs : List V} {fs : List (List Addr)} (h : GArgs K As σ A W J Is vs fs) {F : Nat → List Addr} (h1 : ∀ (i : Nat) A o, As[i]? = some A → σ[i]? = some o → Hd K A o W (F i)) : ∀ (p : Nat) B v, Is[p]? = some B → vs[p]? = some v → Hd K B (some v) W (gFp F J fs p) := by
  induction h with
  | nil => intro p B v e; simp at e
  | @fr α _ x v J Is vs fs r _ ih =>
    intro p B w e1 e2
    cases p with
    | zero => cases e1; cases e2; exact ⟨v, rfl, r⟩
    | succ p => exact ih p B w e1 e2
  | @ow α _ y pin i v J Is vs fs q1 q2 _ ih =>
    intro p B w e1 e2
    cases p with
    | zero =>
      cases e1; cases e2
      obtain ⟨w, ew, r, _⟩ := h1 i _ _ q1 q2
      exact ⟨w, ew, r, fun u z => nomatch z⟩
    | succ p => exact ih p B w e1 e2
  | @nw α _ y v f J Is vs fs o n d _ ih =>
    intro p B w e1 e2
    cases p with
    | zero => cases e1; cases e2; exact ⟨v, rfl, o, fun u z => nomatch z⟩
    | succ p => exact ih p B w e1 e2
end
section
variable {K : Frag} {W0 : Wd} {As : List Sl}
end
/-! the slots behind a call -/
section
variable {τ τ' S α β : Type} {c : Cn} {W0 : Wd} {X : WX} {As : List Sl}
variable {J' S' ρ : Type} {kr : ρ → Kd} {Ls : List Sl} {Js : J' → List Sl} {B : Bd} {Bs : S' → List Sl} {ins : τ → List Sl} {outs : S → List Sl} {f : τ → R S}
end
end Fw

namespace Fw
open PySem L2
/-! ### an expression looked at with a dict of one's own lists locked for its time -/
inductive FvAt : Sl → Sl → Prop
  | un {A : Sl} : FvAt A .un
  | fr {α : Type} [Rp α] {x : α} : FvAt (.fr x) (.fr x)
  | ow {α : Type} [Fz α] {pin : Option V} {x : α} : FvAt (.ow pin x) (.fr x)
theorem FvW.get {As Bs : List Sl} (h : FvW As Bs) : ∀ (j : Nat) B, Bs[j]? = some B → ∃ A, As[j]? = some A ∧ FvAt A B := by
  induction h with
  | nil => intro j B e; simp at e
  | un _ ih => intro j B e; cases j with
    | zero => cases e; exact ⟨_, rfl, .un⟩
    | succ j => exact ih j B e
  | fr _ ih => intro j B e; cases j with
    | zero => cases e; exact ⟨_, rfl, .fr⟩
    | succ j => exact ih j B e
  | ow _ ih => intro j B e; cases j with
    | zero => cases e; exact ⟨_, rfl, .ow⟩
    | succ j => exact ih j B e
  | no _ ih => intro j B e; cases j with
    | zero => cases e; exact ⟨_, rfl, .un⟩
    | succ j => exact ih j B e
section
variable {κ α : Type} [DecidableEq κ] [Rp κ] [DKy κ] [Rp α] {K : Frag} {W0 W : Wd} {As Bs : List Sl} {σ : St}
variable {c : Cn} {X : WX} {ρ : Type}
end
end Fw

namespace Fw
open PySem L2
/-! ### values of many kinds that are no lists, no tuples -/
instance : Uf (Dy 0) := ⟨fun {K x v G G'} t h => by
  obtain ⟨d⟩ := x
  obtain ⟨h1, h2, h3⟩ := h
  dsimp only at h1 h2 h3
  refine ⟨?_, h2, h3⟩
  cases h1 with
  | non => exact .non
  | bl b => exact .bl b
  | int i => exact .int i
  | str s => exact .str s
  | lst _ _ => simp only [PyData.depth] at h2; omega
  | tup _ _ => simp only [PyData.depth] at h2; omega⟩
/-! ### a statement that changes nothing of one's own, neither returns nor jumps -/
section
variable {J S ρ : Type}
def Out.jabs (m : Out S Empty Empty) : Out S J ρ := match m with
  | .nx s => .nx s
  | .rt r => nomatch r
  | .bk j => nomatch j
  | .ct j => nomatch j
  | .ex e => .ex e
  | .no => .no
@[simp] theorem Out.jabs_nx (s : S) : (Out.nx s : Out S Empty Empty).jabs = (Out.nx s : Out S J ρ) := rfl
@[simp] theorem Out.jabs_ex (e : Exc) : (Out.ex e : Out S Empty Empty).jabs = (Out.ex e : Out S J ρ) := rfl
@[simp] theorem Out.jabs_no : (Out.no : Out S Empty Empty).jabs = (Out.no : Out S J ρ) := rfl
variable {c : Cn} {X : WX} {kr : ρ → Kd} {Ls : List Sl} {Js : J → List Sl} {B : Bd} {As : List Sl} {Cs : S → List Sl}
end
end Fw

namespace Fw
open PySem L2
/-! ### a dict of own lists held by a name -/
section
variable {κ α : Type} [DecidableEq κ] [Rp κ] [DKy κ] [Rp α]
variable {c : Cn} {W0 : Wd} {X : WX} {As : List Sl} {J S ρ : Type} {kr : ρ → Kd} {Ls : List Sl} {Js : J → List Sl} {B : Bd} {Bs : S → List Sl}
end
end Fw

namespace Fw
open PySem L2
/-! ### a comprehension within a comprehension -/
end Fw

namespace Fw
open PySem L2
/-! ### str of a text or a number; a pair looked at as a tuple of its kinds -/
section
variable {X : Cx}
end
section
variable {K : Frag} {X : WX}
end
/-! ### d.pop(k), d a dict of own lists -/
section
variable {κ α : Type} [DecidableEq κ] [Rp κ] [PKy κ] [Rp α]
variable {c : Cn} {W0 : Wd} {X : WX} {As : List Sl} {J S ρ : Type} {kr : ρ → Kd} {Ls : List Sl} {Js : J → List Sl} {B : Bd} {Bs : S → List Sl}
end
section
variable {φ φ' α κ : Type} {n cls : Str} [Fs φ] [Fs φ'] {J S ρ' : Type} {c : Cn} {X : WX} {kr : ρ' → Kd} {Ls : List Sl} {Js : J → List Sl} {B : Bd} {As : List Sl} {Bs : S → List Sl} {C : Addr} {ns : List Str} {x : Ins cls φ} {pin : Option V}
variable [DecidableEq κ] [Rp κ] [PKy κ] [Rp α]
end
/-! ### o.f.m(..), where the method changes the field -/
section
variable {φ ψ τ ρ : Type} {n m cls cls2 : Str} [Fs φ] [Fs ψ] [Args τ] {J S ρ' : Type} {c : Cn} {X : WX} {kr : ρ' → Kd} {Ls : List Sl} {Js : J → List Sl} {B : Bd} {As : List Sl} {Bs : S → List Sl} {C C2 : Addr} {ns ns2 : List Str} {x : Ins cls φ} {pin : Option V}
end
/-! ### an if whose else never goes on -/
section
variable {J S T ρ : Type} {c : Cn} {X : WX} {kr : ρ → Kd} {Ls : List Sl} {Js : J → List Sl} {B : Bd} {As : List Sl} {Bs : S → List Sl} {Cs : T → List Sl}
end
end Fw

namespace Fw
open PySem L2
/-! ### a method that changes its object and tells something, within a statement -/
section
variable {φ τ ρ' ρ S J β : Type} {m cls : Str} [Fs φ] [Args τ] [Rp ρ'] {c : Cn} {X : WX} {kr : ρ → Kd} {Ls : List Sl} {Js : J → List Sl} {B : Bd} {As : List Sl} {Bs : S → List Sl} {C : Addr} {ns : List Str}
end
/-! ### a test of several parts, of which a later one changes things: one if after the other -/
section
variable {J S ρ : Type} {c : Cn} {X : WX} {kr : ρ → Kd} {Ls : List Sl} {Js : J → List Sl} {B : Bd} {As : List Sl} {Bs : S → List Sl} {m : Out S J ρ}
end
/-! ### e.replace of two written texts -/
section
variable {c : Cn} {W0 : Wd} {X : WX} {As : List Sl}
end
/-! ### return of what cannot raise, where a thing handed in was changed -/
section
variable {S ρ α : Type} {c : Cn} {X : WX} {As : List Sl} {Bs : S → List Sl}
end
/-! ### tokens: a comprehension within which one token is out -/
section
open PySem.Spec PyProof.Rows
variable {X : Cx}
end
structure PSsU (X : Cx) (st : List Stmt) (t : TS) : Prop where
  h : PSsT X st t
/-! ### behind o.m('..') a token is out -/
structure PST1 (X : Cx) (st : Stmt) (t : TS) : Prop where
  h : ∀ (pins : List (Addr × Obj)) (s : Shared) (σ : L2.St) (H : Hp) (D : Ends), Inv X pins σ H s → t D σ H → wpAny (model X.prog X.w) X.A (exec st X.env) (fun f s' => 1 ≤ s'.toks ∧ SP X pins D f s') X.xe s
section
open PySem.Spec PyProof.Rows
variable {X : Cx} {CX : CXT} {k : Nat} {f C : Addr} {fd : FuncData} {ps : List Str} {sp : Sp} {E : L2.St → XK} {m : Str} {p pos apos epos cpos : Pos} {o : Expr} {ta : TE} {rest : List Stmt} {u : TS} {x : Str} {j : Nat}
end
/-! ### .. as structures, for the elaborator -/
structure PEU (X : Cx) (e : Expr) (t : TE) : Prop where
  h : PET X e t
section
open PySem.Spec PyProof.Rows
variable {X : Cx}
end
/-! ### f() -/
section
open PySem.Spec PyProof.Rows
variable {X : Cx} {CX : CXT} {k : Nat} {f : Addr} {fd : FuncData} {ps : List Str} {sp : Sp} {E : L2.St → XK} {x : Str} {p pos : Pos}
end
end Fw

namespace Fw
open PySem L2
/-! ### expressions that change things, within a comprehension -/
section
variable {c : Cn} {W0 : Wd} {X : WX} {As : List Sl} {α β γ ρ τ : Type} {Bs : α → List Sl}
end
/-! ### .. the comprehension -/
section
variable {α β γ : Type}
end
section
variable {K : Frag} {W0 Wb W W' : Wd} {As : List Sl} {σ σ2 : L2.St} {D : Addr} {o : HO} {vs : List Nat}
theorem Hd.same {A : Sl} {o : Option V} {f : List Addr} (hg : W'.G = W.G) (hf : ∀ a ∈ f, W.G a = none ∧ W'.H a = W.H a) (h : Hd K A o W f) : Hd K A o W' f := by
  cases A with
  | un => trivial
  | fr x => obtain ⟨v, e1, r⟩ := h; exact ⟨v, e1, hg ▸ r⟩
  | ow x =>
    obtain ⟨v, e1, r, pn⟩ := h
    refine ⟨v, e1, Ob.keep r (hg ▸ Inc.refl _) (fun a ha => hg ▸ (hf a ha).1) fun a ha => (hf a ha).2, pn⟩
end
section
variable {c : Cn} {W0 : Wd} {α β γ : Type}
end
/-! ### within a statement -/
section
variable {c : Cn} {X : WX} {As : List Sl} {J S ρ α : Type} {kr : ρ → Kd} {Ls : List Sl} {Js : J → List Sl} {B : Bd} {Bs : S → List Sl}
end
end Fw

namespace Fw
open PySem L2
/-! ### list(d.values()), d of tuples -/
section
open PySem.Spec PyProof.Rows
variable {X : Cx} {e : Expr} {te : TE} {p apos cpos pos : Pos}
end
section
variable {α β : Type} [Rp α] [KT α] [DecidableEq α] [Rp β] {c : Cn} {W0 : Wd} {X : WX} {As : List Sl}
end
/-! ### a for over a list, a call within -/
section
variable {c : Cn} {W0 : Wd} {As : List Sl} {α β γ : Type}
end
end Fw

namespace Fw
open PySem L2
/-! ### a call that changes, within a test: not .. -/
section
variable {c : Cn} {W0 : Wd} {As : List Sl}
end
end Fw

namespace Fw
open PySem L2
/-! ### a call that changes several own things and tells something frozen, within a statement -/
section
variable {c : Cn} {X : WX} {As : List Sl} {γ τ S J' S' ρ : Type} {kr : ρ → Kd} {Ls : List Sl} {Js : J' → List Sl} {B : Bd} {Bs : S' → List Sl} {ins : τ → List Sl} {outs : S → List Sl} {f : τ → R S}
end
/-! ### flat things told by a call: whatever the ground -/
section
variable {c : Cn} {W0 : Wd} {As : List Sl} {v : V} {G : Hp}
end
end Fw

namespace Fw
open PySem L2
/-! ### a dict of own lists: d[k] = a new list -/
section
variable {κ α : Type} [DecidableEq κ] [Rp κ] [DKy κ] [Rp α]
variable {c : Cn} {W0 : Wd} {X : WX} {As : List Sl} {J S ρ : Type} {kr : ρ → Kd} {Ls : List Sl} {Js : J → List Sl} {B : Bd} {Bs : S → List Sl}
end
end Fw

namespace Fw
open PySem L2
/-! ### a dict of own lists whose addresses are known: for x in d[k] -/
structure DGq (κ α : Type) where
  x : DGk κ α
  p : Addr
  q : List (κ × V)
section
variable {κ α : Type} [DecidableEq κ] [Rp κ] [DKy κ] [Rp α]
def ownQ (K : Frag) (y : DGq κ α) (v : V) (f : List Addr) (W : Wd) : Prop := ∃ qs : List Addr, v = .ref y.p ∧ f = y.p :: qs ∧ (y.p :: qs).Nodup ∧ W.G y.p = none ∧ W.H y.p = some (DKy.ho y.q) ∧ y.q.map (·.1) = y.x.l.map (·.1) ∧ y.q.map (·.2) = qs.map V.ref ∧ (y.x.l.map (·.1)).Nodup ∧ DRows K (y.x.l.map (·.2)) qs W ∧ y.x.l.length ≤ sizeLine
theorem ownQ_ownK {K : Frag} {y : DGq κ α} {v : V} {f : List Addr} {W : Wd} (h : ownQ K y v f W) : ownK K y.x v f W := by
  obtain ⟨qs, e, ef, nd, g, hh, k1, k2, kn, dr, l⟩ := h
  exact ⟨y.p, y.q, qs, e, ef, nd, g, hh, k1, k2, kn, dr, l⟩
instance : Ob (DGq κ α) where
  own := ownQ
  keep := fun {K y v f W W'} ⟨qs, e, ef, nd, g, h, k1, k2, kn, r, l⟩ s n k => by
    subst ef
    exact ⟨qs, e, rfl, nd, n y.p (by simp), (k y.p (by simp)).trans h, k1, k2, kn, r.keep s (fun b hb => n b (List.mem_cons_of_mem _ hb)) fun b hb => k b (List.mem_cons_of_mem _ hb), l⟩
  foot := fun {K y v f W} h b hb => Ob.foot (show Ob.own K y.x v f W from ownQ_ownK h) b hb
variable {c : Cn} {X : WX} {As : List Sl} {J S T ρ : Type} {kr : ρ → Kd} {Ls : List Sl} {Js : J → List Sl} {B : Bd} {Bs : S → List Sl}
variable {Cs : T → List Sl}
end
end Fw

namespace Fw
open PySem L2
/-! ### a statement for whose time a dict of own lists is locked; own lists of plain values may change within -/
/-- a slot as it is, its value, as it is looked at -/
inductive FvE : Sl → V → Sl → Prop
  | un {A : Sl} {v : V} : FvE A v .un
  | fr {α : Type} [Rp α] {x : α} {v : V} : FvE (.fr x) v (.fr x)
  | ow {α : Type} [Fz α] {pin : Option V} {x : α} {v : V} : FvE (.ow pin x) v (.fr (Pn.mk x v))
  | pf {α : Type} [Rp α] {x : α} {v : V} : FvE (.fr x) v (.fr (Pn.mk x v))
  | ot {α : Type} [Sc α] {pin : Option V} {x : List α} {v : V} : FvE (.ow pin x) v (.ow none x)
inductive FvL : List Sl → List V → List Sl → Prop
  | nil : FvL [] [] []
  | cons {A B : Sl} {v : V} {As Bs : List Sl} {vs : List V} : FvE A v B → FvL As vs Bs → FvL (A :: As) (v :: vs) (B :: Bs)
/-- at the end: as it was, as it was looked at, as it is -/
inductive FvF : Sl → V → Sl → Sl → Prop
  | un {A B : Sl} {v : V} : FvF A v B .un
  | fr {α : Type} [Sc α] {A : Sl} {x : α} {v : V} : FvF A v (.fr x) (.fr x)
  | ow {α : Type} [Fz α] {pin : Option V} {x : α} {v : V} : FvF (.ow pin x) v (.fr (Pn.mk x v)) (.ow pin x)
  | pf {α : Type} [Rp α] {x : α} {v : V} : FvF (.fr x) v (.fr (Pn.mk x v)) (.fr x)
  | ot {α : Type} [Sc α] {x y : List α} {v : V} : FvF (.ow none x) v (.ow none y) (.ow none y)
inductive FvN : List Sl → List V → List Sl → List Sl → Prop
  | nil : FvN [] [] [] []
  | cons {A B C : Sl} {v : V} {As Bs Cs : List Sl} {vs : List V} : FvF A v B C → FvN As vs Bs Cs → FvN (A :: As) (v :: vs) (B :: Bs) (C :: Cs)
theorem FvL.len {As Bs : List Sl} {vs : List V} (h : FvL As vs Bs) : As.length = Bs.length ∧ vs.length = As.length := by
  induction h with
  | nil => exact ⟨rfl, rfl⟩
  | cons _ _ ih => exact ⟨congrArg (· + 1) ih.1, congrArg (· + 1) ih.2⟩
theorem FvL.get {As Bs : List Sl} {vs : List V} (h : FvL As vs Bs) : ∀ (k : Nat) B, Bs[k]? = some B → ∃ A v, As[k]? = some A ∧ vs[k]? = some v ∧ FvE A v B := by
  induction h with
  | nil => intro k B e; simp at e
  | cons h _ ih => intro k B e; cases k with
    | zero => cases e; exact ⟨_, _, rfl, rfl, h⟩
    | succ k => exact ih k B e
theorem FvN.len {As Bs Cs : List Sl} {vs : List V} (h : FvN As vs Bs Cs) : Bs.length = Cs.length := by
  induction h with
  | nil => rfl
  | cons _ _ ih => exact congrArg (· + 1) ih
theorem FvN.get {As Bs Cs : List Sl} {vs : List V} (h : FvN As vs Bs Cs) : ∀ (k : Nat) C, Cs[k]? = some C → ∃ A v B, As[k]? = some A ∧ vs[k]? = some v ∧ Bs[k]? = some B ∧ FvF A v B C := by
  induction h with
  | nil => intro k C e; simp at e
  | cons h _ ih => intro k C e; cases k with
    | zero => cases e; exact ⟨_, _, _, rfl, rfl, rfl, h⟩
    | succ k => exact ih k C e
section
open Classical
variable {κ α : Type} [DecidableEq κ] [Rp κ] [DKy κ] [Rp α] {K : Frag} {W0 W : Wd} {As Bs : List Sl} {σ : St}
end
section
variable {J S ρ : Type}
/-- neither returns nor jumps; a raise is not looked at -/
def Out.lkabs (m : Out S Empty Empty) : Out S J ρ := match m with
  | .nx s => .nx s
  | .rt r => nomatch r
  | .bk j => nomatch j
  | .ct j => nomatch j
  | .ex _ => .no
  | .no => .no
@[simp] theorem Out.lkabs_nx (s : S) : (Out.nx s : Out S Empty Empty).lkabs = (Out.nx s : Out S J ρ) := rfl
variable {κ α : Type} [DecidableEq κ] [Rp κ] [DKy κ] [Rp α]
variable {c : Cn} {X : WX} {kr : ρ → Kd} {Ls : List Sl} {Js : J → List Sl} {B : Bd} {As : List Sl} {Cs : S → List Sl}
end
end Fw

namespace Fw
open PySem L2
/-! ### a dict of own dicts: v = d.setdefault(k, {}) -/
structure DDk (κ κ' α : Type) where
  l : List (κ × List (κ' × α))
deriving DecidableEq
/-- the same, the dict at k lent to a name -/
structure DDh (κ κ' α : Type) where
  l : List (κ × List (κ' × α))
  k : κ
  b : Addr
section
variable {κ κ' α : Type} [DecidableEq κ] [Rp κ] [DKy κ] [DecidableEq κ'] [Rp κ'] [DKy κ'] [Rp α]
def ownDD (K : Frag) (x : DDk κ κ' α) (v : V) (f : List Addr) (W : Wd) : Prop := ∃ (p : Addr) (q : List (κ × V)) (qs : List Addr), v = .ref p ∧ f = p :: qs ∧ (p :: qs).Nodup ∧ W.G p = none ∧ W.H p = some (DKy.ho q) ∧ q.map (·.1) = x.l.map (·.1) ∧ q.map (·.2) = qs.map V.ref ∧ (x.l.map (·.1)).Nodup ∧ (∀ (j : Nat) xi b, (x.l.map (·.2))[j]? = some xi → qs[j]? = some b → Ob.own K (Dk.mk xi : Dk κ' α) (.ref b) [b] W) ∧ x.l.length ≤ sizeLine
def ownDH (K : Frag) (x : DDh κ κ' α) (v : V) (f : List Addr) (W : Wd) : Prop := ∃ (p : Addr) (q : List (κ × V)) (qs : List Addr), v = .ref p ∧ f = p :: qs.filter (fun a => decide (a ≠ x.b)) ∧ (p :: qs).Nodup ∧ W.G p = none ∧ W.H p = some (DKy.ho q) ∧ q.map (·.1) = x.l.map (·.1) ∧ q.map (·.2) = qs.map V.ref ∧ (x.l.map (·.1)).Nodup ∧ valV q x.k = some (.ref x.b) ∧ (∀ (j : Nat) xi b, (x.l.map (·.2))[j]? = some xi → qs[j]? = some b → b ≠ x.b → Ob.own K (Dk.mk xi : Dk κ' α) (.ref b) [b] W) ∧ x.l.length ≤ sizeLine
theorem dd_len {q : List (κ × V)} {l : List (κ × List (κ' × α))} {qs : List Addr} (k1 : q.map (·.1) = l.map (·.1)) (k2 : q.map (·.2) = qs.map V.ref) : qs.length = l.length := by
  have h1 := congrArg List.length k1
  have h2 := congrArg List.length k2
  simp at h1 h2
  omega
instance : Ob (DDk κ κ' α) where
  own := ownDD
  keep := fun {K x v f W W'} ⟨p, q, qs, e, ef, nd, g, h, k1, k2, kn, r, l⟩ s n k => by
    subst ef
    refine ⟨p, q, qs, e, rfl, nd, n p (by simp), (k p (by simp)).trans h, k1, k2, kn, fun j xi b h1 h2 => ?_, l⟩
    have hb : b ∈ p :: qs := List.mem_cons_of_mem _ (List.mem_of_getElem? h2)
    exact Ob.keep (r j xi b h1 h2) s (fun a ha => by rw [List.mem_singleton.mp ha]; exact n b hb) fun a ha => by rw [List.mem_singleton.mp ha]; exact k b hb
  foot := fun {K x v f W} ⟨p, q, qs, e, ef, nd, g, h, k1, k2, kn, r, l⟩ b hb => by
    subst ef
    rcases List.mem_cons.mp hb with z | hb
    · subst z
      exact ⟨g, by rw [h]; exact ho_ne q⟩
    · obtain ⟨j, hj, e⟩ := List.getElem_of_mem hb
      have hl := dd_len (l := x.l) k1 k2
      have h1 : (x.l.map (·.2))[j]? = some ((x.l.map (·.2))[j]'(by rw [List.length_map]; omega)) := List.getElem?_eq_getElem (show j < (x.l.map (·.2)).length by rw [List.length_map]; omega)
      exact Ob.foot (r j _ b h1 (by rw [List.getElem?_eq_getElem hj, e])) b (by simp)
instance : Ob (DDh κ κ' α) where
  own := ownDH
  keep := fun {K x v f W W'} ⟨p, q, qs, e, ef, nd, g, h, k1, k2, kn, hv, r, l⟩ s n k => by
    subst ef
    refine ⟨p, q, qs, e, rfl, nd, n p (by simp), (k p (by simp)).trans h, k1, k2, kn, hv, fun j xi b h1 h2 h3 => ?_, l⟩
    have hb : b ∈ p :: qs.filter (fun a => decide (a ≠ x.b)) := List.mem_cons_of_mem _ (List.mem_filter.mpr ⟨List.mem_of_getElem? h2, decide_eq_true h3⟩)
    exact Ob.keep (r j xi b h1 h2 h3) s (fun a ha => by rw [List.mem_singleton.mp ha]; exact n b hb) fun a ha => by rw [List.mem_singleton.mp ha]; exact k b hb
  foot := fun {K x v f W} ⟨p, q, qs, e, ef, nd, g, h, k1, k2, kn, hv, r, l⟩ b hb => by
    subst ef
    rcases List.mem_cons.mp hb with z | hb
    · subst z
      exact ⟨g, by rw [h]; exact ho_ne q⟩
    · obtain ⟨hb1, hb2⟩ := List.mem_filter.mp hb
      obtain ⟨j, hj, e⟩ := List.getElem_of_mem hb1
      have hl := dd_len (l := x.l) k1 k2
      have h1 : (x.l.map (·.2))[j]? = some ((x.l.map (·.2))[j]'(by rw [List.length_map]; omega)) := List.getElem?_eq_getElem (show j < (x.l.map (·.2)).length by rw [List.length_map]; omega)
      exact Ob.foot (r j _ b h1 (by rw [List.getElem?_eq_getElem hj, e]) (of_decide_eq_true hb2)) b (by simp)
end
section
variable {K : Frag} {W0 W : Wd} {As : List Sl} {σ : St} {i j : Nat}
/-- the owned thing of slot i changes, a part of it goes to slot j -/
theorem At.split2 {α : Type} [Ob α] {x : α} {pin : Option V} (h : At K W0 As σ W) (hi : As[i]? = some (.ow pin x)) (hj : j < As.length) (hij : i ≠ j) :
    ∃ v f, σ[i]? = some (some v) ∧ Ob.own K x v f W ∧ ∀ (β γ : Type) (_ : Ob β) (_ : Ob γ) (y : β) (z : γ) (vz : V) (W' : Wd) (f1 f2 : List Addr), LeX W f W' → Ob.own K y v f1 W' → Ob.own K z vz f2 W' → (∀ a ∈ f1, a ∈ f ∨ W.H a = none) → (∀ a ∈ f2, a ∈ f ∨ W.H a = none) → (∀ a ∈ f1, a ∉ f2) →
      At K W0 ((As.set i (.ow pin y)).set j (.ow (some vz) z)) (σ.set j (some vz)) W' := by
  obtain ⟨l, le, F, h1, h2, h3⟩ := h
  have hl : i < σ.length := l ▸ (List.getElem?_eq_some_iff.mp hi).1
  obtain ⟨v, e, r, pn⟩ := h1 i _ _ hi (List.getElem?_eq_getElem hl)
  refine ⟨v, F i, by rw [List.getElem?_eq_getElem hl, e], r, fun β γ _ _ y z vz W' f1 f2 lx ry rz hf1 hf2 dj => ?_⟩
  obtain ⟨sg, so, sh⟩ := lx
  have z0 : ∀ a, (a ∈ F i ∨ W.H a = none) → W0.H a = none := fun a q => by
    rcases q with q | q
    · exact (h3 i a q).2.2
    · exact le.h.nope q
  have lw : Le W0 W' := ⟨le.g.trans sg, fun a o q => by
    have n0 : W0.H a ≠ none := by rw [q]; exact fun z => nomatch z
    have w := le.h a o q
    rw [sh a (fun ha => n0 ((h3 i a ha).2.2)) (by rw [w]; exact fun z => nomatch z)]
    exact w, fun a g n => so a (fun ha => n ((h3 i a ha).2.2)) (le.o a g n) (fun q => n (le.h.nope q))⟩
  have out : ∀ k a, k ≠ i → a ∈ F k → ¬ (a ∈ F i ∨ W.H a = none) := fun k a nk ha q => by
    rcases q with q | q
    · exact h2 k i a nk ha q
    · exact (h3 k a ha).2.1 q
  refine ⟨by simp [l], lw, fun k => if k = i then f1 else if k = j then f2 else F k, fun k B p a b => ?_, fun k m a n ha hb => ?_, fun k a ha => ?_⟩
  · by_cases qj : j = k
    · subst qj
      rw [get_set_eq a, get_set_eq b]
      dsimp only
      rw [if_neg (Ne.symm hij), if_pos rfl]
      exact ⟨vz, rfl, rz, fun u e => Option.some.inj e⟩
    · rw [get_set_ne qj] at a b
      by_cases q : i = k
      · subst q
        rw [get_set_eq a]
        rw [List.getElem?_eq_getElem hl, e] at b
        cases b
        simp only [if_true]
        exact ⟨v, rfl, ry, pn⟩
      · rw [get_set_ne q] at a
        dsimp only
        rw [if_neg (Ne.symm q), if_neg (Ne.symm qj)]
        have hd := h1 k B p a b
        cases B with
        | un => trivial
        | fr x => obtain ⟨v, e1, r⟩ := hd; exact ⟨v, e1, Rp.mono sg r⟩
        | ow x =>
          obtain ⟨v, e1, r, pn⟩ := hd
          exact ⟨v, e1, Ob.keep r sg (fun a ha => so a (fun z => h2 k i a (Ne.symm q) ha z) (h3 k a ha).1 (h3 k a ha).2.1) fun a ha => sh a (fun z => h2 k i a (Ne.symm q) ha z) (h3 k a ha).2.1, pn⟩
  · dsimp only at ha hb
    by_cases ki : k = i
    · rw [if_pos ki] at ha
      by_cases mi : m = i
      · exact n (ki.trans mi.symm)
      · rw [if_neg mi] at hb
        by_cases mj : m = j
        · rw [if_pos mj] at hb
          exact dj a ha hb
        · rw [if_neg mj] at hb
          exact out m a mi hb (hf1 a ha)
    · rw [if_neg ki] at ha
      by_cases kj : k = j
      · rw [if_pos kj] at ha
        by_cases mi : m = i
        · rw [if_pos mi] at hb
          exact dj a hb ha
        · rw [if_neg mi] at hb
          by_cases mj : m = j
          · exact n (kj.trans mj.symm)
          · rw [if_neg mj] at hb
            exact out m a mi hb (hf2 a ha)
      · rw [if_neg kj] at ha
        by_cases mi : m = i
        · rw [if_pos mi] at hb
          exact out k a ki ha (hf1 a hb)
        · rw [if_neg mi] at hb
          by_cases mj : m = j
          · rw [if_pos mj] at hb
            exact out k a ki ha (hf2 a hb)
          · rw [if_neg mj] at hb
            exact h2 k m a n ha hb
  · dsimp only at ha
    by_cases ki : k = i
    · rw [if_pos ki] at ha
      exact ⟨(Ob.foot ry a ha).1, (Ob.foot ry a ha).2, z0 a (hf1 a ha)⟩
    · rw [if_neg ki] at ha
      by_cases kj : k = j
      · rw [if_pos kj] at ha
        exact ⟨(Ob.foot rz a ha).1, (Ob.foot rz a ha).2, z0 a (hf2 a ha)⟩
      · rw [if_neg kj] at ha
        obtain ⟨g, n, z⟩ := h3 k a ha
        refine ⟨so a (fun q => h2 k i a ki ha q) g n, ?_, z⟩
        rw [sh a (fun q => h2 k i a ki ha q) n]
        exact n
/-- what slot j owns goes back to slot i -/
theorem At.join2 {α γ : Type} [Ob α] [Ob γ] {x : α} {z : γ} {pin pin2 : Option V} (h : At K W0 As σ W) (hi : As[i]? = some (.ow pin x)) (hj : As[j]? = some (.ow pin2 z)) (hij : i ≠ j) :
    ∃ v f vz f2, σ[i]? = some (some v) ∧ Ob.own K x v f W ∧ Ob.own K z vz f2 W ∧ (∀ u, pin2 = some u → vz = u) ∧ (∀ a ∈ f, a ∉ f2) ∧ ∀ (β : Type) (_ : Ob β) (y : β) (f3 : List Addr), Ob.own K y v f3 W → (∀ a ∈ f3, a ∈ f ∨ a ∈ f2) → At K W0 ((As.set i (.ow pin y)).set j .un) σ W := by
  obtain ⟨l, le, F, h1, h2, h3⟩ := h
  have hl : i < σ.length := l ▸ (List.getElem?_eq_some_iff.mp hi).1
  have hlj : j < σ.length := l ▸ (List.getElem?_eq_some_iff.mp hj).1
  obtain ⟨v, e, r, pn⟩ := h1 i _ _ hi (List.getElem?_eq_getElem hl)
  obtain ⟨vz, ez, rz, pz⟩ := h1 j _ _ hj (List.getElem?_eq_getElem hlj)
  refine ⟨v, F i, vz, F j, by rw [List.getElem?_eq_getElem hl, e], r, rz, pz, fun a ha => h2 i j a hij ha, fun β _ y f3 ry hf => ?_⟩
  refine ⟨by simp [l], le, fun k => if k = i then f3 else if k = j then [] else F k, fun k B p a b => ?_, fun k m a n ha hb => ?_, fun k a ha => ?_⟩
  · by_cases qj : j = k
    · subst qj
      rw [get_set_eq a]
      trivial
    · rw [get_set_ne qj] at a
      by_cases q : i = k
      · subst q
        rw [get_set_eq a]
        rw [List.getElem?_eq_getElem hl, e] at b
        cases b
        simp only [if_true]
        exact ⟨v, rfl, ry, pn⟩
      · rw [get_set_ne q] at a
        dsimp only
        rw [if_neg (Ne.symm q), if_neg (Ne.symm qj)]
        exact h1 k B p a b
  · dsimp only at ha hb
    by_cases ki : k = i
    · rw [if_pos ki] at ha
      by_cases mi : m = i
      · exact n (ki.trans mi.symm)
      · rw [if_neg mi] at hb
        by_cases mj : m = j
        · rw [if_pos mj] at hb; cases hb
        · rw [if_neg mj] at hb
          rcases hf a ha with q | q
          · exact h2 i m a (Ne.symm mi) q hb
          · exact h2 j m a (Ne.symm mj) q hb
    · rw [if_neg ki] at ha
      by_cases kj : k = j
      · rw [if_pos kj] at ha; cases ha
      · rw [if_neg kj] at ha
        by_cases mi : m = i
        · rw [if_pos mi] at hb
          rcases hf a hb with q | q
          · exact h2 k i a ki ha q
          · exact h2 k j a kj ha q
        · rw [if_neg mi] at hb
          by_cases mj : m = j
          · rw [if_pos mj] at hb; cases hb
          · rw [if_neg mj] at hb
            exact h2 k m a n ha hb
  · dsimp only at ha
    by_cases ki : k = i
    · rw [if_pos ki] at ha
      rcases hf a ha with q | q
      · exact h3 i a q
      · exact h3 j a q
    · rw [if_neg ki] at ha
      by_cases kj : k = j
      · rw [if_pos kj] at ha; cases ha
      · rw [if_neg kj] at ha
        exact h3 k a ha
end
section
variable {κ κ' α : Type} [DecidableEq κ] [Rp κ] [DKy κ] [DecidableEq κ'] [Rp κ'] [DKy κ'] [Rp α]
variable {c : Cn} {W0 : Wd} {X : WX} {As : List Sl} {J S ρ : Type} {kr : ρ → Kd} {Ls : List Sl} {Js : J → List Sl} {B : Bd} {Bs : S → List Sl}
theorem e_ddnew {te : TE} (ht : te = fun _ H Q => ∀ p, H p = none → Q (.ref p) (upd H p (DKy.ho ([] : List (κ × V))))) : Exp c W0 te As (kNw c.K (DDk.mk ([] : List (κ × List (κ' × α))))) := fun σ W a W1 e Q q => by
  subst ht
  exact fun p hp => q _ (W1.no p _ hp (ho_mut _)) (Le.no hp) ⟨[p], ⟨p, [], [], rfl, rfl, by simp, W1.sub.nope hp, upd_same, rfl, rfl, List.nodup_nil, fun j xi b h _ => by simp at h, Nat.zero_le _⟩, fun a ha => by rw [List.mem_singleton.mp ha]; exact hp⟩
@[irreducible] def R.sdIn (x : DDk κ κ' α) (k : κ) : R (DDk κ κ' α) := if x.l.length < sizeLine then .ok (if (Fw.dval x.l k).isSome then x else ⟨x.l ++ [(k, [])]⟩) else .no
theorem dval_snoc {β : Type} {k : κ} {y : β} : ∀ {l : List (κ × β)}, dval l k = none → dval (l ++ [(k, y)]) k = some y
  | [], _ => by
    show dval [(k, y)] k = _
    unfold dval
    rw [if_pos rfl]
  | p :: l, h => by
    unfold dval at h
    rw [List.cons_append]
    unfold dval
    by_cases z : p.1 = k
    · rw [if_pos z] at h; cases h
    · rw [if_neg z] at h ⊢
      exact dval_snoc h
theorem nd_idx {l : List Addr} (h : l.Nodup) {i j : Nat} {a : Addr} (h1 : l[i]? = some a) (h2 : l[j]? = some a) : i = j := by
  obtain ⟨hi, e1⟩ := List.getElem?_eq_some_iff.mp h1
  obtain ⟨hj, e2⟩ := List.getElem?_eq_some_iff.mp h2
  exact List.getElem_inj h |>.mp (e1.trans e2.symm)
/-- v = d.setdefault(k, {}): the dict at k is lent to v -/
theorem d_sdIn {tk te : TE} {u : TS} {x : DDk κ κ' α} {pin : Option V} {n : R κ} {kk : κ → DDk κ κ' α → Dk κ' α → Out S J ρ} (i j : Nat) (hi : As[i]? = some (.ow pin x)) (hj : j < As.length) (hij : i ≠ j) (lx : Lx Ls As) (hn : Exr c B.W0 X tk As n fun x => kFr c.K x) (he : Exp c B.W0 te As (kNw c.K (Dk.mk ([] : List (κ' × α)))))
    (hk : ∀ (z : DDk κ κ' α) (k : κ) (b : Addr) (g : Dk κ' α), Den c X kr Ls Js B u ((As.set i (.ow pin (DDh.mk z.l k b))).set j (.ow (some (.ref b)) g)) (kk k z g) Bs) :
    Den c X kr Ls Js B (tSeq (tAsg (tDSetG (tVar i) tk te) (gName j)) u) As (n.to fun k => (R.sdIn x k).to fun z => lt (Dk.mk ((Fw.dval z.l k).getD [])) fun g => kk k z g) Bs := fun D σ W a f => by
  have h' := hn σ W a
  obtain ⟨v, fp, hv, o, sp⟩ := a.split2 hi hj hij
  obtain ⟨p, q, qs, e, ef, nd, g, hh, k1, k2, kn, dr, l⟩ := o
  subst e ef
  refine ⟨.ref p, hv, p, rfl, DKy.isD (.inl hh), ?_⟩
  cases n with
  | no => exact False.elim f
  | ex e => exact h' W (Le.refl _) _ fun cls d W2 e2 z => f cls d σ W2 (lx_at lx (a.mono e2)) z
  | ok k =>
  refine h' W (Le.refl _) _ fun w W2 e2 rw_ => ?_
  refine he σ W a W2 e2 _ fun vl W3 e3 pn => ?_
  obtain ⟨fl, ⟨r, q0, ev0, ef0, g0, hh0, dr0, ln0⟩, nw0⟩ := pn
  subst ev0 ef0
  have hr2 : W2.H r = none := nw0 r (by simp)
  have hr : W.H r = none := e2.h.nope hr2
  have f2 : Fin c X kr Ls Js B Bs D ((R.sdIn x k).to fun z => lt (Dk.mk ((dval z.l k).getD [])) fun g => kk k z g) := f
  have f3 : Fin c X kr Ls Js B Bs D ((if x.l.length < sizeLine then R.ok (if (dval x.l k).isSome then x else ⟨x.l ++ [(k, [])]⟩) else R.no).to fun z => lt (Dk.mk ((dval z.l k).getD [])) fun g => kk k z g) := by
    unfold R.sdIn at f2
    exact f2
  by_cases cz : x.l.length < sizeLine
  case neg => rw [if_neg cz] at f3; exact False.elim f3
  rw [if_pos cz] at f3
  have qlen : q.length = x.l.length := by have := congrArg List.length k1; simpa using this
  have ql2 : qs.length = x.l.length := dd_len k1 k2
  have fW : ∀ d ∈ p :: qs, W.G d = none ∧ W.H d ≠ none := Ob.foot (show Ob.own c.K x (.ref p) (p :: qs) W from ⟨p, q, qs, rfl, rfl, nd, g, hh, k1, k2, kn, dr, l⟩)
  have e23 := e2.trans e3
  have h3 : W3.H p = some (DKy.ho q) := e23.h _ _ hh
  have gp3 : W3.G p = none := e23.o p g (fW p (by simp)).2
  have keep3 : ∀ d ∈ p :: qs, W3.H d = W.H d := fun d hd => by
    cases q9 : W.H d with
    | none => exact absurd q9 (fW d hd).2
    | some u => exact e23.h d u q9
  refine ⟨valV q k, DKy.get (Rp.mono e3.g rw_) W3.sub (.inl h3), fun v0 hv2 => ?_, fun hn2 => ?_⟩
  · obtain ⟨m, b, r0, j1, j2, j3, j4⟩ := k_find k1 k2 hv2
    subst j2
    have bq : b ∈ qs := List.mem_of_getElem? j1
    have f' : Fin c X kr Ls Js B Bs D (kk k x ⟨(dval x.l k).getD []⟩) := by
      have f4 : Fin c X kr Ls Js B Bs D ((R.ok (if (some r0).isSome = true then x else ⟨x.l ++ [(k, [])]⟩)).to fun z => lt (Dk.mk ((dval z.l k).getD [])) fun g => kk k z g) := by
        rw [j4] at f3
        exact f3
      exact f4
    have hd : (dval x.l k).getD [] = r0 := by rw [j4]; rfl
    rw [hd] at f'
    have dr3 : ∀ (i : Nat) xi b, (x.l.map (·.2))[i]? = some xi → qs[i]? = some b → Ob.own c.K (Dk.mk xi : Dk κ' α) (.ref b) [b] W3 := fun i xi b h1 h2 => by
      have hb : b ∈ p :: qs := List.mem_cons_of_mem _ (List.mem_of_getElem? h2)
      exact Ob.keep (dr i xi b h1 h2) e23.g (fun a ha => by rw [List.mem_singleton.mp ha]; exact e23.o b (fW b hb).1 (fW b hb).2) fun a ha => by rw [List.mem_singleton.mp ha]; exact keep3 b hb
    have hrow : (x.l.map (·.2))[m]? = some r0 := by rw [List.getElem?_map, j3]; rfl
    refine hk x k b ⟨r0⟩ D _ W3 (sp (DDh κ κ' α) (Dk κ' α) _ _ (DDh.mk x.l k b) ⟨r0⟩ (.ref b) W3 _ [b] (le_lx e23) ⟨p, q, qs, rfl, rfl, nd, gp3, h3, k1, k2, kn, hv2, fun i xi d h1 h2 _ => dr3 i xi d h1 h2, l⟩ (dr3 m r0 b hrow j1) (fun a ha => ?_) (fun a ha => ?_) fun a ha hb => ?_) f'
    · rcases List.mem_cons.mp ha with z | z
      · exact .inl (by rw [z]; simp)
      · exact .inl (List.mem_cons_of_mem _ (List.mem_filter.mp z).1)
    · rw [List.mem_singleton.mp ha]; exact .inl (List.mem_cons_of_mem _ bq)
    · have hb' := List.mem_singleton.mp hb
      subst hb'
      rcases List.mem_cons.mp ha with z | z
      · exact (List.nodup_cons.mp nd).1 (z ▸ bq)
      · exact absurd rfl (of_decide_eq_true (List.mem_filter.mp z).2)
  · obtain ⟨n1, n2⟩ := k_none k1 hn2
    have f' : Fin c X kr Ls Js B Bs D (kk k ⟨x.l ++ [(k, [])]⟩ ⟨[]⟩) := by
      have f4 : Fin c X kr Ls Js B Bs D (kk k ⟨x.l ++ [(k, [])]⟩ ⟨(dval (x.l ++ [(k, [])]) k).getD []⟩) := by
        rw [n1] at f3
        exact f3
      rw [dval_snoc n1] at f4
      exact f4
    have rn : r ∉ p :: qs := fun z => (fW r z).2 hr
    have rp : r ≠ p := fun z => rn (by rw [z]; simp)
    have rq : r ∉ qs := fun z => rn (List.mem_cons_of_mem _ z)
    have pnq := (List.nodup_cons.mp nd).1
    have eput : putK q k (.ref r) = q ++ [(k, V.ref r)] := putK_new _ hn2
    refine ⟨_, DKy.put (v := .ref r) (Rp.mono e3.g rw_) W3.sub h3 (by omega), ?_⟩
    rw [eput]
    have W4d : ∃ W4 : Wd, W4.G = W3.G ∧ W4.H = upd W3.H p (DKy.ho (q ++ [(k, V.ref r)])) := ⟨W3.mt p _ gp3 (ho_mut _), rfl, rfl⟩
    obtain ⟨W4, G4, H4⟩ := W4d
    rw [← H4]
    have h4p : W4.H p = some (DKy.ho (q ++ [(k, V.ref r)])) := by rw [H4, upd_same]
    have hkeep : ∀ d, d ≠ p → W4.H d = W3.H d := fun d h1 => by rw [H4, upd_ne h1]
    have gp4 : W4.G p = none := by rw [G4]; exact gp3
    have lx4 : LeX W3 (p :: qs) W4 := ⟨by rw [G4]; exact Inc.refl _, fun d _ gd _ => by rw [G4]; exact gd, fun d hd _ => hkeep d (fun z => hd (by rw [z]; simp))⟩
    have dr4 : ∀ (i : Nat) xi b, (x.l.map (·.2))[i]? = some xi → qs[i]? = some b → Ob.own c.K (Dk.mk xi : Dk κ' α) (.ref b) [b] W4 := fun i xi b h1 h2 => by
      have hq := List.mem_of_getElem? h2
      have hb : b ∈ p :: qs := List.mem_cons_of_mem _ hq
      exact Ob.keep (dr i xi b h1 h2) (by rw [G4]; exact e23.g) (fun a ha => by rw [List.mem_singleton.mp ha, G4]; exact e23.o b (fW b hb).1 (fW b hb).2) fun a ha => by rw [List.mem_singleton.mp ha, hkeep b (fun z => pnq (z ▸ hq))]; exact keep3 b hb
    have or4 : Ob.own c.K (Dk.mk ([] : List (κ' × α))) (.ref r) [r] W4 := ⟨r, q0, rfl, rfl, by rw [G4]; exact g0, by rw [hkeep r rp]; exact hh0, by rw [G4]; exact dr0, ln0⟩
    refine hk ⟨x.l ++ [(k, [])]⟩ k r ⟨[]⟩ D _ W4 (sp (DDh κ κ' α) (Dk κ' α) _ _ (DDh.mk (x.l ++ [(k, [])]) k r) ⟨[]⟩ (.ref r) W4 _ [r] (lx_of e23 lx4) ⟨p, q ++ [(k, V.ref r)], qs ++ [r], rfl, rfl, ?_, gp4, h4p, by rw [List.map_append, List.map_append, k1]; rfl, by rw [List.map_append, List.map_append, k2]; rfl, ?_, ?_, ?_, by simp; omega⟩ or4 (fun a ha => ?_) (fun a ha => ?_) fun a ha hb => ?_) f'
    · rw [← List.cons_append, List.nodup_append]
      exact ⟨nd, by simp, fun b hb d hd z => rn (by rw [List.mem_singleton] at hd; subst hd; subst z; exact hb)⟩
    · show ((x.l ++ [(k, [])]).map fun e : κ × List (κ' × α) => e.1).Nodup
      rw [List.map_append, List.nodup_append]
      exact ⟨kn, by simp, fun b hb d hd z => n2 (by
        have hd' : d = k := by simpa using hd
        rw [← hd', ← z]; exact hb)⟩
    · show valV (q ++ [(k, V.ref r)]) k = some (.ref r)
      rw [valV_snoc _ _ _ _ hn2, if_pos rfl]
    · intro i xi b h1 h2 h3
      have h1' : (x.l.map (fun e : κ × List (κ' × α) => e.2) ++ [[]])[i]? = some xi := by
        have h1 : ((x.l ++ [(k, [])]).map (fun e : κ × List (κ' × α) => e.2))[i]? = some xi := h1
        rw [List.map_append] at h1
        exact h1
      by_cases hi' : i < qs.length
      · rw [List.getElem?_append_left (by rw [List.length_map]; omega)] at h1'
        rw [List.getElem?_append_left hi'] at h2
        exact dr4 i xi b h1' h2
      · rw [List.getElem?_append_right (by omega)] at h2
        have hb := List.mem_of_getElem? h2
        exact absurd (List.mem_singleton.mp hb) h3
    · rcases List.mem_cons.mp ha with z | z
      · exact .inl (by rw [z]; simp)
      · obtain ⟨z1, z2⟩ := List.mem_filter.mp z
        rcases List.mem_append.mp z1 with z | z
        · exact .inl (List.mem_cons_of_mem _ z)
        · exact absurd (List.mem_singleton.mp z) (of_decide_eq_true z2)
    · rw [List.mem_singleton.mp ha]; exact .inr hr
    · have hb' := List.mem_singleton.mp hb
      subst hb'
      rcases List.mem_cons.mp ha with z | z
      · exact rp z
      · exact absurd rfl (of_decide_eq_true (List.mem_filter.mp z).2)
/-- what was lent comes home -/
theorem d_joinIn {u : TS} {l : List (κ × List (κ' × α))} {k : κ} {b : Addr} {g : Dk κ' α} {pin : Option V} {kk : DDk κ κ' α → Out S J ρ} (i j : Nat) (hi : As[i]? = some (.ow pin (DDh.mk l k b))) (hj : As[j]? = some (.ow (some (.ref b)) g)) (hij : i ≠ j)
    (hk : ∀ z : DDk κ κ' α, Den c X kr Ls Js B u ((As.set i (.ow pin z)).set j .un) (kk z) Bs) :
    Den c X kr Ls Js B u As (lt (DDk.mk (Fw.dput l k g.l)) kk) Bs := fun D σ W a f => by
  obtain ⟨v, fp, vz, f2, hv, o, og, pz, dj, jn⟩ := a.join2 hi hj hij
  have ez := pz _ rfl
  subst ez
  obtain ⟨p, q, qs, e, ef, nd, gp, hh, k1, k2, kn, hvk, dr, ll⟩ := o
  subst e ef
  obtain ⟨m, b', r0, j1, j2, j3, j4⟩ := k_find k1 k2 hvk
  cases j2
  have bq : b ∈ qs := List.mem_of_getElem? j1
  have his : (dval l k).isSome = true := by rw [j4]; rfl
  have ed : (dput l k g.l).map (·.2) = (l.map (·.2)).set m g.l := by
    unfold dput
    rw [if_pos his]
    exact dput_valsK kn j3
  obtain ⟨b2, q2, eb2, ef2, gb2, hb2, dr2, l2⟩ := og
  cases eb2
  subst ef2
  refine hk ⟨dput l k g.l⟩ D σ W (jn (DDk κ κ' α) _ ⟨dput l k g.l⟩ (p :: qs) ⟨p, q, qs, rfl, rfl, nd, gp, hh, by rw [dput_keysK l his]; exact k1, k2, by rw [dput_keysK l his]; exact kn, fun i xi d h1 h2 => ?_, ?_⟩ fun d hd => ?_) f
  · have h1' : ((l.map (·.2)).set m g.l)[i]? = some xi := by rw [← ed]; exact h1
    by_cases z : i = m
    · subst z
      rw [j1] at h2
      cases h2
      have hl : i < (l.map (·.2)).length := by
        rw [List.length_map]
        exact (List.getElem?_eq_some_iff.mp j3).1
      rw [List.getElem?_set_self hl] at h1'
      cases h1'
      exact ⟨b, q2, rfl, rfl, gb2, hb2, dr2, l2⟩
    · rw [List.getElem?_set_ne (fun w => z w.symm)] at h1'
      refine dr i xi d h1' h2 fun w => z ?_
      have w' : d = b := w
      subst w'
      exact nd_idx (List.nodup_cons.mp nd).2 h2 j1
  · have := congrArg List.length (dput_keysK (y := g.l) l his)
    rw [List.length_map, List.length_map] at this
    show (dput l k g.l).length ≤ _
    rw [this]
    exact ll
  · rcases List.mem_cons.mp hd with z | z
    · exact .inl (by rw [z]; simp)
    · by_cases w : d = b
      · exact .inr (by rw [w]; simp)
      · exact .inl (List.mem_cons_of_mem _ (List.mem_filter.mpr ⟨z, decide_eq_true w⟩))
end
end Fw

namespace Mir
open PySem L2 Fw
noncomputable section
@[irreducible] def m_cell_b (v_script:(Sq Int)) (v_k:Int):Out Unit Unit Int:=
  (if (decide (v_k < (v_script.l.length:Int))) then Out.abs (R.to ((R.ok v_script.l).bind fun t1=>(R.ok v_k).bind fun t2=>(R.ix t1 t2)) .rt) else
  (R.to (((R.ok v_k).bind fun t3=>(R.ok v_k).bind fun t4=>(R.mul t3 t4)).bind fun t5=>(R.ok (7919:Int)).bind fun t6=>(R.ok (t5 + t6))) fun (v_number_7:Int)=>
  (Out.bind (if (decide ((0:Int) < (v_script.l.length:Int))) then (R.to ((R.ok v_number_7).bind fun t17=>(((R.ok v_script.l).bind fun t14=>((R.ok (v_k * (7:Int))).bind fun t12=>(R.ok (v_script.l.length:Int)).bind fun t13=>(R.mod t12 t13)).bind fun t15=>(R.ix t14 t15)).bind fun t16=>(R.ok (t16 % (2147483629:Int)))).bind fun t18=>(R.ok (t17 + t18))) fun (v_number_19:Int)=>
  (.nx v_number_19)) else (.nx v_number_7)) fun (s8:Int)=>
  (R.to (((R.ok s8).bind fun t9=>(R.ok s8).bind fun t10=>(R.mul t9 t10)).bind fun t11=>(R.ok (t11 % (2147483629:Int)))) .rt))))
@[irreducible] def m_cell (v_script:(Sq Int)) (v_k:Int):R Int:=(m_cell_b v_script v_k).run
@[irreducible] def m_mixed_b (v_cell_here:Int) (v_k:Int):Out Unit Unit Int:=
  (if (decide (((10:Int) ^ (Int.toNat (18:Int))) ≤ v_cell_here)) then Out.abs (R.to (((R.ok v_cell_here).bind fun t1=>(R.ok ((31:Int) * v_k)).bind fun t2=>(R.shr t1 t2)).bind fun t3=>(R.ok (2147483647:Int)).bind fun t4=>(R.ok (Builtin.bitAnd t3 t4))) .rt) else
  (R.to ((((((R.ok (v_cell_here % (2147483629:Int))).bind fun t7=>((R.ok ((7919:Int) * v_k)).bind fun t5=>(R.ok v_k).bind fun t6=>(R.mul t5 t6)).bind fun t8=>(R.ok (t7 + t8))).bind fun t9=>(R.ok v_k).bind fun t10=>(R.ok (t9 + t10))).bind fun t11=>(R.ok (13:Int)).bind fun t12=>(R.ok (t11 + t12))).bind fun t13=>(R.ok (t13 * (48271:Int)))).bind fun t14=>(R.ok (t14 % (2147483587:Int)))) fun (v_number_15:Int)=>
  (R.to (((R.ok v_number_15).bind fun t16=>(R.ok v_number_15).bind fun t17=>(R.mul t16 t17)).bind fun t18=>(R.ok (t18 % (2147483629:Int)))) fun (v_number_19:Int)=>
  (.rt (((v_number_19 + v_k) * (69621:Int)) % (2147483563:Int))))))
@[irreducible] def m_mixed (v_cell_here:Int) (v_k:Int):R Int:=(m_mixed_b v_cell_here v_k).run
@[irreducible] def m_size_b (v_cell_here:Int):Out Unit Unit (Int×Int):=
  (R.to (m_mixed v_cell_here (3:Int)) fun (v_number_1:Int)=>
  (R.to (((m_mixed v_cell_here (4:Int)).bind fun t2=>(R.ok (t2 % (8:Int)))).bind fun t3=>(R.ok (3:Int)).bind fun t4=>(R.ok (decide (t3 = t4)))) fun b5=>if b5 then Out.abs (.rt (((1:Int) + (v_number_1 % (24:Int))),((1:Int) + ((v_number_1 / (24:Int)) % (24:Int))))) else
  (.rt (((1:Int) + (v_number_1 % (6:Int))),((1:Int) + ((v_number_1 / (6:Int)) % (6:Int)))))))
@[irreducible] def m_size (v_cell_here:Int):R (Int×Int):=(m_size_b v_cell_here).run
@[irreducible] def m_stroke_b (v_size_here:(Int×Int)) (v_number:Int):Out Unit Unit (T4 Str Int Int Int):=
  (R.to ((R.ok [("row":Str),("column":Str)]).bind fun t1=>(R.ok (v_number % (2:Int))).bind fun t2=>(R.ix t1 t2)) fun (v_way_3:Str)=>
  (R.to ((R.ok [v_size_here.2,v_size_here.1]).bind fun t4=>(R.ok (v_number % (2:Int))).bind fun t5=>(R.ix t4 t5)) fun (v_lines_6:Int)=>
  (R.to ((R.ok [v_size_here.1,v_size_here.2]).bind fun t7=>(R.ok (v_number % (2:Int))).bind fun t8=>(R.ix t7 t8)) fun (v_places_9:Int)=>
  (R.to (((R.ok v_number).bind fun t10=>(R.ok ((2:Int) * v_lines_6)).bind fun t11=>(R.fdiv t10 t11)).bind fun t12=>(R.ok v_places_9).bind fun t13=>(R.mod t12 t13)) fun (v_first_14:Int)=>
  (R.to ((R.ok v_number).bind fun t17=>((R.ok ((2:Int) * v_lines_6)).bind fun t15=>(R.ok v_places_9).bind fun t16=>(R.mul t15 t16)).bind fun t18=>(R.fdiv t17 t18)) fun (v_rest_19:Int)=>
  (R.to (((R.ok v_way_3).bind fun t32=>(((R.ok (v_number / (2:Int))).bind fun t20=>(R.ok v_lines_6).bind fun t21=>(R.mod t20 t21)).bind fun t30=>((R.ok v_first_14).bind fun t28=>(((R.ok v_first_14).bind fun t24=>((R.ok v_rest_19).bind fun t22=>(R.ok (v_places_9 - v_first_14)).bind fun t23=>(R.mod t22 t23)).bind fun t25=>(R.ok (t24 + t25))).bind fun t26=>(R.ok ()).bind fun t27=>(R.ok (t26,t27))).bind fun t29=>(R.ok (t28,t29))).bind fun t31=>(R.ok (t30,t31))).bind fun t33=>(R.ok (t32,t33))).bind fun z34=>(R.ok (T4.mk z34.1 z34.2.1 z34.2.2.1 z34.2.2.2.1))) .rt))))))
@[irreducible] def m_stroke (v_size_here:(Int×Int)) (v_number:Int):R (T4 Str Int Int Int):=(m_stroke_b v_size_here v_number).run
@[irreducible] def m_plan_b (v_script:(Sq Int)) (v_size_here:(Int×Int)) (v_start:Int) (v_last:Int):Out Unit Unit (List (T3 Str Int (Int⊕(T4 Str Int Int Int)))):=
  (lt ([]:List (T3 Str Int (Int⊕(T4 Str Int Int Int)))) fun (v_plan_here_1:(List (T3 Str Int (Int⊕(T4 Str Int Int Int)))))=>
  (lt (-(1:Int)) fun (v_ink_2:Int)=>
  (lt [(0:Int),(1:Int),(7:Int),((10:Int) ^ (Int.toNat (18:Int))),(3:Int),(2:Int)] fun (v_names_3:(List Int))=>
  (R.to ((R.ok v_start).bind fun t4=>(R.ok (if (if v_last < (v_script.l.length:Int) then v_last else (v_script.l.length:Int)) > (v_start + (1:Int)) then (if v_last < (v_script.l.length:Int) then v_last else (v_script.l.length:Int)) else (v_start + (1:Int)))).bind fun t5=>R.rng t4 t5) fun l42=>Out.bind (forL l42 (v_plan_here_1,v_ink_2) (fun (s6:((List (T3 Str Int (Int⊕(T4 Str Int Int Int))))×Int)) (x7:Int)=>
   (R.to (((m_cell v_script x7).bind fun t10=>((R.ok (0:Int)).bind fun t8=>(R.ok ()).bind fun t9=>(R.ok (t8,t9))).bind fun t11=>(R.ok (t10,t11))).bind fun z12=>m_mixed z12.1 z12.2.1) fun (v_number_13:Int)=>
  (R.to ((R.ok v_names_3).bind fun t14=>(R.ok (v_number_13 % (6:Int))).bind fun t15=>(R.ix t14 t15)) fun (v_block_16:Int)=>
  (Out.bind (if (decide (((v_number_13 / (6:Int)) % (4:Int)) = (0:Int))) then (lt ((s6.2 + (1:Int)) + ((v_number_13 / (24:Int)) % (3:Int))) fun (v_ink_18:Int)=>
  (R.to (R.ok (T3.mk ("print":Str) v_block_16 (Sum.inl v_ink_18:(Int⊕(T4 Str Int Int Int))))) fun t20=>R.to (R.app s6.1 t20) fun (v_plan_here_19:(List (T3 Str Int (Int⊕(T4 Str Int Int Int)))))=>
  (.nx (v_plan_here_19,v_ink_18)))) else (R.to (((R.ok ("cut":Str)).bind fun t36=>((R.ok v_block_16).bind fun t34=>(((((R.ok v_size_here).bind fun t28=>((((m_cell v_script x7).bind fun t23=>((R.ok (1:Int)).bind fun t21=>(R.ok ()).bind fun t22=>(R.ok (t21,t22))).bind fun t24=>(R.ok (t23,t24))).bind fun z25=>m_mixed z25.1 z25.2.1).bind fun t26=>(R.ok ()).bind fun t27=>(R.ok (t26,t27))).bind fun t29=>(R.ok (t28,t29))).bind fun z30=>m_stroke z30.1 z30.2.1).bind fun t31=>(R.ok (Sum.inr t31:(Int⊕(T4 Str Int Int Int))))).bind fun t32=>(R.ok ()).bind fun t33=>(R.ok (t32,t33))).bind fun t35=>(R.ok (t34,t35))).bind fun t37=>(R.ok (t36,t37))).bind fun z38=>(R.ok (T3.mk z38.1 z38.2.1 z38.2.2.1))) fun t40=>R.to (R.app s6.1 t40) fun (v_plan_here_39:(List (T3 Str Int (Int⊕(T4 Str Int Int Int)))))=>
  (.nx (v_plan_here_39,s6.2)))) fun (s17:((List (T3 Str Int (Int⊕(T4 Str Int Int Int))))×Int))=>
  (.nx (s17.1,s17.2))))))) fun (s41:((List (T3 Str Int (Int⊕(T4 Str Int Int Int))))×Int))=>
  (.rt s41.1)))))
@[irreducible] def m_plan (v_script:(Sq Int)) (v_size_here:(Int×Int)) (v_start:Int) (v_last:Int):R (List (T3 Str Int (Int⊕(T4 Str Int Int Int)))):=(m_plan_b v_script v_size_here v_start v_last).run
@[irreducible] def m_cells_b (v_stroke_here:(T4 Str Int Int Int)):Out Unit Unit (List (Ky (Int×Int))):=
  (lt4 v_stroke_here fun (v_way_1:Str) (v_line_2:Int) (v_first_3:Int) (v_last_4:Int)=>
  (if (decide (v_way_1 = ("row":Str))) then Out.abs (R.to (((R.ok v_first_3).bind fun t5=>(R.ok (v_last_4 + (1:Int))).bind fun t6=>R.rng t5 t6).bind fun l8=>R.lcM l8 (fun (x7:Int)=>(Ky.mk (x7,v_line_2)))) .rt) else
  (R.to (((R.ok v_first_3).bind fun t9=>(R.ok (v_last_4 + (1:Int))).bind fun t10=>R.rng t9 t10).bind fun l12=>R.lcM l12 (fun (x11:Int)=>(Ky.mk (v_line_2,x11)))) .rt)))
@[irreducible] def m_cells (v_stroke_here:(T4 Str Int Int Int)):R (List (Ky (Int×Int))):=(m_cells_b v_stroke_here).run
@[irreducible] def m_is_number_plans_b (v_thing:Int):Out Unit Unit Bool:=
  (.rt (true && ((!false) && (decide ((0:Int) ≤ v_thing)))))
@[irreducible] def m_is_number_plans (v_thing:Int):R Bool:=(m_is_number_plans_b v_thing).run
@[irreducible] def m_is_number_strokes_b (v_thing:Int):Out Unit Unit Bool:=
  (.rt (true && ((!false) && (decide ((0:Int) ≤ v_thing)))))
@[irreducible] def m_is_number_strokes (v_thing:Int):R Bool:=(m_is_number_strokes_b v_thing).run
@[irreducible] def m_lies_on_b (v_size:(Int×Int)) (v_thing:(T4 Str Int Int Int)):Out Unit Unit Bool:=
  (if ((!true) || ((!decide ((4:Int) = (4:Int))) || (!memB v_thing.a [(("row":Str),("column":Str)).1,(("row":Str),("column":Str)).2]))) then Out.abs (.rt false) else
  (R.to (((R.ok v_thing).bind fun t2=>((R.ok (1:Int)).bind fun t1=>(R.ok (some t1))).bind fun t3=>(R.ok none).bind fun t4=>R.cut4 t2 t3 t4).bind fun t5=>(R.ok t5.l)) fun l16=>Out.bind (forL l16 () (fun (s6:Unit) (x7:Int)=>
   (R.to ((m_is_number_strokes x7).bind fun t8=>(R.ok (!t8))) fun b9=>if b9 then Out.abs (.rt false) else
  (.nx ())))) fun (s10:Unit)=>
  (lt v_size.2 fun (v_lines_11:Int)=>
  (lt v_size.1 fun (v_places_12:Int)=>
  (Out.bind (if (decide (v_thing.a = ("column":Str))) then (lt v_size.1 fun (v_lines_14:Int)=>
  (lt v_size.2 fun (v_places_15:Int)=>
  (.nx (v_lines_14,v_places_15)))) else (.nx (v_lines_11,v_places_12))) fun (s13:(Int×Int))=>
  (.rt ((decide (v_thing.b < s13.1)) && ((decide (v_thing.c ≤ v_thing.d)) && (decide (v_thing.d < s13.2))))))))))
@[irreducible] def m_lies_on (v_size:(Int×Int)) (v_thing:(T4 Str Int Int Int)):R Bool:=(m_lies_on_b v_size v_thing).run
@[irreducible] def m_is_deed_b (v_size:(Int×Int)) (v_thing:(T3 Str Int (Int⊕(T4 Str Int Int Int)))):Out Unit Unit Bool:=
  (R.to (R.or (R.ok (!true)) (R.or (R.ok (!decide ((3:Int) = (3:Int)))) ((m_is_number_plans v_thing.b).bind fun t1=>(R.ok (!t1))))) fun b10=>if b10 then Out.abs (.rt false) else
  (if (decide (v_thing.a = ("cut":Str))) then Out.abs (R.to (((R.ok v_size).bind fun t4=>(((R.ok v_thing.c).bind R.getR).bind fun t2=>(R.ok ()).bind fun t3=>(R.ok (t2,t3))).bind fun t5=>(R.ok (t4,t5))).bind fun z6=>m_lies_on z6.1 z6.2.1) .rt) else
  (R.to (R.and (R.ok (decide (v_thing.a = ("print":Str)))) ((((R.ok v_thing.c).bind R.getL).bind fun t7=>(R.ok ()).bind fun t8=>(R.ok (t7,t8))).bind fun z9=>m_is_number_plans z9.1)) .rt)))
@[irreducible] def m_is_deed (v_size:(Int×Int)) (v_thing:(T3 Str Int (Int⊕(T4 Str Int Int Int)))):R Bool:=(m_is_deed_b v_size v_thing).run
@[irreducible] def m_all_of_b (v_size:(Int×Int)):Out Unit Unit Int:=
  (R.to (((R.ok (1:Int)).bind fun t3=>((R.ok v_size.1).bind fun t1=>(R.ok v_size.2).bind fun t2=>(R.mul t1 t2)).bind fun t4=>(R.shl t3 t4)).bind fun t5=>(R.ok (1:Int)).bind fun t6=>(R.ok (t5 - t6))) .rt)
@[irreducible] def m_all_of (v_size:(Int×Int)):R Int:=(m_all_of_b v_size).run
@[irreducible] def m_set_of_b (v_size:(Int×Int)) (v_cells:(List (Int×Int))):Out Unit Unit Int:=
  (lt (0:Int) fun (v_found_1:Int)=>
  (R.to (R.ok v_cells) fun l14=>Out.bind (forL l14 v_found_1 (fun (s2:Int) (x3:(Int×Int))=>
   (R.to ((R.ok s2).bind fun t10=>((R.ok (1:Int)).bind fun t8=>(((R.ok x3.2).bind fun t4=>(R.ok v_size.1).bind fun t5=>(R.mul t4 t5)).bind fun t6=>(R.ok x3.1).bind fun t7=>(R.ok (t6 + t7))).bind fun t9=>(R.shl t8 t9)).bind fun t11=>(R.ok (Builtin.bitOr t10 t11))) fun (v_found_12:Int)=>
  (.nx v_found_12)))) fun (s13:Int)=>
  (.rt s13)))
@[irreducible] def m_set_of (v_size:(Int×Int)) (v_cells:(List (Int×Int))):R Int:=(m_set_of_b v_size v_cells).run
@[irreducible] def m_cells_cut_b (v_size:(Int×Int)) (v_stroke:(T4 Str Int Int Int)):Out Unit Unit Int:=
  (lt4 v_stroke fun (v_way_1:Str) (v_line_2:Int) (v_first_3:Int) (v_last_4:Int)=>
  (if (decide (v_way_1 = ("row":Str))) then Out.abs (R.to (((R.ok v_size).bind fun t11=>((((R.ok v_first_3).bind fun t5=>(R.ok (v_last_4 + (1:Int))).bind fun t6=>R.rng t5 t6).bind fun l8=>R.lcM l8 (fun (x7:Int)=>(x7,v_line_2))).bind fun t9=>(R.ok ()).bind fun t10=>(R.ok (t9,t10))).bind fun t12=>(R.ok (t11,t12))).bind fun z13=>m_set_of z13.1 z13.2.1) .rt) else
  (R.to (((R.ok v_size).bind fun t20=>((((R.ok v_first_3).bind fun t14=>(R.ok (v_last_4 + (1:Int))).bind fun t15=>R.rng t14 t15).bind fun l17=>R.lcM l17 (fun (x16:Int)=>(v_line_2,x16))).bind fun t18=>(R.ok ()).bind fun t19=>(R.ok (t18,t19))).bind fun t21=>(R.ok (t20,t21))).bind fun z22=>m_set_of z22.1 z22.2.1) .rt)))
@[irreducible] def m_cells_cut (v_size:(Int×Int)) (v_stroke:(T4 Str Int Int Int)):R Int:=(m_cells_cut_b v_size v_stroke).run
@[irreducible] def m_replayed_b (v_size:(Int×Int)) (v_plan:(List (T3 Str Int (Int⊕(T4 Str Int Int Int))))):Out Unit Unit (List (Int×Int)):=
  (lt (Dk.mk ([]:List (Int×Int))) fun (v_wood_1:(Dk Int Int))=>
  (lt ([]:List (Int×Int)) fun (v_prints_2:(List (Int×Int)))=>
  (lt ((0:Int) - (1:Int)) fun (v_last_3:Int)=>
  (R.to ((R.ok v_plan).bind fun t4=>(R.ok (enum t4))) fun l32=>Out.bind (forL l32 (v_wood_1,v_prints_2,v_last_3) (fun (s5:((Dk Int Int)×(List (Int×Int))×Int)) (x6:(Int×(T3 Str Int (Int⊕(T4 Str Int Int Int)))))=>
   (R.to (R.or ((m_is_deed v_size x6.2).bind fun t7=>(R.ok (!t7))) (R.and (R.ok (decide (x6.2.a = ("print":Str)))) (((R.ok x6.2.c).bind R.getL).bind fun t8=>(R.ok s5.2.2).bind fun t9=>(R.ok (decide (t8 ≤ t9)))))) fun b30=>if b30 then Out.abs .no else
  (R.to ((R.ok s5.1).bind fun t10=>(R.ok x6.2.b).bind fun t11=>(m_all_of v_size).bind fun t12=>(R.ok ((dval t10.l t11).getD t12))) fun (v_there_13:Int)=>
  (Out.bind (if (decide (x6.2.a = ("print":Str))) then (R.to ((R.ok x6.2.c).bind R.getL) fun (v_last_15:Int)=>
  (R.to (R.ok (v_last_15,v_there_13)) fun t17=>R.to (R.app s5.2.1 t17) fun (v_prints_16:(List (Int×Int)))=>
  (.nx (s5.1,v_prints_16,v_last_15)))) else (R.to ((R.ok v_there_13).bind fun t25=>((m_all_of v_size).bind fun t23=>(((R.ok v_size).bind fun t20=>(((R.ok x6.2.c).bind R.getR).bind fun t18=>(R.ok ()).bind fun t19=>(R.ok (t18,t19))).bind fun t21=>(R.ok (t20,t21))).bind fun z22=>m_cells_cut z22.1 z22.2.1).bind fun t24=>(R.ok (Builtin.bitXor t23 t24))).bind fun t26=>(R.ok (Builtin.bitAnd t25 t26))) fun t28=>R.to (R.ok x6.2.b) fun t29=>R.to (R.dput s5.1 t29 t28) fun (v_wood_27:(Dk Int Int))=>
  (.nx (v_wood_27,s5.2.1,s5.2.2)))) fun (s14:((Dk Int Int)×(List (Int×Int))×Int))=>
  (.nx (s14.1,s14.2.1,s14.2.2))))))) fun (s31:((Dk Int Int)×(List (Int×Int))×Int))=>
  (.rt s31.2.1)))))
@[irreducible] def m_replayed (v_size:(Int×Int)) (v_plan:(List (T3 Str Int (Int⊕(T4 Str Int Int Int))))):R (List (Int×Int)):=(m_replayed_b v_size v_plan).run
@[irreducible] def m_law_b (v_script:(Sq Int)):Out Unit Unit Bool:=
  (R.to (((m_cell v_script (1:Int)).bind fun t1=>(R.ok ()).bind fun t2=>(R.ok (t1,t2))).bind fun z3=>m_size z3.1) fun (v_size_here_4:(Int×Int))=>
  (R.to (m_plan v_script v_size_here_4 (3:Int) (63:Int)) fun (v_plan_here_5:(List (T3 Str Int (Int⊕(T4 Str Int Int Int)))))=>
  (lt (DDk.mk ([]:List (Int×List ((Ky (Int×Int))×Bool)))) fun (v_lost_6:(DDk Int (Ky (Int×Int)) Bool))=>
  (lt ([]:List (Int×Int)) fun (v_due_7:(List (Int×Int)))=>
  (R.to (R.ok v_plan_here_5) fun l75=>Out.bind (forL l75 (v_lost_6,v_due_7) (fun (s8:((DDk Int (Ky (Int×Int)) Bool)×(List (Int×Int)))) (x9:(T3 Str Int (Int⊕(T4 Str Int Int Int))))=>
   (R.to (R.ok x9.b) fun t57=>R.to (R.sdIn s8.1 t57) fun t58=>lt (Dk.mk ((Fw.dval t58.l t57).getD [])) fun t59=>(fun (k10:Int) (v_lost_11:(DDk Int (Ky (Int×Int)) Bool)) (v_gone_13:(Dk (Ky (Int×Int)) Bool))=>
  (Out.bind (if (decide (x9.a = ("cut":Str))) then (R.to ((((R.ok x9.c).bind R.getR).bind fun t16=>(R.ok ()).bind fun t17=>(R.ok (t16,t17))).bind fun z18=>m_cells z18.1) fun l25=>Out.bind (forL l25 v_gone_13 (fun (s19:(Dk (Ky (Int×Int)) Bool)) (x20:(Ky (Int×Int)))=>
   (R.to (R.ok true) fun t22=>R.to (R.ok x20) fun t23=>R.to (R.dput s19 t23 t22) fun (v_gone_21:(Dk (Ky (Int×Int)) Bool))=>
  (.nx v_gone_21)))) fun (s24:(Dk (Ky (Int×Int)) Bool))=>
  (.nx (s8.2,s24))) else (lt (0:Int) fun (v_there_27:Int)=>
  (R.to ((R.ok v_size_here_4.2).bind fun t28=>R.rng 0 t28) fun l55=>Out.bind (forL l55 v_there_27 (fun (s29:Int) (x30:Int)=>
   (R.to ((R.ok v_size_here_4.1).bind fun t31=>R.rng 0 t31) fun l45=>Out.bind (forL l45 s29 (fun (s32:Int) (x33:Int)=>
   (Out.bind (if (!(dval v_gone_13.l (Ky.mk (x33,x30))).isSome) then (R.to ((R.ok s32).bind fun t41=>((R.ok (1:Int)).bind fun t39=>(((R.ok x30).bind fun t35=>(R.ok v_size_here_4.1).bind fun t36=>(R.mul t35 t36)).bind fun t37=>(R.ok x33).bind fun t38=>(R.ok (t37 + t38))).bind fun t40=>(R.shl t39 t40)).bind fun t42=>(R.ok (Builtin.bitOr t41 t42))) fun (v_there_43:Int)=>
  (.nx v_there_43)) else (.nx s32)) fun (s34:Int)=>
  (.nx s34)))) fun (s44:Int)=>
  (.nx s44)))) fun (s47:Int)=>
  (R.to ((((R.ok x9.c).bind R.getL).bind fun t50=>((R.ok s47).bind fun t48=>(R.ok ()).bind fun t49=>(R.ok (t48,t49))).bind fun t51=>(R.ok (t50,t51))).bind fun z52=>(R.ok (z52.1,z52.2.1))) fun t54=>R.to (R.app s8.2 t54) fun (v_due_53:(List (Int×Int)))=>
  (.nx (v_due_53,v_gone_13)))))) fun (s14:((List (Int×Int))×(Dk (Ky (Int×Int)) Bool)))=>
  (lt (DDk.mk (Fw.dput v_lost_11.l k10 s14.2.l)) fun (v_lost_15:(DDk Int (Ky (Int×Int)) Bool))=>(.nx (v_lost_15,s14.1))))) t57 t58 t59))) fun (s60:((DDk Int (Ky (Int×Int)) Bool)×(List (Int×Int))))=>
  (lt v_plan_here_5 fun (v_handed_61:(List (T3 Str Int (Int⊕(T4 Str Int Int Int)))))=>
  (R.to (m_replayed v_size_here_4 v_handed_61) fun (v_found_62:(List (Int×Int)))=>
  (if ((!true) || ((!decide (v_found_62 = s60.2)) || (!decide (v_handed_61 = v_plan_here_5)))) then Out.abs (.rt false) else
  (R.to (R.ok v_found_62) fun l73=>Out.bind (forL l73 () (fun (s64:Unit) (x65:(Int×Int))=>
   (if ((!true) || (!decide ((2:Int) = (2:Int)))) then Out.abs (.rt false) else
  (.nx ())))) fun (s66:Unit)=>
  (R.to (R.ok ((0:Int),(0:Int))) fun t72=>R.to (R.app v_found_62 t72) fun (v_found_67:(List (Int×Int)))=>
  (R.to (R.and ((m_replayed v_size_here_4 v_handed_61).bind fun t68=>(R.ok s60.2).bind fun t69=>(R.ok (decide (t68 = t69)))) ((m_replayed v_size_here_4 ([]:List (T3 Str Int (Int⊕(T4 Str Int Int Int))))).bind fun t70=>(R.ok ([]:List (Int×Int))).bind fun t71=>(R.ok (decide (t70 = t71))))) .rt)))))))))))
@[irreducible] def m_law (v_script:(Sq Int)):R Bool:=(m_law_b v_script).run
end
end Mir

namespace Mt
open PySem L2 Fw
variable {α β γ S T J ρ : Type}
theorem sl_eq : sizeLine = 16777216 := sizeLine_eq
/-! ### loops of the mirrors -/
/-- a loop each turn of which is known -/
theorem forL_fold {f : S → α → Out S S ρ} {g : S → α → S} : ∀ {xs : List α} {s : S}, (∀ s x, x ∈ xs → f s x = .nx (g s x)) → (forL xs s f : Out S J ρ) = .nx (xs.foldl g s)
  | [], s, _ => rfl
  | x :: xs, s, h => by
    unfold forL
    rw [h s x (by simp)]
    exact forL_fold fun s y hy => h s y (List.mem_cons_of_mem _ hy)
/-- a loop that never finds -/
theorem forL_none {f : Unit → α → Out Unit Unit ρ} {xs : List α} (h : ∀ x, x ∈ xs → f () x = .nx ()) : (forL xs () f : Out Unit J ρ) = .nx () := by
  have := forL_fold (J := J) (f := f) (g := fun _ _ => ()) (xs := xs) (s := ()) fun s x hx => h x hx
  exact this
/-! ### what holds of what comes out -/
def RS (Q : α → Prop) (m : R α) : Prop := ∃ x, m = .ok x ∧ Q x
def OS (N : S → Prop) (B C : J → Prop) (Z : ρ → Prop) (m : Out S J ρ) : Prop := match m with
  | .nx s => N s
  | .rt r => Z r
  | .bk j => B j
  | .ct j => C j
  | .ex _ => False
  | .no => False
section
variable {N N' : S → Prop} {B C : J → Prop} {Z : ρ → Prop}
theorem os_nx {s : S} (h : N s) : OS N B C Z (.nx s) := h
theorem os_rt {r : ρ} (h : Z r) : OS N B C Z (.rt r) := h
theorem os_to {Q : α → Prop} {m : R α} {k : α → Out S J ρ} (h : RS Q m) (hk : ∀ x, Q x → OS N B C Z (k x)) : OS N B C Z (m.to k) := by
  obtain ⟨x, e, p⟩ := h
  subst e
  exact hk x p
theorem os_bind {M : T → Prop} {m : Out T J ρ} {k : T → Out S J ρ} (h : OS M B C Z m) (hk : ∀ x, M x → OS N B C Z (k x)) : OS N B C Z (m.bind k) := by
  cases m with
  | nx s => exact hk s h
  | rt r => exact h
  | bk j => exact h
  | ct j => exact h
  | ex e => exact h
  | no => exact h
theorem os_abs {m : Out Empty J ρ} (h : OS (fun _ => True) B C Z m) : OS N B C Z (m.abs : Out S J ρ) := by
  cases m with
  | nx s => exact s.elim
  | rt r => exact h
  | bk j => exact h
  | ct j => exact h
  | ex e => exact h
  | no => exact h
theorem os_for {f : S → α → Out S S ρ} {xs : List α} {s : S} (P : Nat → S → Prop) (h0 : P 0 s) (hs : ∀ i x s, xs[i]? = some x → P i s → OS (P (i + 1)) N (P (i + 1)) Z (f s x)) (hd : ∀ s, P xs.length s → N s) : OS N B C Z (forL xs s f) := by
  have main : ∀ (ys : List α) (n : Nat) (s : S), P n s → (∀ i x s, ys[i]? = some x → P (n + i) s → OS (P (n + i + 1)) N (P (n + i + 1)) Z (f s x)) → (∀ s, P (n + ys.length) s → N s) → OS N B C Z (forL ys s f) := by
    intro ys
    induction ys with
    | nil => exact fun n s p _ hd => hd s p
    | cons x ys ih =>
      intro n s p hs hd
      have h1 := hs 0 x s rfl p
      have hs' : ∀ i y s, ys[i]? = some y → P (n + 1 + i) s → OS (P (n + 1 + i + 1)) N (P (n + 1 + i + 1)) Z (f s y) := fun i y s hi p => by
        have := hs (i + 1) y s (by simpa using hi) (by rw [show n + (i + 1) = n + 1 + i by omega]; exact p)
        rw [show n + (i + 1) + 1 = n + 1 + i + 1 by omega] at this
        exact this
      have hd' : ∀ s, P (n + 1 + ys.length) s → N s := fun s q => hd s (by rw [List.length_cons, show n + (ys.length + 1) = n + 1 + ys.length by omega]; exact q)
      show OS N B C Z (match f s x with | .nx s' => forL ys s' f | .ct s' => forL ys s' f | .bk s' => .nx s' | .rt r => .rt r | .ex e => .ex e | .no => .no)
      revert h1
      generalize f s x = o
      intro h1
      cases o with
      | nx s' => exact ih (n + 1) s' h1 hs' hd'
      | ct s' => exact ih (n + 1) s' h1 hs' hd'
      | bk s' => exact h1
      | rt r => exact h1
      | ex e => exact h1
      | no => exact h1
  exact main xs 0 s h0 (fun i x s hi p => by rw [Nat.zero_add] at p ⊢; exact hs i x s hi p) fun s p => hd s (by rw [Nat.zero_add] at p; exact p)
theorem os_if {c : Bool} {a b : Out S J ρ} (h1 : c = true → OS N B C Z a) (h2 : c = false → OS N B C Z b) : OS N B C Z (if c then a else b) := by
  cases c with
  | true => exact h1 rfl
  | false => exact h2 rfl
end
theorem run_of {Z : ρ → Prop} {m : Out Unit Unit ρ} (h : OS (fun _ => False) (fun _ => False) (fun _ => False) Z m) : RS Z m.run := by
  cases m with
  | rt r => exact ⟨r, rfl, h⟩
  | nx s => exact h.elim
  | bk j => exact h.elim
  | ct j => exact h.elim
  | ex e => exact h.elim
  | no => exact h.elim
/-! ### reading lists -/
theorem atI_ok {xs : List α} {i : Int} (h0 : 0 ≤ i) (h : i.toNat < xs.length) : atI xs i = some (xs[i.toNat]'h) := by
  unfold atI ixN
  rw [if_pos h0, if_pos (by omega)]
  exact List.getElem?_eq_getElem h
theorem ix_ok {xs : List α} {i : Int} (h0 : 0 ≤ i) (h : i.toNat < xs.length) : R.ix xs i = .ok (xs[i.toNat]'h) := by
  unfold R.ix
  rw [atI_ok h0 h]
  rfl
theorem mod_ok {x y : Int} (h : 0 < y) : R.mod x y = .ok (x % y) := by unfold R.mod; exact if_pos h
theorem fdiv_ok {x y : Int} (h : 0 < y) (h2 : y < 1073741824) : R.fdiv x y = .ok (x / y) := by unfold R.fdiv; exact if_pos ⟨h, h2⟩
theorem mul_okl {x y : Int} (h : -(2 ^ 64) < x) (h2 : x < 2 ^ 64) : R.mul x y = .ok (x * y) := by unfold R.mul; exact if_pos (.inl ⟨h, h2⟩)
theorem mul_okr {x y : Int} (h : -(2 ^ 64) < y) (h2 : y < 2 ^ 64) : R.mul x y = .ok (x * y) := by unfold R.mul; exact if_pos (.inr ⟨h, h2⟩)
theorem apd_ok {xs : List α} {x : α} (h : xs.length < 16777216) : R.app xs x = .ok (xs ++ [x]) := by unfold R.app; exact if_pos (by rw [sl_eq]; exact h)
theorem rng_ok {lo hi : Int} (h1 : -16777216 ≤ lo) (h2 : lo ≤ 16777216) (h3 : -16777216 ≤ hi) (h4 : hi ≤ 16777216) : R.rng lo hi = .ok (rng lo hi) := by unfold R.rng; exact if_pos ⟨h1, h2, h3, h4⟩
theorem lcM_ok {xs : List α} {f : α → β} (h : xs.length ≤ 16777216) : R.lcM xs f = .ok (xs.map f) := by unfold R.lcM; exact if_pos (by rw [sl_eq]; exact h)
/-! ### slices -/
theorem rng_mem {lo hi x : Int} (h : x ∈ rng lo hi) : lo ≤ x ∧ x < hi := by
  unfold rng at h
  rw [List.mem_map] at h
  obtain ⟨i, hi', e⟩ := h
  rw [List.mem_range] at hi'
  omega
theorem rng_get' {lo hi : Int} {i : Nat} (h : i < (hi - lo).toNat) : (rng lo hi)[i]? = some (lo + (i : Nat)) := by
  unfold rng
  rw [List.getElem?_map, List.getElem?_range h]
  rfl
/-! ### texts -/
end Mt

namespace Ma
open PySem L2 Fw Mir Mt
theorem cell_ok (s : Sq Int) (k : Int) (h0 : 0 ≤ k) (h1 : k ≤ 1000) : RS (fun _ => True) (m_cell s k) := by
  have k0 : 0 ≤ k * k := Int.mul_nonneg h0 h0
  have k1 : k * k ≤ 1000 * 1000 := Int.mul_le_mul h1 h1 h0 (by decide)
  unfold m_cell
  refine run_of ?_
  unfold m_cell_b
  simp only [R.bind_ok]
  refine os_if (fun hc => os_abs ?_) fun _ => ?_
  · rw [ix_ok h0 (by have := of_decide_eq_true hc; omega)]
    trivial
  · rw [mul_okl (by omega) (by omega)]
    simp only [R.bind_ok, R.to_ok]
    refine os_bind (M := fun v : Int => 0 ≤ v ∧ v < 10000000000) (os_if (fun hc => ?_) fun _ => os_nx (by omega)) fun v hv => ?_
    · have hl := of_decide_eq_true hc
      rw [mod_ok hl]
      simp only [R.bind_ok]
      have a0 := Int.emod_nonneg (k * 7) (show (s.l.length : Int) ≠ 0 by omega)
      have a1 := Int.emod_lt_of_pos (k * 7) hl
      rw [ix_ok a0 (by omega)]
      simp only [R.bind_ok, R.to_ok]
      exact os_nx (by omega)
    · rw [mul_okl (by omega) (by omega)]
      trivial
theorem mixed_ok (c k : Int) (h0 : 0 ≤ k) (h1 : k ≤ 100000) : RS (fun _ => True) (m_mixed c k) := by
  unfold m_mixed
  refine run_of ?_
  unfold m_mixed_b
  simp only [R.bind_ok]
  refine os_if (fun hc => os_abs ?_) fun _ => ?_
  · unfold R.shr
    rw [if_pos (by omega)]
    trivial
  · rw [mul_okr (by omega) (by omega)]
    simp only [R.bind_ok, R.to_ok]
    generalize (c % 2147483629 + 7919 * k * k + k + 13) * 48271 = q
    rw [mul_okl (by omega) (by omega)]
    trivial
theorem size_ok (c : Int) : RS (fun p => 1 ≤ p.1 ∧ p.1 ≤ 24 ∧ 1 ≤ p.2 ∧ p.2 ≤ 24) (m_size c) := by
  obtain ⟨a, ea, _⟩ := mixed_ok c 3 (by decide) (by decide)
  obtain ⟨b, eb, _⟩ := mixed_ok c 4 (by decide) (by decide)
  unfold m_size
  refine run_of ?_
  unfold m_size_b
  simp only [ea, eb, R.bind_ok, R.to_ok]
  refine os_if (fun _ => os_abs ?_) fun _ => ?_
  · exact os_rt (by dsimp only; omega)
  · exact os_rt (by dsimp only; omega)
theorem rng_nat {w i : Nat} {x : Int} (h : (rng 0 (w : Int))[i]? = some x) : x = (i : Int) ∧ i < w := by
  have h1 := (List.getElem?_eq_some_iff.mp h).1
  rw [rng_len] at h1
  rw [rng_get' (by omega)] at h
  have := Option.some.inj h
  omega

/-! ### plans and their replaying -/
abbrev ST := T4 Str Int Int Int
abbrev DD := T3 Str Int (Int ⊕ ST)
def SOK (w h : Int) (s : ST) : Prop := (s.a = ("row" : Str) ∧ 0 ≤ s.b ∧ s.b < h ∧ 0 ≤ s.c ∧ s.c ≤ s.d ∧ s.d < w) ∨ (s.a = ("column" : Str) ∧ 0 ≤ s.b ∧ s.b < w ∧ 0 ≤ s.c ∧ s.c ≤ s.d ∧ s.d < h)
theorem s_rc : ("row" : Str) ≠ ("column" : Str) := by decide +kernel
theorem s_cr : ("column" : Str) ≠ ("row" : Str) := by decide +kernel
theorem s_cp : ("cut" : Str) ≠ ("print" : Str) := by decide +kernel
theorem s_pc : ("print" : Str) ≠ ("cut" : Str) := by decide +kernel
theorem shl1_ok {n : Nat} (h1 : n ≤ 1000000) : R.shl 1 (n : Int) = .ok ((2 ^ n : Nat) : Int) := by
  unfold R.shl
  rw [if_pos ⟨by omega, by omega, by decide⟩]
  congr 1
  simp
theorem numS_ok {x : Int} (h : 0 ≤ x) : m_is_number_strokes x = .ok true := by
  unfold m_is_number_strokes m_is_number_strokes_b
  rw [decide_eq_true h]; rfl
theorem numP_ok {x : Int} (h : 0 ≤ x) : m_is_number_plans x = .ok true := by
  unfold m_is_number_plans m_is_number_plans_b
  rw [decide_eq_true h]; rfl
theorem lies_ok {w h : Int} {s : ST} (o : SOK w h s) : m_lies_on (w, h) s = .ok true := by
  have key : RS (fun b => b = true) (m_lies_on (w, h) s) := by
    unfold m_lies_on
    refine run_of ?_
    unfold m_lies_on_b
    have ec : R.cut4 s (some 1) none = .ok ⟨[s.b, s.c, s.d]⟩ := by unfold R.cut4; exact if_pos ⟨rfl, rfl⟩
    have em : memB s.a [("row" : Str), ("column" : Str)] = true := by
      unfold memB
      rcases o with o | o <;> rw [o.1] <;> decide +kernel
    have n1 : 0 ≤ s.b := by rcases o with o | o <;> exact o.2.1
    have n2 : 0 ≤ s.c := by rcases o with o | o <;> exact o.2.2.2.1
    have n3 : 0 ≤ s.d := by rcases o with o | o <;> omega
    simp (config := { implicitDefEqProofs := false }) only [lt, R.bind_ok, R.to_ok, ec, em, Bool.not_true, Bool.false_or, decide_true, Bool.false_eq_true, if_false]
    rw [forL_none fun x hx => ?_]
    · refine os_bind (M := fun p : Int × Int => (s.a = ("row" : Str) ∧ p = (h, w)) ∨ (s.a = ("column" : Str) ∧ p = (w, h))) (os_if (fun hc => ?_) fun hc => ?_) fun p hp => os_rt ?_
      · exact .inr ⟨of_decide_eq_true hc, rfl⟩
      · rcases o with o | o
        · exact .inl ⟨o.1, rfl⟩
        · exact absurd o.1 (of_decide_eq_false hc)
      · rcases hp with ⟨ha, ep⟩ | ⟨ha, ep⟩ <;> rw [ep] <;> rcases o with o | o
        · simp only [Bool.and_eq_true, decide_eq_true_eq]; omega
        · exact absurd (ha.symm.trans o.1) s_rc
        · exact absurd (ha.symm.trans o.1) s_cr
        · simp only [Bool.and_eq_true, decide_eq_true_eq]; omega
    · have : 0 ≤ x := by
        simp only [List.mem_cons, List.not_mem_nil, or_false] at hx
        omega
      rw [numS_ok this]
      rfl
  obtain ⟨b, e, eb⟩ := key
  rw [e, eb]
theorem seto_ok {w h : Int} (w0 : 1 ≤ w) (w1 : w ≤ 24) (h0 : 1 ≤ h) (h1 : h ≤ 24) {cs : List (Int × Int)} (hc : ∀ c ∈ cs, 0 ≤ c.1 ∧ c.1 < w ∧ 0 ≤ c.2 ∧ c.2 < h) : RS (fun s : Int => ∃ N : Nat, s = N) (m_set_of (w, h) cs) := by
  unfold m_set_of
  refine run_of ?_
  unfold m_set_of_b
  simp (config := { implicitDefEqProofs := false }) only [lt, R.bind_ok, R.to_ok]
  refine os_bind (os_for (fun i s => ∃ N : Nat, s = (N : Int)) ⟨0, rfl⟩ (fun i x s hi ⟨N, es⟩ => ?_) fun s p => p) fun s p => os_rt p
  have hx := hc x (List.mem_of_getElem? hi)
  rw [mul_okr (by omega) (by omega)]
  simp (config := { implicitDefEqProofs := false }) only [R.bind_ok]
  have z0 : 0 ≤ x.2 * w := Int.mul_nonneg hx.2.2.1 (by omega)
  have z1 : x.2 * w ≤ 24 * 24 := Int.mul_le_mul (by omega) w1 (by omega) (by omega)
  obtain ⟨n, en⟩ := Int.eq_ofNat_of_zero_le (show 0 ≤ x.2 * w + x.1 by omega)
  rw [en, shl1_ok (by omega)]
  simp (config := { implicitDefEqProofs := false }) only [R.bind_ok, R.to_ok]
  refine os_nx ⟨N ||| 2 ^ n, ?_⟩
  rw [es, Bits.bitOr_pp (Int.natCast_nonneg _) (Int.natCast_nonneg _)]
  rfl
theorem cut_ok {w h : Int} (w0 : 1 ≤ w) (w1 : w ≤ 24) (h0 : 1 ≤ h) (h1 : h ≤ 24) {s : ST} (o : SOK w h s) : RS (fun s : Int => ∃ N : Nat, s = N) (m_cells_cut (w, h) s) := by
  unfold m_cells_cut
  refine run_of ?_
  unfold m_cells_cut_b
  have n1 : 0 ≤ s.c ∧ s.c ≤ s.d ∧ s.d < 24 := by rcases o with o | o <;> omega
  have er : R.rng s.c (s.d + 1) = .ok (rng s.c (s.d + 1)) := rng_ok (by omega) (by omega) (by omega) (by omega)
  have el : (rng s.c (s.d + 1)).length ≤ 16777216 := by rw [rng_len]; omega
  simp (config := { implicitDefEqProofs := false }) only [lt, lt4, R.bind_ok, R.to_ok, er, lcM_ok el]
  refine os_if (fun hc => os_abs ?_) fun hc => ?_
  · have ha : s.a = ("row" : Str) := of_decide_eq_true hc
    have o' : 0 ≤ s.b ∧ s.b < h ∧ 0 ≤ s.c ∧ s.c ≤ s.d ∧ s.d < w := by
      rcases o with o | o
      · exact o.2
      · exact absurd (ha.symm.trans o.1) s_rc
    refine os_to (Q := fun s : Int => ∃ N : Nat, s = N) (seto_ok w0 w1 h0 h1 fun c hc => ?_) fun x hx => os_rt hx
    obtain ⟨y, hy, ey⟩ := List.mem_map.mp hc
    have := rng_mem hy
    rw [← ey]
    dsimp only
    omega
  · have ha : s.a ≠ ("row" : Str) := of_decide_eq_false hc
    have o' : 0 ≤ s.b ∧ s.b < w ∧ 0 ≤ s.c ∧ s.c ≤ s.d ∧ s.d < h := by
      rcases o with o | o
      · exact absurd o.1 ha
      · exact o.2
    refine os_to (Q := fun s : Int => ∃ N : Nat, s = N) (seto_ok w0 w1 h0 h1 fun c hc => ?_) fun x hx => os_rt hx
    obtain ⟨y, hy, ey⟩ := List.mem_map.mp hc
    have := rng_mem hy
    rw [← ey]
    dsimp only
    omega
def cutN (w h : Int) (s : ST) : Nat := match m_cells_cut (w, h) s with
  | .ok x => x.toNat
  | _ => 0
theorem cut_eq {w h : Int} (w0 : 1 ≤ w) (w1 : w ≤ 24) (h0 : 1 ≤ h) (h1 : h ≤ 24) {s : ST} (o : SOK w h s) : m_cells_cut (w, h) s = .ok (cutN w h s : Int) := by
  obtain ⟨x, e, N, en⟩ := cut_ok w0 w1 h0 h1 o
  unfold cutN
  rw [e, en]
  rfl
def DOK (w h : Int) (d : DD) : Prop := (d.a = ("print" : Str) ∧ 0 ≤ d.b ∧ ∃ i, d.c = .inl i ∧ 0 ≤ i) ∨ (d.a = ("cut" : Str) ∧ 0 ≤ d.b ∧ ∃ s, d.c = .inr s ∧ SOK w h s)
theorem deed_ok {w h : Int} {d : DD} (o : DOK w h d) : m_is_deed (w, h) d = .ok true := by
  have key : RS (fun b => b = true) (m_is_deed (w, h) d) := by
    unfold m_is_deed
    refine run_of ?_
    unfold m_is_deed_b
    rcases o with ⟨ha, hb, i, hi, h0⟩ | ⟨ha, hb, s, hs, h0⟩
    · rw [ha, hi]
      simp (config := { implicitDefEqProofs := false }) only [lt, R.bind_ok, R.to_ok, numP_ok hb, R.or, R.and, R.getL, numP_ok h0, decide_true, Bool.not_true, Bool.false_eq_true, if_false, decide_eq_false s_pc]
      exact os_rt rfl
    · rw [ha, hs]
      simp (config := { implicitDefEqProofs := false }) only [lt, R.bind_ok, R.to_ok, numP_ok hb, R.or, R.and, R.getR, lies_ok h0, decide_true, Bool.not_true, Bool.false_eq_true, if_false, if_true]
      exact os_abs (os_rt rfl)
  obtain ⟨b, e, eb⟩ := key
  rw [e, eb]
def inkOf (d : DD) : Option Int := match d.c with
  | .inl i => some i
  | .inr _ => none
def inks (l : List DD) : List Int := l.filterMap inkOf
theorem inks_cons (d : DD) (l : List DD) : inks (d :: l) = match inkOf d with | some i => i :: inks l | none => inks l := by
  unfold inks
  rw [List.filterMap_cons]
  cases inkOf d <;> rfl
theorem inks_app (a b : List DD) : inks (a ++ b) = inks a ++ inks b := List.filterMap_append
def upd' (m : ST → Nat) (wf : Int → Nat) (d : DD) : Int → Nat := match d.c with
  | .inl _ => wf
  | .inr s => fun b => if b = d.b then wf b &&& m s else wf b
def go (m : ST → Nat) : (Int → Nat) → List DD → List (Int × Int)
  | _, [] => []
  | wf, d :: r => match inkOf d with
    | some i => (i, (wf d.b : Int)) :: go m wf r
    | none => go m (upd' m wf d) r
theorem go_print {m : ST → Nat} {wf : Int → Nat} {d : DD} {r : List DD} {i : Int} (h : inkOf d = some i) : go m wf (d :: r) = (i, (wf d.b : Int)) :: go m wf r := by
  show (match inkOf d with | some i => (i, (wf d.b : Int)) :: go m wf r | none => go m (upd' m wf d) r) = _
  rw [h]
theorem go_cut {m : ST → Nat} {wf : Int → Nat} {d : DD} {r : List DD} (h : inkOf d = none) : go m wf (d :: r) = go m (upd' m wf d) r := by
  show (match inkOf d with | some i => (i, (wf d.b : Int)) :: go m wf r | none => go m (upd' m wf d) r) = _
  rw [h]
theorem dval_put {κ α : Type} [DecidableEq κ] (k j : κ) (y : α) : ∀ x : List (κ × α), dval (dput x k y) j = if j = k then some y else dval x j := by
  have snoc : ∀ x : List (κ × α), dval x k = none → dval (x ++ [(k, y)]) j = if j = k then some y else dval x j := fun x => by
    induction x with
    | nil =>
      intro _
      show (if k = j then some y else none) = _
      by_cases h : j = k
      · rw [if_pos h, if_pos h.symm]
      · rw [if_neg h, if_neg (fun z => h z.symm)]; rfl
    | cons p x ih =>
      intro h
      unfold dval at h
      by_cases c : p.1 = k
      · rw [if_pos c] at h; cases h
      · rw [if_neg c] at h
        show (if p.1 = j then some p.2 else dval (x ++ [(k, y)]) j) = if j = k then some y else if p.1 = j then some p.2 else dval x j
        rw [ih h]
        by_cases d : p.1 = j
        · rw [if_pos d, if_pos d, if_neg (fun z => c (d.trans z))]
        · rw [if_neg d, if_neg d]
  have repl : ∀ x : List (κ × α), dval (x.map fun p => if p.1 = k then (p.1, y) else p) j = if j = k then (dval x k).map (fun _ => y) else dval x j := fun x => by
    induction x with
    | nil => show none = _; split <;> rfl
    | cons p x ih =>
      rw [List.map_cons]
      show (if (if p.1 = k then (p.1, y) else p).1 = j then some (if p.1 = k then (p.1, y) else p).2 else dval (x.map fun p => if p.1 = k then (p.1, y) else p) j) = _
      rw [ih]
      by_cases c : p.1 = k
      · rw [if_pos c]
        by_cases d : p.1 = j
        · rw [if_pos d, if_pos (d.symm.trans c)]
          unfold dval
          rw [if_pos c]
          rfl
        · rw [if_neg d, if_neg (fun z => d (c.trans z.symm)), if_neg (fun z => d (c.trans z.symm))]
          show _ = if p.1 = j then some p.2 else dval x j
          rw [if_neg d]
      · rw [if_neg c]
        by_cases d : p.1 = j
        · rw [if_pos d, if_neg (fun z => c (d.trans z))]
          show _ = if p.1 = j then some p.2 else dval x j
          rw [if_pos d]
        · rw [if_neg d]
          by_cases z : j = k
          · rw [if_pos z, if_pos z]
            show _ = (if p.1 = k then some p.2 else dval x k).map _
            rw [if_neg c]
          · rw [if_neg z, if_neg z]
            show _ = if p.1 = j then some p.2 else dval x j
            rw [if_neg d]
  intro x
  unfold dput
  cases h : dval x k with
  | none => exact snoc x h
  | some v =>
    simp only [Option.isSome_some, if_true]
    rw [repl, h]
    rfl
def mk' (A : Nat) (w h : Int) (s : ST) : Nat := A ^^^ cutN w h s
theorem replayed_ok {w h : Int} (w0 : 1 ≤ w) (w1 : w ≤ 24) (h0 : 1 ≤ h) (h1 : h ≤ 24) {A : Nat} (hA : A = 2 ^ (w * h).toNat - 1) {p : List DD} (hp : ∀ d ∈ p, DOK w h d) (hi : (inks p).Pairwise (· < ·)) (hl : p.length ≤ 1000) :
    m_replayed (w, h) p = .ok (go (mk' A w h) (fun _ => A) p) := by
  have hwh : w * h ≤ 24 * 24 := Int.mul_le_mul w1 h1 (by omega) (by omega)
  have hwh0 : 0 ≤ w * h := Int.mul_nonneg (by omega) (by omega)
  have ea : m_all_of (w, h) = .ok (A : Int) := by
    unfold m_all_of m_all_of_b
    obtain ⟨n, en⟩ := Int.eq_ofNat_of_zero_le hwh0
    rw [en] at hA hwh
    simp (config := { implicitDefEqProofs := false }) only [R.bind_ok, R.to_ok, mul_okl (show -(2 ^ 64) < w by omega) (show w < 2 ^ 64 by omega), en, shl1_ok (show n ≤ 1000000 by omega)]
    show R.ok _ = R.ok _
    congr 1
    have : 0 < 2 ^ n := Nat.pos_of_ne_zero (by simp)
    rw [hA, Int.toNat_natCast]
    omega
  have key : RS (fun x => x = go (mk' A w h) (fun _ => A) p) (m_replayed (w, h) p) := by
    unfold m_replayed
    refine run_of ?_
    unfold m_replayed_b
    simp (config := { implicitDefEqProofs := false }) only [lt, R.bind_ok, R.to_ok]
    refine os_bind (os_for (fun i s => ∃ wf : Int → Nat, (∀ b, (dval s.1.l b).getD (A : Int) = (wf b : Int)) ∧ s.2.1 ++ go (mk' A w h) wf (p.drop i) = go (mk' A w h) (fun _ => A) p ∧ s.1.l.length ≤ i ∧ s.2.1.length ≤ i ∧ ∀ j ∈ inks (p.drop i), s.2.2 < j)
      ⟨fun _ => A, fun b => rfl, rfl, Nat.zero_le _, Nat.zero_le _, fun j hj => ?_⟩ (fun i x s hx ⟨wf, q1, q2, q3, q4, q5⟩ => ?_) fun s q => q) fun s ⟨wf, q1, q2, q3, q4, q5⟩ => os_rt ?_
    · obtain ⟨d, hd, ed⟩ := List.mem_filterMap.mp hj
      have : 0 ≤ j := by
        rcases hp d hd with ⟨_, _, i, hi, h0⟩ | ⟨_, _, s, hs, _⟩
        · unfold inkOf at ed; rw [hi] at ed; cases ed; exact h0
        · unfold inkOf at ed; rw [hs] at ed; cases ed
      dsimp only
      omega
    · obtain ⟨ex1, ex2⟩ := enum_get hx
      have hil : i < p.length := (List.getElem?_eq_some_iff.mp ex2).1
      have hd : x.2 ∈ p := List.mem_of_getElem? ex2
      have edr : p.drop i = x.2 :: p.drop (i + 1) := by
        rw [List.drop_eq_getElem_cons hil]
        rw [List.getElem?_eq_getElem hil] at ex2
        rw [Option.some.inj ex2]
      rw [edr] at q2 q5
      have hpw : (inks (x.2 :: p.drop (i + 1))).Pairwise (· < ·) := by
        rw [← edr]
        have : inks p = inks (p.take i) ++ inks (p.drop i) := by rw [← inks_app, List.take_append_drop]
        rw [this] at hi
        exact (List.pairwise_append.mp hi).2.1
      rw [deed_ok (hp _ hd)]
      rcases hp _ hd with ⟨ha, hb, k, hk, k0⟩ | ⟨ha, hb, t, ht, t0⟩
      · have ei : inkOf x.2 = some k := by unfold inkOf; rw [hk]
        rw [inks_cons, ei] at q5 hpw
        have hk2 : s.2.2 < k := q5 k (by simp)
        rw [go_print ei] at q2
        simp (config := { implicitDefEqProofs := false }) only [R.bind_ok, R.to_ok, R.or, R.and, ha, hk, R.getL, Bool.not_true, decide_true, if_true, decide_eq_false (show ¬ k ≤ s.2.2 by omega), Bool.false_eq_true, if_false, ea, q1]
        rw [apd_ok (by omega)]
        refine os_nx ⟨wf, q1, ?_, ?_, ?_, ?_⟩
        · rw [← q2]
          simp
        · show s.1.l.length ≤ i + 1
          omega
        · show (s.2.1 ++ _).length ≤ _
          simp; omega
        · exact fun j hj => (List.pairwise_cons.mp hpw).1 j hj
      · have ei : inkOf x.2 = none := by unfold inkOf; rw [ht]
        rw [inks_cons, ei] at q5
        rw [go_cut ei] at q2
        simp (config := { implicitDefEqProofs := false }) only [R.bind_ok, R.to_ok, R.or, R.and, ha, ht, R.getR, Bool.not_true, decide_eq_false s_cp, Bool.false_eq_true, if_false, ea, q1, cut_eq w0 w1 h0 h1 t0]
        have ex : Builtin.bitXor (A : Int) (cutN w h t : Int) = ((mk' A w h t : Nat) : Int) := by
          rw [Bits.bitXor_pp (by omega) (by omega)]
          rfl
        have en : Builtin.bitAnd (wf x.2.b : Int) ((mk' A w h t : Nat) : Int) = ((wf x.2.b &&& mk' A w h t : Nat) : Int) := by
          rw [PyProof.Rows.bitAnd_pp (by omega) (by omega)]
          rfl
        rw [ex, en]
        have ed : R.dput s.1 x.2.b ((wf x.2.b &&& mk' A w h t : Nat) : Int) = .ok ⟨dput s.1.l x.2.b ((wf x.2.b &&& mk' A w h t : Nat) : Int)⟩ := by
          unfold R.dput
          rw [if_pos (by rw [sl_eq]; omega)]
        rw [ed]
        refine os_nx ⟨upd' (mk' A w h) wf x.2, fun b => ?_, q2, ?_, by dsimp only; omega, q5⟩
        · show (dval (dput s.1.l x.2.b _) b).getD _ = _
          rw [dval_put]
          unfold upd'
          rw [ht]
          dsimp only
          by_cases e : b = x.2.b
          · rw [if_pos e, if_pos e, e]; rfl
          · rw [if_neg e, if_neg e]; exact q1 b
        · have := dput_len s.1.l x.2.b ((wf x.2.b &&& mk' A w h t : Nat) : Int)
          dsimp only
          omega
    · rw [← q2]
      have : (enum p).length = p.length := enum_len p
      rw [this, List.drop_length]
      simp [go]
  obtain ⟨b, e, eb⟩ := key
  rw [e, eb]

def NM : List Int := [0, 1, 7, 10 ^ 18, 3, 2]
theorem stroke_ok {w h : Int} (w0 : 1 ≤ w) (w1 : w ≤ 24) (h0 : 1 ≤ h) (h1 : h ≤ 24) (n : Int) : RS (SOK w h) (m_stroke (w, h) n) := by
  unfold m_stroke
  refine run_of ?_
  unfold m_stroke_b
  have hn : n % 2 = 0 ∨ n % 2 = 1 := by omega
  rcases hn with z | z <;> rw [z]
  · have e1 : R.ix [("row" : Str), ("column" : Str)] 0 = .ok "row" := by unfold R.ix; rfl
    have e2 : R.ix [h, w] 0 = .ok h := by unfold R.ix; rfl
    have e3 : R.ix [w, h] 0 = .ok w := by unfold R.ix; rfl
    simp (config := { implicitDefEqProofs := false }) only [R.bind_ok, R.to_ok, e1, e2, e3, fdiv_ok (show 0 < 2 * h by omega) (by omega), mod_ok (show 0 < w by omega), mul_okr (show -(2 ^ 64) < w by omega) (show w < 2 ^ 64 by omega)]
    have p0 : 0 < 2 * h * w := Int.mul_pos (by omega) (by omega)
    have p1 : 2 * h * w ≤ 48 * 24 := Int.mul_le_mul (by omega) w1 (by omega) (by omega)
    rw [fdiv_ok p0 (by omega)]
    simp (config := { implicitDefEqProofs := false }) only [R.bind_ok, R.to_ok]
    have f0 := Int.emod_nonneg (n / (2 * h)) (show w ≠ 0 by omega)
    have f1 := Int.emod_lt_of_pos (n / (2 * h)) (show 0 < w by omega)
    generalize n / (2 * h) % w = f at f0 f1 ⊢
    rw [mod_ok (show 0 < h by omega), mod_ok (show 0 < w - f by omega)]
    simp (config := { implicitDefEqProofs := false }) only [R.bind_ok, R.to_ok]
    have g0 := Int.emod_nonneg (n / (2 * h * w)) (show w - f ≠ 0 by omega)
    have g1 := Int.emod_lt_of_pos (n / (2 * h * w)) (show 0 < w - f by omega)
    have l0 := Int.emod_nonneg (n / 2) (show h ≠ 0 by omega)
    have l1 := Int.emod_lt_of_pos (n / 2) (show 0 < h by omega)
    exact os_rt (.inl ⟨rfl, l0, l1, f0, by dsimp only; omega, by dsimp only; omega⟩)
  · have e1 : R.ix [("row" : Str), ("column" : Str)] 1 = .ok "column" := by unfold R.ix; rfl
    have e2 : R.ix [h, w] 1 = .ok w := by unfold R.ix; rfl
    have e3 : R.ix [w, h] 1 = .ok h := by unfold R.ix; rfl
    simp (config := { implicitDefEqProofs := false }) only [R.bind_ok, R.to_ok, e1, e2, e3, fdiv_ok (show 0 < 2 * w by omega) (by omega), mod_ok (show 0 < h by omega), mul_okr (show -(2 ^ 64) < h by omega) (show h < 2 ^ 64 by omega)]
    have p0 : 0 < 2 * w * h := Int.mul_pos (by omega) (by omega)
    have p1 : 2 * w * h ≤ 48 * 24 := Int.mul_le_mul (by omega) h1 (by omega) (by omega)
    rw [fdiv_ok p0 (by omega)]
    simp (config := { implicitDefEqProofs := false }) only [R.bind_ok, R.to_ok]
    have f0 := Int.emod_nonneg (n / (2 * w)) (show h ≠ 0 by omega)
    have f1 := Int.emod_lt_of_pos (n / (2 * w)) (show 0 < h by omega)
    generalize n / (2 * w) % h = f at f0 f1 ⊢
    rw [mod_ok (show 0 < w by omega), mod_ok (show 0 < h - f by omega)]
    simp (config := { implicitDefEqProofs := false }) only [R.bind_ok, R.to_ok]
    have g0 := Int.emod_nonneg (n / (2 * w * h)) (show h - f ≠ 0 by omega)
    have g1 := Int.emod_lt_of_pos (n / (2 * w * h)) (show 0 < h - f by omega)
    have l0 := Int.emod_nonneg (n / 2) (show w ≠ 0 by omega)
    have l1 := Int.emod_lt_of_pos (n / 2) (show 0 < w by omega)
    exact os_rt (.inr ⟨rfl, l0, l1, f0, by dsimp only; omega, by dsimp only; omega⟩)
def PL (w h : Int) (n : Nat) (p : List DD) : Prop := (∀ d ∈ p, DOK w h d ∧ d.b ∈ NM) ∧ (inks p).Pairwise (· < ·) ∧ p.length ≤ n
theorem plan_ok {w h : Int} (w0 : 1 ≤ w) (w1 : w ≤ 24) (h0 : 1 ≤ h) (h1 : h ≤ 24) {ns : List Int} (hns : ns.length ≤ 63) {la : Int} (hla : la ≤ 63) (hla0 : 10 ≤ la) : RS (PL w h 60) (m_plan ⟨ns⟩ (w, h) 3 la) := by
  unfold m_plan
  refine run_of ?_
  unfold m_plan_b
  have hz : ∃ z, (if (if la < (ns.length : Int) then la else (ns.length : Int)) > 3 + 1 then (if la < (ns.length : Int) then la else (ns.length : Int)) else 3 + 1) = z ∧ 3 ≤ z ∧ z ≤ 63 := by
    refine ⟨_, rfl, ?_⟩
    split <;> split <;> omega
  obtain ⟨z, ez, z0, z1⟩ := hz
  simp (config := { implicitDefEqProofs := false }) only [lt, R.bind_ok, R.to_ok, ez, rng_ok (show (-16777216 : Int) ≤ 3 by decide) (by decide) (show -16777216 ≤ z by omega) (by omega)]
  have lr : (rng 3 z).length ≤ 60 := by rw [rng_len]; omega
  refine os_bind (os_for (fun i s => PL w h i s.1 ∧ (∀ j ∈ inks s.1, j ≤ s.2) ∧ -1 ≤ s.2) ⟨⟨fun d hd => absurd hd (by simp), List.Pairwise.nil, Nat.le_refl _⟩, fun j hj => absurd hj (by simp [inks]), by decide⟩ (fun i x s hx ⟨⟨q1, q2, q3⟩, q4, q5⟩ => ?_) fun s q => q) fun s ⟨q, _⟩ => os_rt ⟨q.1, q.2.1, Nat.le_trans q.2.2 lr⟩
  have hi : i < (rng 3 z).length := (List.getElem?_eq_some_iff.mp hx).1
  have hxm := rng_mem (List.mem_of_getElem? hx)
  obtain ⟨c, ec, _⟩ := cell_ok ⟨ns⟩ x (by omega) (by omega)
  obtain ⟨m, em, _⟩ := mixed_ok c 0 (by decide) (by decide)
  obtain ⟨m1, em1, _⟩ := mixed_ok c 1 (by decide) (by decide)
  obtain ⟨st, es, hs⟩ := stroke_ok w0 w1 h0 h1 m1
  have n0 : 0 ≤ m % 6 := by omega
  have n1 : (m % 6).toNat < NM.length := by show _ < 6; omega
  have eix : R.ix [(0 : Int), 1, 7, 10 ^ (Int.toNat 18), 3, 2] (m % 6) = .ok (NM[(m % 6).toNat]'n1) := ix_ok (xs := NM) n0 n1
  have hb : (NM[(m % 6).toNat]'n1) ∈ NM := List.getElem_mem n1
  have hb0 : 0 ≤ (NM[(m % 6).toNat]'n1) := by
    have : ∀ b ∈ NM, (0 : Int) ≤ b := by decide
    exact this _ hb
  generalize (NM[(m % 6).toNat]'n1) = b at eix hb hb0
  simp (config := { implicitDefEqProofs := false }) only [R.bind_ok, R.to_ok, ec, em, em1, eix, es]
  refine os_bind (M := fun s => PL w h (i + 1) s.1 ∧ (∀ j ∈ inks s.1, j ≤ s.2) ∧ -1 ≤ s.2) (os_if (fun _ => ?_) fun _ => ?_) fun s q => os_nx q
  · have hk : ∃ k, s.2 + 1 + m / 24 % 3 = k ∧ s.2 < k := ⟨_, rfl, by omega⟩
    obtain ⟨k, ek, hk⟩ := hk
    rw [ek, apd_ok (by omega)]
    have e1 : inks [(⟨"print", b, .inl k⟩ : DD)] = [k] := rfl
    refine os_nx ⟨⟨fun d hd => ?_, ?_, ?_⟩, fun j hj => ?_, by dsimp only; omega⟩
    · rcases List.mem_append.mp hd with hd | hd
      · exact q1 d hd
      · rw [List.mem_singleton.mp hd]
        exact ⟨.inl ⟨rfl, hb0, k, rfl, by omega⟩, hb⟩
    · show (inks (s.1 ++ [_])).Pairwise _
      rw [inks_app, e1]
      refine List.pairwise_append.mpr ⟨q2, by simp, fun a ha b hb => ?_⟩
      rw [List.mem_singleton.mp hb]
      have := q4 a ha
      omega
    · show (s.1 ++ _).length ≤ _
      simp; omega
    · change j ∈ inks (s.1 ++ [_]) at hj
      rw [inks_app, e1] at hj
      dsimp only
      rcases List.mem_append.mp hj with hj | hj
      · have := q4 j hj; omega
      · rw [List.mem_singleton.mp hj]; omega
  · rw [apd_ok (by omega)]
    have e1 : inks [(⟨"cut", b, .inr st⟩ : DD)] = [] := rfl
    refine os_nx ⟨⟨fun d hd => ?_, ?_, ?_⟩, fun j hj => ?_, q5⟩
    · rcases List.mem_append.mp hd with hd | hd
      · exact q1 d hd
      · rw [List.mem_singleton.mp hd]
        exact ⟨.inr ⟨rfl, hb0, st, rfl, hs⟩, hb⟩
    · show (inks (s.1 ++ [_])).Pairwise _
      rw [inks_app, e1, List.append_nil]
      exact q2
    · show (s.1 ++ _).length ≤ _
      simp; omega
    · change j ∈ inks (s.1 ++ [_]) at hj
      rw [inks_app, e1, List.append_nil] at hj
      exact q4 j hj

/-! ### what a stroke cuts, by either way of reckoning -/
def orN (l : List Nat) : Nat := l.foldl (fun a i => a ||| 2 ^ i) 0
theorem orN_snoc (l : List Nat) (i : Nat) : orN (l ++ [i]) = orN l ||| 2 ^ i := by
  unfold orN
  rw [List.foldl_append]
  rfl
theorem orN_bit : ∀ n (l : List Nat), l.length = n → ∀ j, (orN l).testBit j = decide (j ∈ l)
  | 0, l, h, j => by
    rw [List.length_eq_zero_iff.mp h]
    show (0 : Nat).testBit j = _
    simp
  | n + 1, l, h, j => by
    have hne : l ≠ [] := fun e => by rw [e] at h; cases h
    have e := List.dropLast_concat_getLast hne
    rw [← e, orN_snoc, Nat.testBit_or, orN_bit n l.dropLast (by rw [List.length_dropLast, h]; rfl), Nat.testBit_two_pow, Bool.eq_iff_iff]
    rw [Bool.or_eq_true, decide_eq_true_eq, decide_eq_true_eq, decide_eq_true_eq, List.mem_append, List.mem_singleton]
    exact or_congr Iff.rfl eq_comm
/-- the places of a stroke -/
def strI (w : Int) (s : ST) : List Nat := (rng s.c (s.d + 1)).map fun k => (if s.a = ("row" : Str) then s.b * w + k else k * w + s.b).toNat
theorem seto_or {w h : Int} (w0 : 1 ≤ w) (w1 : w ≤ 24) (h0 : 1 ≤ h) (h1 : h ≤ 24) {cs : List (Int × Int)} (hc : ∀ c ∈ cs, 0 ≤ c.1 ∧ c.1 < w ∧ 0 ≤ c.2 ∧ c.2 < h) : m_set_of (w, h) cs = .ok ((orN (cs.map fun c => (c.2 * w + c.1).toNat) : Nat) : Int) := by
  have key : RS (fun s : Int => s = ((orN (cs.map fun c => (c.2 * w + c.1).toNat) : Nat) : Int)) (m_set_of (w, h) cs) := by
    unfold m_set_of
    refine run_of ?_
    unfold m_set_of_b
    simp only [lt, R.bind_ok, R.to_ok]
    refine os_bind (os_for (fun i s => s = ((orN ((cs.take i).map fun c => (c.2 * w + c.1).toNat) : Nat) : Int)) rfl (fun i x s hi es => ?_) fun s p => by rw [List.take_length] at p; exact p) fun s p => os_rt p
    have hx := hc x (List.mem_of_getElem? hi)
    have hm : x.2 * w ≤ 24 * 24 := Int.mul_le_mul (by omega) w1 (by omega) (by omega)
    have hm0 : 0 ≤ x.2 * w := Int.mul_nonneg (by omega) (by omega)
    rw [mul_okr (by omega) (by omega)]
    simp only [R.bind_ok]
    have e2 : R.shl 1 (x.2 * w + x.1) = .ok ((2 ^ (x.2 * w + x.1).toNat : Nat) : Int) := by
      obtain ⟨n, en⟩ := Int.eq_ofNat_of_zero_le (show 0 ≤ x.2 * w + x.1 by omega)
      rw [en, shl1_ok (by omega), Int.toNat_natCast]
    rw [e2]
    simp only [R.bind_ok, R.to_ok]
    refine os_nx ?_
    rw [es, List.take_add_one, hi, List.map_append]
    show _ = ((orN (((cs.take i).map fun c => (c.2 * w + c.1).toNat) ++ [(x.2 * w + x.1).toNat]) : Nat) : Int)
    rw [orN_snoc, Bits.bitOr_pp (Int.natCast_nonneg _) (Int.natCast_nonneg _)]
    rfl
  obtain ⟨s, e, es⟩ := key
  rw [e, es]
theorem cut_or {w h : Int} (w0 : 1 ≤ w) (w1 : w ≤ 24) (h0 : 1 ≤ h) (h1 : h ≤ 24) {s : ST} (o : SOK w h s) : m_cells_cut (w, h) s = .ok ((orN (strI w s) : Nat) : Int) := by
  have sr : SOK w h s := o
  unfold m_cells_cut m_cells_cut_b
  simp (config := { implicitDefEqProofs := false }) only [lt4]
  rcases o with ⟨a, b0, b1, c0, c1, d1⟩ | ⟨a, b0, b1, c0, c1, d1⟩
  · simp (config := { implicitDefEqProofs := false }) only [a, decide_true, if_true, R.bind_ok, rng_ok (show -16777216 ≤ s.c by omega) (show s.c ≤ 16777216 by omega) (show -16777216 ≤ s.d + 1 by omega) (by omega)]
    have e : R.lcM (rng s.c (s.d + 1)) (fun (x7 : Int) => (x7, s.b)) = .ok ((rng s.c (s.d + 1)).map fun x7 => (x7, s.b)) := by
      unfold R.lcM
      exact if_pos (by rw [rng_len, sl_eq]; omega)
    rw [e]
    simp (config := { implicitDefEqProofs := false }) only [R.bind_ok]
    rw [seto_or w0 w1 h0 h1 fun c hc => by
      obtain ⟨k, hk, e⟩ := List.mem_map.mp hc
      have := rng_mem hk
      rw [← e]
      dsimp only
      omega]
    show (R.ok _ : R Int) = _
    rw [List.map_map]
    unfold strI
    simp only [a, if_true]
    rfl
  · have na : ¬ s.a = ("row" : Str) := fun z => s_rc (z.symm.trans a)
    simp (config := { implicitDefEqProofs := false }) only [decide_eq_false na, Bool.false_eq_true, if_false, R.bind_ok, rng_ok (show -16777216 ≤ s.c by omega) (show s.c ≤ 16777216 by omega) (show -16777216 ≤ s.d + 1 by omega) (by omega)]
    have e : R.lcM (rng s.c (s.d + 1)) (fun (x16 : Int) => (s.b, x16)) = .ok ((rng s.c (s.d + 1)).map fun x16 => (s.b, x16)) := by
      unfold R.lcM
      exact if_pos (by rw [rng_len, sl_eq]; omega)
    rw [e]
    simp (config := { implicitDefEqProofs := false }) only [R.bind_ok]
    rw [seto_or w0 w1 h0 h1 fun c hc => by
      obtain ⟨k, hk, e⟩ := List.mem_map.mp hc
      have := rng_mem hk
      rw [← e]
      dsimp only
      omega]
    show (R.ok _ : R Int) = _
    rw [List.map_map]
    unfold strI
    simp only [na, if_false]
    rfl
theorem cutN_or {w h : Int} (w0 : 1 ≤ w) (w1 : w ≤ 24) (h0 : 1 ≤ h) (h1 : h ≤ 24) {s : ST} (o : SOK w h s) : cutN w h s = orN (strI w s) := by
  have e1 := cut_eq w0 w1 h0 h1 o
  rw [cut_or w0 w1 h0 h1 o] at e1
  injection e1 with e1
  omega

/-! ### the law's own lists of cells -/
abbrev GD := List (Ky (Int × Int) × Bool)
theorem un_wh {w a b c d : Int} (h : a * w + b = c * w + d) (b0 : 0 ≤ b) (b1 : b < w) (d0 : 0 ≤ d) (d1 : d < w) : a = c ∧ b = d := by
  have key : ∀ a c b d : Int, a * w + b = c * w + d → 0 ≤ b → b < w → 0 ≤ d → d < w → ¬ a < c := fun a c b d h b0 b1 d0 d1 lt => by
    have := Int.mul_le_mul_of_nonneg_right (show a + 1 ≤ c by omega) (show 0 ≤ w by omega)
    rw [Int.add_mul, Int.one_mul] at this
    omega
  have h1 := key a c b d h b0 b1 d0 d1
  have h2 := key c a d b h.symm d0 d1 b0 b1
  have : a = c := by omega
  subst this
  exact ⟨rfl, by omega⟩
def cel (s : ST) : List (Ky (Int × Int)) := (rng s.c (s.d + 1)).map fun k => if s.a = ("row" : Str) then Ky.mk (k, s.b) else Ky.mk (s.b, k)
theorem cel_len {w h : Int} (w1 : w ≤ 24) (h1 : h ≤ 24) {s : ST} (o : SOK w h s) : (cel s).length ≤ 24 := by
  unfold cel
  rw [List.length_map, rng_len]
  rcases o with o | o <;> omega
theorem cells_ok {w h : Int} (w1 : w ≤ 24) (h1 : h ≤ 24) {s : ST} (o : SOK w h s) : m_cells s = .ok (cel s) := by
  unfold m_cells m_cells_b
  simp (config := { implicitDefEqProofs := false }) only [lt4]
  rcases o with ⟨a, b0, b1, c0, c1, d1⟩ | ⟨a, b0, b1, c0, c1, d1⟩
  · simp (config := { implicitDefEqProofs := false }) only [a, decide_true, if_true, R.bind_ok, rng_ok (show -16777216 ≤ s.c by omega) (show s.c ≤ 16777216 by omega) (show -16777216 ≤ s.d + 1 by omega) (by omega)]
    rw [lcM_ok (by rw [rng_len]; omega)]
    unfold cel
    simp only [a, if_true]
    rfl
  · have na : ¬ s.a = ("row" : Str) := fun z => s_rc (z.symm.trans a)
    simp (config := { implicitDefEqProofs := false }) only [decide_eq_false na, Bool.false_eq_true, if_false, R.bind_ok, rng_ok (show -16777216 ≤ s.c by omega) (show s.c ≤ 16777216 by omega) (show -16777216 ≤ s.d + 1 by omega) (by omega)]
    rw [lcM_ok (by rw [rng_len]; omega)]
    unfold cel
    simp only [na, if_false]
    rfl
theorem cel_mem {w h : Nat} {s : ST} (o : SOK (w : Int) (h : Int) s) {x y : Nat} (hx : x < w) : Ky.mk ((x : Int), (y : Int)) ∈ cel s ↔ y * w + x ∈ strI (w : Int) s := by
  unfold cel strI
  rw [List.mem_map, List.mem_map]
  have yw : ((y * w + x : Nat) : Int) = (y : Int) * (w : Int) + (x : Int) := by simp
  constructor
  · rintro ⟨k, hk, e⟩
    refine ⟨k, hk, ?_⟩
    have hk' := rng_mem hk
    have e' := congrArg Ky.k e
    by_cases ha : s.a = ("row" : Str)
    · rw [if_pos ha] at e' ⊢
      have i1 := congrArg Prod.fst e'
      have i2 := congrArg Prod.snd e'
      dsimp only at i1 i2
      rw [i1, i2, ← yw, Int.toNat_natCast]
    · rw [if_neg ha] at e' ⊢
      have i1 := congrArg Prod.fst e'
      have i2 := congrArg Prod.snd e'
      dsimp only at i1 i2
      rw [i1, i2, ← yw, Int.toNat_natCast]
  · rintro ⟨k, hk, e⟩
    refine ⟨k, hk, ?_⟩
    have hk' := rng_mem hk
    by_cases ha : s.a = ("row" : Str)
    · rw [if_pos ha] at e ⊢
      have o' : 0 ≤ s.b ∧ 0 ≤ s.c ∧ s.d < (w : Int) := by
        rcases o with o | o
        · omega
        · exact absurd (ha.symm.trans o.1) s_rc
      have n0 : 0 ≤ s.b * (w : Int) := Int.mul_nonneg o'.1 (by omega)
      have e2 : s.b * (w : Int) + k = (y : Int) * (w : Int) + (x : Int) := by omega
      obtain ⟨u1, u2⟩ := un_wh e2 (by omega) (by omega) (by omega) (by omega)
      rw [u1, u2]
    · rw [if_neg ha] at e ⊢
      have o' : 0 ≤ s.b ∧ s.b < (w : Int) ∧ 0 ≤ s.c := by
        rcases o with o | o
        · exact absurd o.1 ha
        · omega
      have n0 : 0 ≤ k * (w : Int) := Int.mul_nonneg (by omega) (by omega)
      have e2 : k * (w : Int) + s.b = (y : Int) * (w : Int) + (x : Int) := by omega
      obtain ⟨u1, u2⟩ := un_wh e2 (by omega) (by omega) (by omega) (by omega)
      rw [u1, u2]
theorem sdin_ok {s : DDk Int (Ky (Int × Int)) Bool} {k : Int} (hl : s.l.length < 16777216) : ∃ z, R.sdIn s k = .ok z ∧ (∀ b, (dval z.l b).getD [] = (dval s.l b).getD []) ∧ z.l.length ≤ s.l.length + 1 := by
  unfold R.sdIn
  rw [if_pos (by rw [sl_eq]; exact hl)]
  by_cases c : (dval s.l k).isSome = true
  · rw [if_pos c]
    exact ⟨s, rfl, fun _ => rfl, by omega⟩
  · rw [if_neg c]
    refine ⟨_, rfl, fun b => ?_, by simp⟩
    have e : s.l ++ [(k, [])] = dput s.l k [] := by
      unfold dput
      rw [if_neg c]
    show (dval (s.l ++ [(k, [])]) b).getD [] = _
    rw [e, dval_put]
    by_cases z : b = k
    · rw [if_pos z, z]
      cases q : dval s.l k with
      | none => rfl
      | some v => rw [q] at c; exact absurd rfl c
    · rw [if_neg z]
theorem cell_lt {w h x y : Nat} (hx : x < w) (hy : y < h) : y * w + x < w * h := by
  have := Nat.mul_le_mul_right w (show y + 1 ≤ h by omega)
  rw [Nat.add_mul] at this
  rw [Nat.mul_comm w h]
  omega
theorem go_len {m : ST → Nat} : ∀ (q : List DD) (wf : Int → Nat), (go m wf q).length ≤ q.length
  | [], _ => Nat.le_refl _
  | d :: q, wf => by
    cases c : inkOf d with
    | some i => rw [go_print c]; have := go_len (m := m) q wf; simp; exact this
    | none => rw [go_cut c]; have := go_len (m := m) q (upd' m wf d); simp; omega
theorem upd_n {m : ST → Nat} {wf : Int → Nat} {d : DD} {s : ST} (e : d.c = .inr s) : upd' m wf d = fun b => if b = d.b then wf b &&& m s else wf b := by unfold upd'; rw [e]
/-- the law's cells of a block and the set that replayed keeps -/
def Inv (w h : Nat) (wf : Int → Nat) (lost : DDk Int (Ky (Int × Int)) Bool) : Prop := ∀ b, wf b < 2 ^ (w * h) ∧ ∀ x y, x < w → y < h → (wf b).testBit (y * w + x) = !(dval ((dval lost.l b).getD []) (Ky.mk ((x : Int), (y : Int)))).isSome
theorem law_true (ns : List Int) (hns : ns.length ≤ 63) : m_law ⟨ns⟩ = .ok true := by
  obtain ⟨c1, e1, _⟩ := cell_ok ⟨ns⟩ 1 (by decide) (by decide)
  obtain ⟨⟨wi, hi⟩, es, w0, w1, h0, h1⟩ := size_ok c1
  dsimp only at w0 w1 h0 h1
  obtain ⟨w, ew⟩ := Int.eq_ofNat_of_zero_le (show 0 ≤ wi by omega)
  obtain ⟨h, eh⟩ := Int.eq_ofNat_of_zero_le (show 0 ≤ hi by omega)
  subst ew eh
  obtain ⟨p, ep, hp, hik, hl⟩ := plan_ok w0 w1 h0 h1 hns (show (63 : Int) ≤ 63 by decide) (by decide)
  have hp1 : ∀ d ∈ p, DOK w h d := fun d hd => (hp d hd).1
  have r0 := replayed_ok w0 w1 h0 h1 rfl hp1 hik (by omega)
  have r1 := replayed_ok w0 w1 h0 h1 rfl (p := []) (fun d hd => by cases hd) List.Pairwise.nil (Nat.zero_le _)
  have eA : ((w : Int) * (h : Int)).toNat = w * h := by
    rw [show (w : Int) * (h : Int) = ((w * h : Nat) : Int) by simp, Int.toNat_natCast]
  rw [eA] at r0 r1
  have hA : ∀ j, (2 ^ (w * h) - 1 : Nat).testBit j = decide (j < w * h) := fun j => Nat.testBit_two_pow_sub_one _ _
  have hA2 : (2 ^ (w * h) - 1 : Nat) < 2 ^ (w * h) := by
    have : 0 < 2 ^ (w * h) := Nat.pos_of_ne_zero (by simp)
    omega
  generalize (2 ^ (w * h) - 1 : Nat) = A at r0 r1 hA hA2
  have hgl := go_len (m := mk' A w h) p (fun _ => A)
  have r1' : m_replayed ((w : Int), (h : Int)) [] = .ok [] := r1
  have key : RS (fun b => b = true) (m_law ⟨ns⟩) := by
    unfold m_law
    refine run_of ?_
    unfold m_law_b
    simp (config := { implicitDefEqProofs := false }) only [lt, R.bind_ok, R.to_ok, e1, es, ep]
    refine os_bind (os_for (fun i s => ∃ wf : Int → Nat, Inv w h wf s.1 ∧ s.2 ++ go (mk' A w h) wf (p.drop i) = go (mk' A w h) (fun _ => A) p ∧ s.1.l.length ≤ 2 * i ∧ s.2.length ≤ i ∧ ∀ b, ((dval s.1.l b).getD []).length ≤ 24 * i)
      ⟨fun _ => A, fun b => ⟨hA2, fun x y hx hy => ?_⟩, rfl, Nat.zero_le _, Nat.zero_le _, fun b => Nat.zero_le _⟩ (fun i d s hi ⟨wf, q1, q2, q3, q4, q5⟩ => ?_) fun s q => q) fun s ⟨wf, q1, q2, q3, q4, q5⟩ => ?_
    · rw [hA, decide_eq_true (cell_lt hx hy)]
      rfl
    · have hil : i < p.length := (List.getElem?_eq_some_iff.mp hi).1
      have hd := hp1 d (List.mem_of_getElem? hi)
      have edr : p.drop i = d :: p.drop (i + 1) := by
        rw [List.drop_eq_getElem_cons hil]
        rw [List.getElem?_eq_getElem hil] at hi
        rw [Option.some.inj hi]
      rw [edr] at q2
      obtain ⟨z, ez, z1, z2⟩ := sdin_ok (s := s.1) (k := d.b) (by omega)
      rw [ez]
      have q1z : ∀ b, wf b < 2 ^ (w * h) ∧ ∀ x y, x < w → y < h → (wf b).testBit (y * w + x) = !(dval ((dval z.l b).getD []) (Ky.mk ((x : Int), (y : Int)))).isSome := fun b => by rw [z1]; exact q1 b
      have q5z : ∀ b, ((dval z.l b).getD []).length ≤ 24 * i := fun b => by rw [z1]; exact q5 b
      simp (config := { implicitDefEqProofs := false }) only [R.to_ok]
      obtain ⟨bw, bb⟩ := q1z d.b
      have bl := q5z d.b
      generalize hg : (dval z.l d.b).getD [] = g at bb bl ⊢
      have put : ∀ (g' : GD) (b : Int), (dval (dput z.l d.b g') b).getD [] = if b = d.b then g' else (dval z.l b).getD [] := fun g' b => by
        rw [dval_put]
        split <;> rfl
      rcases hd with ⟨ha, hb, k, hk, k0⟩ | ⟨ha, hb, t, ht, t0⟩
      · have ei : inkOf d = some k := by unfold inkOf; rw [hk]
        rw [go_print ei] at q2
        simp (config := { implicitDefEqProofs := false }) only [ha, hk, decide_eq_false s_pc, Bool.false_eq_true, if_false, R.bind_ok, R.to_ok, R.getL, rng_ok (show (-16777216 : Int) ≤ 0 by decide) (show (0 : Int) ≤ 16777216 by decide) (show -16777216 ≤ (h : Int) by omega) (show (h : Int) ≤ 16777216 by omega), rng_ok (show (-16777216 : Int) ≤ 0 by decide) (show (0 : Int) ≤ 16777216 by decide) (show -16777216 ≤ (w : Int) by omega) (show (w : Int) ≤ 16777216 by omega)]
        refine os_bind (M := fun s' : List (Int × Int) × Dk (Ky (Int × Int)) Bool => s' = (s.2 ++ [(k, (wf d.b : Int))], ⟨g⟩)) (os_bind (M := fun s' : Int => s' = (wf d.b : Int)) (os_for (fun i' s' => ∃ N : Nat, s' = (N : Int) ∧ ∀ j, N.testBit j = true ↔ ∃ x y, x < w ∧ y < i' ∧ j = y * w + x ∧ (dval g (Ky.mk ((x : Int), (y : Int)))).isSome = false) ⟨0, rfl, fun j => ?_⟩ (fun i' y' s' hy ⟨N, eN, hN⟩ => ?_) fun s' ⟨N, eN, hN⟩ => ?_) fun s' es' => ?_) fun s' es' => ?_
        · simp
        · obtain ⟨ey, ly⟩ := rng_nat hy
          subst ey
          refine os_bind (os_for (fun i2 s' => ∃ N : Nat, s' = (N : Int) ∧ ∀ j, N.testBit j = true ↔ (∃ x y, x < w ∧ y < i' ∧ j = y * w + x ∧ (dval g (Ky.mk ((x : Int), (y : Int)))).isSome = false) ∨ ∃ x, x < i2 ∧ j = i' * w + x ∧ (dval g (Ky.mk ((x : Int), (i' : Int)))).isSome = false) ⟨N, eN, fun j => ?_⟩ (fun i2 x' s' hx ⟨N, eN, hN⟩ => ?_) fun s' q => q) fun s' ⟨N, eN, hN⟩ => os_nx ⟨N, eN, fun j => ?_⟩
          · rw [hN]
            constructor
            · exact .inl
            · rintro (z | ⟨x, hx, _⟩)
              · exact z
              · omega
          · obtain ⟨ex, lx⟩ := rng_nat hx
            subst ex
            refine os_bind (M := fun s' : Int => ∃ N : Nat, s' = (N : Int) ∧ ∀ j, N.testBit j = true ↔ (∃ x y, x < w ∧ y < i' ∧ j = y * w + x ∧ (dval g (Ky.mk ((x : Int), (y : Int)))).isSome = false) ∨ ∃ x, x < i2 + 1 ∧ j = i' * w + x ∧ (dval g (Ky.mk ((x : Int), (i' : Int)))).isSome = false) (os_if (fun hc => ?_) fun hc => ?_) fun s' q => os_nx q
            · have hc' : (dval g (Ky.mk ((i2 : Int), (i' : Int)))).isSome = false := by simpa using hc
              have m1 : (i' : Int) * (w : Int) = ((i' * w : Nat) : Int) := by simp
              have m2 : i' * w ≤ 24 * 24 := Nat.mul_le_mul (by omega) (by omega)
              rw [mul_okr (by omega) (by omega)]
              simp (config := { implicitDefEqProofs := false }) only [R.bind_ok]
              rw [m1, show ((i' * w : Nat) : Int) + (i2 : Int) = ((i' * w + i2 : Nat) : Int) by simp, shl1_ok (by omega)]
              simp (config := { implicitDefEqProofs := false }) only [R.bind_ok, R.to_ok]
              refine os_nx ⟨N ||| 2 ^ (i' * w + i2), ?_, fun j => ?_⟩
              · rw [eN, Bits.bitOr_pp (Int.natCast_nonneg _) (Int.natCast_nonneg _)]
                rfl
              · rw [Nat.testBit_or, Nat.testBit_two_pow, Bool.or_eq_true, hN, decide_eq_true_eq]
                constructor
                · rintro ((z | ⟨x, hx, z⟩) | z)
                  · exact .inl z
                  · exact .inr ⟨x, by omega, z⟩
                  · exact .inr ⟨i2, by omega, z.symm, hc'⟩
                · rintro (z | ⟨x, hx, ej, z⟩)
                  · exact .inl (.inl z)
                  · by_cases e : x = i2
                    · exact .inr (by rw [ej, e])
                    · exact .inl (.inr ⟨x, by omega, ej, z⟩)
            · have hc' : (dval g (Ky.mk ((i2 : Int), (i' : Int)))).isSome = true := by simpa using hc
              refine os_nx ⟨N, eN, fun j => ?_⟩
              rw [hN]
              constructor
              · rintro (z | ⟨x, hx, z⟩)
                · exact .inl z
                · exact .inr ⟨x, by omega, z⟩
              · rintro (z | ⟨x, hx, ej, z⟩)
                · exact .inl z
                · by_cases e : x = i2
                  · rw [e, hc'] at z; cases z
                  · exact .inr ⟨x, by omega, ej, z⟩
          · rw [hN, rng_len]
            constructor
            · rintro (⟨x, y, hx, hy, z⟩ | ⟨x, hx, z⟩)
              · exact ⟨x, y, hx, by omega, z⟩
              · exact ⟨x, i', by omega, by omega, z⟩
            · rintro ⟨x, y, hx, hy, z⟩
              by_cases e : y = i'
              · rw [e] at z; exact .inr ⟨x, by omega, z⟩
              · exact .inl ⟨x, y, hx, by omega, z⟩
        · rw [rng_len] at hN
          show s' = _
          rw [eN]
          congr 1
          refine Nat.eq_of_testBit_eq fun j => ?_
          by_cases hj : j < w * h
          · have hw : 0 < w := by omega
            have e : j / w * w + j % w = j := by rw [Nat.mul_comm]; exact Nat.div_add_mod j w
            have lx := Nat.mod_lt j hw
            have ly : j / w < h := by
              rw [Nat.div_lt_iff_lt_mul hw, Nat.mul_comm]; exact hj
            have b1 := bb (j % w) (j / w) lx ly
            rw [e] at b1
            rw [b1]
            rw [Bool.eq_iff_iff, hN]
            constructor
            · rintro ⟨x, y, hx, hy, ej, z⟩
              have := un_wh (w := (w : Int)) (a := (y : Int)) (b := (x : Int)) (c := ((j / w : Nat) : Int)) (d := ((j % w : Nat) : Int)) (by
                have : ((y * w + x : Nat) : Int) = ((j / w * w + j % w : Nat) : Int) := by rw [e, ← ej]
                simpa using this) (by omega) (by omega) (by omega) (by omega)
              obtain ⟨u1, u2⟩ := this
              rw [← u1, ← u2, z]
              rfl
            · intro z
              exact ⟨j % w, j / w, lx, by omega, e.symm, by simpa using z⟩
          · rw [Nat.testBit_lt_two_pow (Nat.lt_of_lt_of_le bw (Nat.pow_le_pow_right (by decide) (by omega)))]
            rw [Bool.eq_false_iff]
            intro z
            obtain ⟨x, y, hx, hy, ej, _⟩ := (hN j).mp z
            have := cell_lt hx (show y < h by omega)
            omega
        · subst es'
          rw [apd_ok (by omega)]
          simp (config := { implicitDefEqProofs := false }) only [R.to_ok]
          exact os_nx rfl
        · subst es'
          refine os_nx ⟨wf, fun b => ?_, ?_, ?_, ?_, fun b => ?_⟩
          · dsimp only
            rw [put]
            by_cases e : b = d.b
            · rw [if_pos e, e]; exact ⟨bw, bb⟩
            · rw [if_neg e]; exact q1z b
          · rw [← q2]
            simp
          · have := dput_len z.l d.b g
            dsimp only
            omega
          · dsimp only
            simp
            omega
          · dsimp only
            rw [put]
            by_cases e : b = d.b
            · rw [if_pos e]; omega
            · rw [if_neg e]; have := q5z b; omega
      · have ei : inkOf d = none := by unfold inkOf; rw [ht]
        rw [go_cut ei] at q2
        have cl := cel_len w1 h1 t0
        simp (config := { implicitDefEqProofs := false }) only [ha, ht, decide_true, if_true, R.bind_ok, R.to_ok, R.getR, cells_ok w1 h1 t0]
        refine os_bind (M := fun s' : List (Int × Int) × Dk (Ky (Int × Int)) Bool => s'.1 = s.2 ∧ (∀ c, (dval s'.2.l c).isSome = ((dval g c).isSome || decide (c ∈ cel t))) ∧ s'.2.l.length ≤ g.length + 24) (os_bind (os_for (fun i' (s' : Dk (Ky (Int × Int)) Bool) => (∀ c, (dval s'.l c).isSome = ((dval g c).isSome || decide (c ∈ (cel t).take i'))) ∧ s'.l.length ≤ g.length + i') ⟨fun c => by simp, Nat.le_refl _⟩ (fun i' c' s' hc ⟨u1, u2⟩ => ?_) fun s' q => q) fun s' ⟨u1, u2⟩ => os_nx ⟨rfl, fun c => ?_, ?_⟩) fun s' ⟨u0, u1, u2⟩ => ?_
        · have hl' := (List.getElem?_eq_some_iff.mp hc).1
          have ed : R.dput s' c' true = .ok ⟨dput s'.l c' true⟩ := by
            unfold R.dput
            rw [if_pos (by rw [sl_eq]; omega)]
          rw [ed]
          simp (config := { implicitDefEqProofs := false }) only [R.to_ok]
          refine os_nx ⟨fun c => ?_, ?_⟩
          · dsimp only
            rw [dval_put, List.take_add_one, hc]
            by_cases e : c = c'
            · rw [if_pos e, e]; simp
            · rw [if_neg e, u1 c]
              simp [e]
          · have := dput_len s'.l c' true
            dsimp only
            omega
        · have := u1 c
          rw [List.take_length] at this
          exact this
        · dsimp only
          omega
        · refine os_nx ⟨upd' (mk' A w h) wf d, fun b => ?_, ?_, ?_, ?_, fun b => ?_⟩
          · dsimp only
            rw [put, upd_n ht]
            dsimp only
            by_cases e : b = d.b
            · rw [if_pos e, if_pos e, e]
              refine ⟨Nat.lt_of_le_of_lt Nat.and_le_left bw, fun x y hx hy => ?_⟩
              rw [Nat.testBit_and, bb x y hx hy, u1]
              unfold mk'
              rw [Nat.testBit_xor, hA, decide_eq_true (cell_lt hx hy), cutN_or w0 w1 h0 h1 t0, orN_bit _ _ rfl, Bool.true_xor, Bool.not_or]
              congr 2
              exact decide_eq_decide.mpr (cel_mem t0 hx).symm
            · rw [if_neg e, if_neg e]
              exact q1z b
          · rw [u0]
            exact q2
          · have := dput_len z.l d.b s'.2.l
            dsimp only
            omega
          · dsimp only
            rw [u0]
            omega
          · dsimp only
            rw [put]
            by_cases e : b = d.b
            · rw [if_pos e]; omega
            · rw [if_neg e]; have := q5z b; omega
    · have ed : s.2 = go (mk' A w h) (fun _ => A) p := by
        rw [← q2, List.drop_length]
        simp [go]
      simp (config := { implicitDefEqProofs := false }) only [r0, r1', R.bind_ok, R.to_ok, ed, decide_true, Bool.not_true, Bool.or_self, Bool.false_eq_true, if_false]
      rw [forL_none fun x hx => rfl]
      show OS _ _ _ _ (R.to _ _)
      rw [apd_ok (by omega)]
      exact os_rt rfl
  obtain ⟨b, e, eb⟩ := key
  rw [e, eb]
end Ma

namespace Wk
open PySem PySem.Spec PyProof.Rows L2 Fw Mir
def topS (i:Nat):Stmt:=PySem.Challenge.pw_lostblock_k33_replayed.main.body.getD i (.Pass ⟨0,0,0,0⟩)
abbrev s_cell:Stmt:=topS 17
abbrev N_cell:List Str:=["_law_script","_law_k","_law_number"]
theorem sc_cell:FnScope N_cell ["_law_script","_law_k"] (defScope s_cell):=⟨rfl,rfl,rfl,by decide +kernel,rfl,by decide +kernel,by decide +kernel⟩
abbrev s_mixed:Stmt:=topS 18
abbrev N_mixed:List Str:=["_law_cell_here","_law_k","_law_number"]
theorem sc_mixed:FnScope N_mixed ["_law_cell_here","_law_k"] (defScope s_mixed):=⟨rfl,rfl,rfl,by decide +kernel,rfl,by decide +kernel,by decide +kernel⟩
abbrev s_size:Stmt:=topS 19
abbrev N_size:List Str:=["_law_cell_here","_law_number"]
theorem sc_size:FnScope N_size ["_law_cell_here"] (defScope s_size):=⟨rfl,rfl,rfl,by decide +kernel,rfl,by decide +kernel,by decide +kernel⟩
abbrev s_stroke:Stmt:=topS 21
abbrev N_stroke:List Str:=["_law_size_here","_law_number","_law_way","_law_lines","_law_places","_law_first","_law_rest"]
theorem sc_stroke:FnScope N_stroke ["_law_size_here","_law_number"] (defScope s_stroke):=⟨rfl,rfl,rfl,by decide +kernel,rfl,by decide +kernel,by decide +kernel⟩
abbrev s_plan:Stmt:=topS 22
abbrev N_plan:List Str:=["_law_script","_law_size_here","_law_start","_law_last","_law_plan_here","_law_ink","_law_names","_law_k","_law_number","_law_block"]
theorem sc_plan:FnScope N_plan ["_law_script","_law_size_here","_law_start","_law_last"] (defScope s_plan):=⟨rfl,rfl,rfl,by decide +kernel,rfl,by decide +kernel,by decide +kernel⟩
abbrev s_cells:Stmt:=topS 20
abbrev N_cells:List Str:=["_law_stroke_here","_law_way","_law_line","_law_first","_law_last","_law_place"]
theorem sc_cells:FnScope N_cells ["_law_stroke_here"] (defScope s_cells):=⟨rfl,rfl,rfl,by decide +kernel,rfl,by decide +kernel,by decide +kernel⟩
abbrev s_is_number_plans:Stmt:=topS 12
abbrev N_is_number_plans:List Str:=["thing"]
theorem sc_is_number_plans:FnScope N_is_number_plans ["thing"] (defScope s_is_number_plans):=⟨rfl,rfl,rfl,by decide +kernel,rfl,by decide +kernel,by decide +kernel⟩
abbrev s_is_number_strokes:Stmt:=topS 7
abbrev N_is_number_strokes:List Str:=["thing"]
theorem sc_is_number_strokes:FnScope N_is_number_strokes ["thing"] (defScope s_is_number_strokes):=⟨rfl,rfl,rfl,by decide +kernel,rfl,by decide +kernel,by decide +kernel⟩
abbrev s_lies_on:Stmt:=topS 9
abbrev N_lies_on:List Str:=["size","thing","part","lines","places"]
theorem sc_lies_on:FnScope N_lies_on ["size","thing"] (defScope s_lies_on):=⟨rfl,rfl,rfl,by decide +kernel,rfl,by decide +kernel,by decide +kernel⟩
abbrev s_is_deed:Stmt:=topS 14
abbrev N_is_deed:List Str:=["size","thing"]
theorem sc_is_deed:FnScope N_is_deed ["size","thing"] (defScope s_is_deed):=⟨rfl,rfl,rfl,by decide +kernel,rfl,by decide +kernel,by decide +kernel⟩
abbrev s_all_of:Stmt:=topS 4
abbrev N_all_of:List Str:=["size"]
theorem sc_all_of:FnScope N_all_of ["size"] (defScope s_all_of):=⟨rfl,rfl,rfl,by decide +kernel,rfl,by decide +kernel,by decide +kernel⟩
abbrev s_set_of:Stmt:=topS 5
abbrev N_set_of:List Str:=["size","cells","found","column","row"]
theorem sc_set_of:FnScope N_set_of ["size","cells"] (defScope s_set_of):=⟨rfl,rfl,rfl,by decide +kernel,rfl,by decide +kernel,by decide +kernel⟩
abbrev s_cells_cut:Stmt:=topS 10
abbrev N_cells_cut:List Str:=["size","stroke","way","line","first","last","column","row"]
theorem sc_cells_cut:FnScope N_cells_cut ["size","stroke"] (defScope s_cells_cut):=⟨rfl,rfl,rfl,by decide +kernel,rfl,by decide +kernel,by decide +kernel⟩
abbrev s_replayed:Stmt:=topS 15
abbrev N_replayed:List Str:=["size","plan","wood","prints","last","at","deed","there"]
theorem sc_replayed:FnScope N_replayed ["size","plan"] (defScope s_replayed):=⟨rfl,rfl,rfl,by decide +kernel,rfl,by decide +kernel,by decide +kernel⟩
abbrev s_law:Stmt:=topS 23
abbrev N_law:List Str:=["_law_script","_law_size_here","_law_plan_here","_law_lost","_law_due","_law_deed","_law_gone","_law_cell_here","_law_there","_law_row","_law_column","_law_handed","_law_found","_law_one"]
theorem sc_law:FnScope N_law ["_law_script"] (defScope s_law):=⟨rfl,rfl,rfl,by decide +kernel,rfl,by decide +kernel,by decide +kernel⟩
structure Glb (mg:Str→Option Value):Prop where
  b_bool:mg "bool" = none
  b_enumerate:mg "enumerate" = none
  b_int:mg "int" = none
  b_isinstance:mg "isinstance" = none
  b_len:mg "len" = none
  b_list:mg "list" = none
  b_max:mg "max" = none
  b_min:mg "min" = none
  b_range:mg "range" = none
  b_tuple:mg "tuple" = none
structure Cal (P:Program) (w:World) (K:Frag) (mg:Str→Option Value) (base:Heap) (x:Str) (k:Nat) (ps:List Str) (sp:Sp):Prop where
  ex:∃ (f:Addr) (fd:FuncData),mg x = some (.ref f) ∧ PySem.W.keepIn K (.ref f) = true ∧ Binds K fd ps [] ∧ FnOk P w K mg base (L2.CX P w) k f fd ps sp
structure Raw (K:Frag) (mg:Str→Option Value) (x y:Str) (st:Stmt):Prop where
  ex:∃ (f:Addr) (fd:FuncData),mg x = some (.ref f) ∧ Fun K y y st f fd
section
local macro_rules | `(tactic| trivial)=>`(tactic| first | exact Or.inl rfl | exact Or.inr rfl)
variable {P:Program} {w:World} {c:Cn} {mg:Str→Option Value} {base:Heap}
theorem ok_m_cell_F (T:Glb mg) {f:Addr} {fd:FuncData} (F:Fun c.K "_law_cell" "_law_cell" s_cell f fd) :
    FnOk P w c.K mg base (L2.CX P w) 1 f fd ["_law_script","_law_k"] (spF c (fun x:(Sq Int)×Int×Unit=>m_cell x.1 x.2.1) (fun x:Int=>kFr c.K x)):=by
  have nd:=sc_cell.nd
  refine F.okX sc_cell (fun vs H Q E h=>spF_len vs H Q E h) (fun cdv A outer s H vs Q E hr h=>?_)
  refine ⟨_,(pss_cons (ps_if (pt_cmpR op_lt (pv 1) (pe_callB (r:=Fw.rLen c.K) call_len_seq (by rfl) T.b_len (by decide +kernel) (pa_cons (pv 0) pa_nil)) (nomark _)) (pss_cons (ps_ret (pe_ix (r:=rIxL c.K) ix_list (pv 0) (pv 1) (fun _ _=>rfl))) pss_nil) pss_nil) (pss_cons (ps_set (i:=2) nd rfl (by trivial) (pe_op op_add (pe_op op_mul (pv 1) (pv 1)) pe_int)) (pss_cons (ps_if (pt_cmpR op_gt (pe_callB (r:=Fw.rLen c.K) call_len_seq (by rfl) T.b_len (by decide +kernel) (pa_cons (pv 0) pa_nil)) pe_int (nomark _)) (pss_cons (ps_set (i:=2) nd rfl (by trivial) (pe_op op_add (pv 2) (pe_op op_mod (pe_ix (r:=rIxL c.K) ix_list (pv 0) (pe_op op_mod (pe_op op_mul (pv 1) pe_int) (pe_callB (r:=Fw.rLen c.K) call_len_seq (by rfl) T.b_len (by decide +kernel) (pa_cons (pv 0) pa_nil))) (fun _ _=>rfl)) pe_int))) pss_nil) pss_nil) (pss_cons (ps_ret (pe_op op_mod (pe_op op_mul (pv 2) (pv 2)) pe_int)) pss_nil)))),?_⟩
  have hm:∀ x:(Sq Int)×Int×Unit,(fun x:(Sq Int)×Int×Unit=>m_cell x.1 x.2.1) x = (m_cell_b x.1 x.2.1).run:=fun _=>by unfold m_cell; rfl
  have hN:N_cell.length = Args.num ((Sq Int)×Int×Unit) + 1:=rfl
  refine fn_run (Bs:=fun _=>uns 3) (n:=1) (m:=fun x=>m_cell_b x.1 x.2.1) h ?hN ?hm ?hd
  case hN=>exact hN
  case hm=>exact hm
  intro W x
  obtain ⟨v_script,v_k,⟨⟩⟩:=x
  show Den _ _ _ _ _ _ _ [(.fr v_script),(.fr v_k),.un] (m_cell_b v_script v_k) (fun _=>uns 3)
  unfold m_cell_b
  exact (d_ifap (t_e (e_op2 (o_cmp fun i j=>decide (i < j)) (e_var 1) (e_opA (x:=(v_script.l,())) o_lenL (a_cons (e_shQ (e_var 0)) a_nil) rfl) rfl)) (d_retR (wk_uns rfl) (r_op2 o_ixL (exr_p (e_shQ (e_var 0))) (exr_p (e_var 1)))) (d_get 2 (wk_uns rfl) (r_op2 (o_int fun i j=>i + j) (r_op2 o_mul (exr_p (e_var 1)) (exr_p (e_var 1))) (exr_p (e_int _))) fun v_number_7=>(d_ifp (Bs:=(fun (s8:Int)=>[(.fr v_script),(.fr v_k),(.fr s8)])) (t_e (e_op2 (o_cmp fun i j=>decide (j < i)) (e_opA (x:=(v_script.l,())) o_lenL (a_cons (e_shQ (e_var 0)) a_nil) rfl) (e_int _) rfl)) (d_get 2 (wk_uns rfl) (r_op2 (o_int fun i j=>i + j) (exr_p (e_var 2)) (r_cr (fun _=>(by decide:(0:Int) < 2147483629)) (r_op2 o_ixL (exr_p (e_shQ (e_var 0))) (r_op2 o_mod (exr_p (e_cr (fun _=>Or.inr ⟨by decide,by decide⟩) (e_var 1) (e_int _) rfl)) (exr_p (e_opA (x:=(v_script.l,())) o_lenL (a_cons (e_shQ (e_var 0)) a_nil) rfl)))) (e_int _))) fun v_number_19=>(d_nx (.same (.same (.same .nil))))) (d_nx (.same (.same (.same .nil)))) (fun s8=>(d_retR (wk_uns rfl) (r_cr (fun _=>(by decide:(0:Int) < 2147483629)) (r_op2 o_mul (exr_p (e_var 2)) (exr_p (e_var 2))) (e_int _)))))))
theorem ok_m_cell (T:Glb mg) (R0:Raw c.K mg "_law_cell" "_law_cell" s_cell) :
    Cal P w c.K mg base "_law_cell" 1 ["_law_script","_law_k"] (spF c (fun x:(Sq Int)×Int×Unit=>m_cell x.1 x.2.1) (fun x:Int=>kFr c.K x)):=by
  obtain ⟨f,fd,gf,F⟩:=R0.ex
  exact ⟨f,fd,gf,F.kp,F.binds fun _ _ _ _ _ _ us hl=>match us,hl with | [_,_],_=>rfl,ok_m_cell_F T F⟩
theorem ok_m_mixed_F (T:Glb mg) {f:Addr} {fd:FuncData} (F:Fun c.K "_law_mixed" "_law_mixed" s_mixed f fd) :
    FnOk P w c.K mg base (L2.CX P w) 1 f fd ["_law_cell_here","_law_k"] (spF c (fun x:Int×Int×Unit=>m_mixed x.1 x.2.1) (fun x:Int=>kFr c.K x)):=by
  have nd:=sc_mixed.nd
  refine F.okX sc_mixed (fun vs H Q E h=>spF_len vs H Q E h) (fun cdv A outer s H vs Q E hr h=>?_)
  refine ⟨_,(pss_cons (ps_if (pt_cmpR op_ge (pv 0) (pe_op op_pow pe_int pe_int) (nomark _)) (pss_cons (ps_ret (pe_op op_and (pe_op op_shr (pv 0) (pe_op op_mul pe_int (pv 1))) pe_int)) pss_nil) pss_nil) (pss_cons (ps_set (i:=2) nd rfl (by trivial) (pe_op op_mod (pe_op op_mul (pe_op op_add (pe_op op_add (pe_op op_add (pe_op op_mod (pv 0) pe_int) (pe_op op_mul (pe_op op_mul pe_int (pv 1)) (pv 1))) (pv 1)) pe_int) pe_int) pe_int)) (pss_cons (ps_set (i:=2) nd rfl (by trivial) (pe_op op_mod (pe_op op_mul (pv 2) (pv 2)) pe_int)) (pss_cons (ps_ret (pe_op op_mod (pe_op op_mul (pe_op op_add (pv 2) (pv 1)) pe_int) pe_int)) pss_nil)))),?_⟩
  have hm:∀ x:Int×Int×Unit,(fun x:Int×Int×Unit=>m_mixed x.1 x.2.1) x = (m_mixed_b x.1 x.2.1).run:=fun _=>by unfold m_mixed; rfl
  have hN:N_mixed.length = Args.num (Int×Int×Unit) + 1:=rfl
  refine fn_run (Bs:=fun _=>uns 3) (n:=1) (m:=fun x=>m_mixed_b x.1 x.2.1) h ?hN ?hm ?hd
  case hN=>exact hN
  case hm=>exact hm
  intro W x
  obtain ⟨v_cell_here,v_k,⟨⟩⟩:=x
  show Den _ _ _ _ _ _ _ [(.fr v_cell_here),(.fr v_k),.un] (m_mixed_b v_cell_here v_k) (fun _=>uns 3)
  unfold m_mixed_b
  exact (d_ifap (t_e (e_op2 (o_cmp fun i j=>decide (j ≤ i)) (e_var 0) (e_cc ⟨by decide,by decide,by decide⟩ (e_int _) (e_int _) rfl) rfl)) (d_retR (wk_uns rfl) (r_op2 (o_int Builtin.bitAnd) (r_op2 o_shr (exr_p (e_var 0)) (exr_p (e_cl (fun _=>Or.inl ⟨by decide,by decide⟩) (e_int _) (e_var 1) rfl))) (exr_p (e_int _)))) (d_get 2 (wk_uns rfl) (r_cr (fun _=>(by decide:(0:Int) < 2147483587)) (r_cr (fun _=>Or.inr ⟨by decide,by decide⟩) (r_op2 (o_int fun i j=>i + j) (r_op2 (o_int fun i j=>i + j) (r_op2 (o_int fun i j=>i + j) (exr_p (e_cr (fun _=>(by decide:(0:Int) < 2147483629)) (e_var 0) (e_int _) rfl)) (r_op2 o_mul (exr_p (e_cl (fun _=>Or.inl ⟨by decide,by decide⟩) (e_int _) (e_var 1) rfl)) (exr_p (e_var 1)))) (exr_p (e_var 1))) (exr_p (e_int _))) (e_int _)) (e_int _)) fun v_number_15=>(d_get 2 (wk_uns rfl) (r_cr (fun _=>(by decide:(0:Int) < 2147483629)) (r_op2 o_mul (exr_p (e_var 2)) (exr_p (e_var 2))) (e_int _)) fun v_number_19=>(d_ret (e_cr (fun _=>(by decide:(0:Int) < 2147483563)) (e_cr (fun _=>Or.inr ⟨by decide,by decide⟩) (e_op2 (o_int fun i j=>i + j) (e_var 2) (e_var 1) rfl) (e_int _) rfl) (e_int _) rfl)))))
theorem ok_m_mixed (T:Glb mg) (R0:Raw c.K mg "_law_mixed" "_law_mixed" s_mixed) :
    Cal P w c.K mg base "_law_mixed" 1 ["_law_cell_here","_law_k"] (spF c (fun x:Int×Int×Unit=>m_mixed x.1 x.2.1) (fun x:Int=>kFr c.K x)):=by
  obtain ⟨f,fd,gf,F⟩:=R0.ex
  exact ⟨f,fd,gf,F.kp,F.binds fun _ _ _ _ _ _ us hl=>match us,hl with | [_,_],_=>rfl,ok_m_mixed_F T F⟩
theorem ok_m_size_F (T:Glb mg) {f:Addr} {fd:FuncData} (F:Fun c.K "_law_size" "_law_size" s_size f fd)
    (C_m_mixed:Cal P w c.K mg base "_law_mixed" 1 ["_law_cell_here","_law_k"] (spF c (fun x:Int×Int×Unit=>m_mixed x.1 x.2.1) (fun x:Int=>kFr c.K x))) :
    FnOk P w c.K mg base (L2.CX P w) 2 f fd ["_law_cell_here"] (spF c (fun x:Int×Unit=>m_size x.1) (fun x:(Int×Int)=>kFr c.K x)):=by
  obtain ⟨f_m_mixed,fd_m_mixed,g_m_mixed,k_m_mixed,b_m_mixed,G_m_mixed⟩:=C_m_mixed.ex
  have nd:=sc_size.nd
  refine F.okX sc_size (fun vs H Q E h=>spF_len vs H Q E h) (fun cdv A outer s H vs Q E hr h=>?_)
  refine ⟨_,(pss_cons (ps_set (i:=1) nd rfl (by trivial) (pe_callS G_m_mixed (hr.mono (by decide)) (by rfl) g_m_mixed k_m_mixed b_m_mixed (fun σ=>passAt (takes_of rfl rfl rfl rfl) σ) (pa_cons (pv 0) (pa_cons pe_int pa_nil)))) (pss_cons (ps_if (pt_cmpR op_eq (pe_op op_mod (pe_callS G_m_mixed (hr.mono (by decide)) (by rfl) g_m_mixed k_m_mixed b_m_mixed (fun σ=>passAt (takes_of rfl rfl rfl rfl) σ) (pa_cons (pv 0) (pa_cons pe_int pa_nil))) pe_int) pe_int (nomark _)) (pss_cons (ps_ret (pe_tup (pa_cons (pe_op op_add pe_int (pe_op op_mod (pv 1) pe_int)) (pa_cons (pe_op op_add pe_int (pe_op op_mod (pe_op op_fdiv (pv 1) pe_int) pe_int)) pa_nil)))) pss_nil) pss_nil) (pss_cons (ps_ret (pe_tup (pa_cons (pe_op op_add pe_int (pe_op op_mod (pv 1) pe_int)) (pa_cons (pe_op op_add pe_int (pe_op op_mod (pe_op op_fdiv (pv 1) pe_int) pe_int)) pa_nil)))) pss_nil))),?_⟩
  have hm:∀ x:Int×Unit,(fun x:Int×Unit=>m_size x.1) x = (m_size_b x.1).run:=fun _=>by unfold m_size; rfl
  have hN:N_size.length = Args.num (Int×Unit) + 1:=rfl
  refine fn_run (Bs:=fun _=>uns 2) (n:=1) (m:=fun x=>m_size_b x.1) h ?hN ?hm ?hd
  case hN=>exact hN
  case hm=>exact hm
  intro W x
  obtain ⟨v_cell_here,⟨⟩⟩:=x
  show Den _ _ _ _ _ _ _ [(.fr v_cell_here),.un] (m_size_b v_cell_here) (fun _=>uns 2)
  unfold m_size_b
  exact (d_get 1 (wk_uns rfl) (r_call1 (aa_cons (e_var 0) (aa_cons (e_int _) aa_nil)) rfl) fun v_number_1=>(d_ifa (wk_uns rfl) (tr_e (r_op2 o_eq (r_cr (fun _=>(by decide:(0:Int) < 8)) (r_call1 (aa_cons (e_var 0) (aa_cons (e_int _) aa_nil)) rfl) (e_int _)) (exr_p (e_int _)))) (d_ret (e_pair (a_cons (e_op2 (o_int fun i j=>i + j) (e_int _) (e_cr (fun _=>(by decide:(0:Int) < 24)) (e_var 1) (e_int _) rfl) rfl) (a_cons (e_op2 (o_int fun i j=>i + j) (e_int _) (e_cr (fun _=>(by decide:(0:Int) < 24)) (e_cr (fun _=>(⟨by decide,by decide⟩:CDiv _ 24)) (e_var 1) (e_int _) rfl) (e_int _) rfl) rfl) a_nil)))) (d_ret (e_pair (a_cons (e_op2 (o_int fun i j=>i + j) (e_int _) (e_cr (fun _=>(by decide:(0:Int) < 6)) (e_var 1) (e_int _) rfl) rfl) (a_cons (e_op2 (o_int fun i j=>i + j) (e_int _) (e_cr (fun _=>(by decide:(0:Int) < 6)) (e_cr (fun _=>(⟨by decide,by decide⟩:CDiv _ 6)) (e_var 1) (e_int _) rfl) (e_int _) rfl) rfl) a_nil))))))
theorem ok_m_size (T:Glb mg) (R0:Raw c.K mg "_law_size" "_law_size" s_size)
    (C_m_mixed:Cal P w c.K mg base "_law_mixed" 1 ["_law_cell_here","_law_k"] (spF c (fun x:Int×Int×Unit=>m_mixed x.1 x.2.1) (fun x:Int=>kFr c.K x))) :
    Cal P w c.K mg base "_law_size" 2 ["_law_cell_here"] (spF c (fun x:Int×Unit=>m_size x.1) (fun x:(Int×Int)=>kFr c.K x)):=by
  obtain ⟨f,fd,gf,F⟩:=R0.ex
  exact ⟨f,fd,gf,F.kp,F.binds fun _ _ _ _ _ _ us hl=>match us,hl with | [_],_=>rfl,ok_m_size_F T F C_m_mixed⟩
theorem ok_m_stroke_F (T:Glb mg) {f:Addr} {fd:FuncData} (F:Fun c.K "_law_stroke" "_law_stroke" s_stroke f fd) :
    FnOk P w c.K mg base (L2.CX P w) 1 f fd ["_law_size_here","_law_number"] (spF c (fun x:(Int×Int)×Int×Unit=>m_stroke x.1 x.2.1) (fun x:(T4 Str Int Int Int)=>kFr c.K x)):=by
  have nd:=sc_stroke.nd
  refine F.okX sc_stroke (fun vs H Q E h=>spF_len vs H Q E h) (fun cdv A outer s H vs Q E hr h=>?_)
  refine ⟨_,(pss_cons (ps_set (i:=2) nd rfl (by trivial) (pe_ix (r:=rIxL c.K) ix_list (pe_lst (pa_cons pe_str (pa_cons pe_str pa_nil))) (pe_op op_mod (pv 1) pe_int) (fun _ _=>rfl))) (pss_cons (ps_set (i:=3) nd rfl (by trivial) (pe_ix (r:=rIxL c.K) ix_list (pe_lst (pa_cons (pe_ix (r:=rIxT c.K) ix_tup (pv 0) pe_int (fun _ _=>rfl)) (pa_cons (pe_ix (r:=rIxT c.K) ix_tup (pv 0) pe_int (fun _ _=>rfl)) pa_nil))) (pe_op op_mod (pv 1) pe_int) (fun _ _=>rfl))) (pss_cons (ps_set (i:=4) nd rfl (by trivial) (pe_ix (r:=rIxL c.K) ix_list (pe_lst (pa_cons (pe_ix (r:=rIxT c.K) ix_tup (pv 0) pe_int (fun _ _=>rfl)) (pa_cons (pe_ix (r:=rIxT c.K) ix_tup (pv 0) pe_int (fun _ _=>rfl)) pa_nil))) (pe_op op_mod (pv 1) pe_int) (fun _ _=>rfl))) (pss_cons (ps_set (i:=5) nd rfl (by trivial) (pe_op op_mod (pe_op op_fdiv (pv 1) (pe_op op_mul pe_int (pv 3))) (pv 4))) (pss_cons (ps_set (i:=6) nd rfl (by trivial) (pe_op op_fdiv (pv 1) (pe_op op_mul (pe_op op_mul pe_int (pv 3)) (pv 4)))) (pss_cons (ps_ret (pe_tup (pa_cons (pv 2) (pa_cons (pe_op op_mod (pe_op op_fdiv (pv 1) pe_int) (pv 3)) (pa_cons (pv 5) (pa_cons (pe_op op_add (pv 5) (pe_op op_mod (pv 6) (pe_op op_sub (pv 4) (pv 5)))) pa_nil)))))) pss_nil)))))),?_⟩
  have hm:∀ x:(Int×Int)×Int×Unit,(fun x:(Int×Int)×Int×Unit=>m_stroke x.1 x.2.1) x = (m_stroke_b x.1 x.2.1).run:=fun _=>by unfold m_stroke; rfl
  have hN:N_stroke.length = Args.num ((Int×Int)×Int×Unit) + 5:=rfl
  refine fn_run (Bs:=fun _=>uns 7) (n:=5) (m:=fun x=>m_stroke_b x.1 x.2.1) h ?hN ?hm ?hd
  case hN=>exact hN
  case hm=>exact hm
  intro W x
  obtain ⟨v_size_here,v_number,⟨⟩⟩:=x
  show Den _ _ _ _ _ _ _ [(.fr v_size_here),(.fr v_number),.un,.un,.un,.un,.un] (m_stroke_b v_size_here v_number) (fun _=>uns 7)
  unfold m_stroke_b
  exact (d_get 2 (wk_uns rfl) (r_op2 o_ixL (exr_p (e_shN (e_lst (xs:=[("row":Str),("column":Str)]) (a_cons (e_str _) (a_cons (e_str _) a_nil)) (szl (n:=2) rfl (by decide))))) (exr_p (e_cr (fun _=>(by decide:(0:Int) < 2)) (e_var 1) (e_int _) rfl))) fun v_way_3=>(d_get 3 (wk_uns rfl) (r_op2 o_ixL (exr_p (e_shN (e_lst (xs:=[v_size_here.2,v_size_here.1]) (a_cons (e_ixc (x:=v_size_here) p_1 (e_var 0) (e_int _) rfl) (a_cons (e_ixc (x:=v_size_here) p_0 (e_var 0) (e_int _) rfl) a_nil)) (szl (n:=2) rfl (by decide))))) (exr_p (e_cr (fun _=>(by decide:(0:Int) < 2)) (e_var 1) (e_int _) rfl))) fun v_lines_6=>(d_get 4 (wk_uns rfl) (r_op2 o_ixL (exr_p (e_shN (e_lst (xs:=[v_size_here.1,v_size_here.2]) (a_cons (e_ixc (x:=v_size_here) p_0 (e_var 0) (e_int _) rfl) (a_cons (e_ixc (x:=v_size_here) p_1 (e_var 0) (e_int _) rfl) a_nil)) (szl (n:=2) rfl (by decide))))) (exr_p (e_cr (fun _=>(by decide:(0:Int) < 2)) (e_var 1) (e_int _) rfl))) fun v_places_9=>(d_get 5 (wk_uns rfl) (r_op2 o_mod (r_op2 o_fdiv (exr_p (e_var 1)) (exr_p (e_cl (fun _=>Or.inl ⟨by decide,by decide⟩) (e_int _) (e_var 3) rfl))) (exr_p (e_var 4))) fun v_first_14=>(d_get 6 (wk_uns rfl) (r_op2 o_fdiv (exr_p (e_var 1)) (r_op2 o_mul (exr_p (e_cl (fun _=>Or.inl ⟨by decide,by decide⟩) (e_int _) (e_var 3) rfl)) (exr_p (e_var 4)))) fun v_rest_19=>(d_retR (wk_uns rfl) (r_t4 (ar_cons (k:=fun (x:Str)=>kFr c.K x) (exr_p (e_var 2)) (ar_cons (k:=fun (x:Int)=>kFr c.K x) (r_op2 o_mod (exr_p (e_cr (fun _=>(⟨by decide,by decide⟩:CDiv _ 2)) (e_var 1) (e_int _) rfl)) (exr_p (e_var 3))) (ar_cons (k:=fun (x:Int)=>kFr c.K x) (exr_p (e_var 5)) (ar_cons (k:=fun (x:Int)=>kFr c.K x) (r_op2 (o_int fun i j=>i + j) (exr_p (e_var 5)) (r_op2 o_mod (exr_p (e_var 6)) (exr_p (e_op2 (o_int fun i j=>i - j) (e_var 4) (e_var 5) rfl)))) (axr_p (k:=fun _=>aNil) a_nil))))))))))))
theorem ok_m_stroke (T:Glb mg) (R0:Raw c.K mg "_law_stroke" "_law_stroke" s_stroke) :
    Cal P w c.K mg base "_law_stroke" 1 ["_law_size_here","_law_number"] (spF c (fun x:(Int×Int)×Int×Unit=>m_stroke x.1 x.2.1) (fun x:(T4 Str Int Int Int)=>kFr c.K x)):=by
  obtain ⟨f,fd,gf,F⟩:=R0.ex
  exact ⟨f,fd,gf,F.kp,F.binds fun _ _ _ _ _ _ us hl=>match us,hl with | [_,_],_=>rfl,ok_m_stroke_F T F⟩
theorem ok_m_plan_F (T:Glb mg) {f:Addr} {fd:FuncData} (F:Fun c.K "_law_plan" "_law_plan" s_plan f fd)
    (C_m_mixed:Cal P w c.K mg base "_law_mixed" 1 ["_law_cell_here","_law_k"] (spF c (fun x:Int×Int×Unit=>m_mixed x.1 x.2.1) (fun x:Int=>kFr c.K x)))
    (C_m_cell:Cal P w c.K mg base "_law_cell" 1 ["_law_script","_law_k"] (spF c (fun x:(Sq Int)×Int×Unit=>m_cell x.1 x.2.1) (fun x:Int=>kFr c.K x)))
    (C_m_stroke:Cal P w c.K mg base "_law_stroke" 1 ["_law_size_here","_law_number"] (spF c (fun x:(Int×Int)×Int×Unit=>m_stroke x.1 x.2.1) (fun x:(T4 Str Int Int Int)=>kFr c.K x))) :
    FnOk P w c.K mg base (L2.CX P w) 2 f fd ["_law_script","_law_size_here","_law_start","_law_last"] (spF c (fun x:(Sq Int)×(Int×Int)×Int×Int×Unit=>m_plan x.1 x.2.1 x.2.2.1 x.2.2.2.1) (fun x:(List (T3 Str Int (Int⊕(T4 Str Int Int Int))))=>kNw c.K x)):=by
  obtain ⟨f_m_mixed,fd_m_mixed,g_m_mixed,k_m_mixed,b_m_mixed,G_m_mixed⟩:=C_m_mixed.ex
  obtain ⟨f_m_cell,fd_m_cell,g_m_cell,k_m_cell,b_m_cell,G_m_cell⟩:=C_m_cell.ex
  obtain ⟨f_m_stroke,fd_m_stroke,g_m_stroke,k_m_stroke,b_m_stroke,G_m_stroke⟩:=C_m_stroke.ex
  have nd:=sc_plan.nd
  refine F.okX sc_plan (fun vs H Q E h=>spF_len vs H Q E h) (fun cdv A outer s H vs Q E hr h=>?_)
  refine ⟨_,(pss_cons (ps_set (i:=4) nd rfl (by trivial) (pe_lst pa_nil)) (pss_cons (ps_set (i:=5) nd rfl (by trivial) (pe_un un_neg pe_int)) (pss_cons (ps_set (i:=6) nd rfl (by trivial) (pe_lst (pa_cons pe_int (pa_cons pe_int (pa_cons pe_int (pa_cons (pe_op op_pow pe_int pe_int) (pa_cons pe_int (pa_cons pe_int pa_nil)))))))) (pss_cons (ps_for (passes_of rfl) rfl (pi_range2 (by rfl) T.b_range (pa_cons (pv 2) (pa_cons (pe_callB (call_max2 (by rfl)) (by rfl) T.b_max (by decide +kernel) (pa_cons (pe_op op_add (pv 2) pe_int) (pa_cons (pe_callB (call_min2 (by rfl)) (by rfl) T.b_min (by decide +kernel) (pa_cons (pe_callB (r:=Fw.rLen c.K) call_len_seq (by rfl) T.b_len (by decide +kernel) (pa_cons (pv 0) pa_nil)) (pa_cons (pv 3) pa_nil))) pa_nil))) pa_nil))) (pg_name (i:=7) nd rfl (by trivial)) (pss_cons (ps_set (i:=8) nd rfl (by trivial) (pe_callS G_m_mixed (hr.mono (by decide)) (by rfl) g_m_mixed k_m_mixed b_m_mixed (fun σ=>passAt (takes_of rfl rfl rfl rfl) σ) (pa_cons (pe_callS G_m_cell (hr.mono (by decide)) (by rfl) g_m_cell k_m_cell b_m_cell (fun σ=>passAt (takes_of rfl rfl rfl rfl) σ) (pa_cons (pv 0) (pa_cons (pv 7) pa_nil))) (pa_cons pe_int pa_nil)))) (pss_cons (ps_set (i:=9) nd rfl (by trivial) (pe_ix (r:=rIxL c.K) ix_list (pv 6) (pe_op op_mod (pv 8) pe_int) (fun _ _=>rfl))) (pss_cons (ps_if (pt_cmpR op_eq (pe_op op_mod (pe_op op_fdiv (pv 8) pe_int) pe_int) pe_int (nomark _)) (pss_cons (ps_set (i:=5) nd rfl (by trivial) (pe_op op_add (pe_op op_add (pv 5) pe_int) (pe_op op_mod (pe_op op_fdiv (pv 8) pe_int) pe_int))) (pss_cons (ps_expr (pe_bm PySem.F.plainAttrs_list PySem.F.slot_list_append PySem.F.type_list_append mt_append (pv 4) (pa_cons (pe_tup (pa_cons pe_str (pa_cons (pv 9) (pa_cons (pv 5) pa_nil)))) pa_nil))) pss_nil)) (pss_cons (ps_expr (pe_bm PySem.F.plainAttrs_list PySem.F.slot_list_append PySem.F.type_list_append mt_append (pv 4) (pa_cons (pe_tup (pa_cons pe_str (pa_cons (pv 9) (pa_cons (pe_callS G_m_stroke (hr.mono (by decide)) (by rfl) g_m_stroke k_m_stroke b_m_stroke (fun σ=>passAt (takes_of rfl rfl rfl rfl) σ) (pa_cons (pv 1) (pa_cons (pe_callS G_m_mixed (hr.mono (by decide)) (by rfl) g_m_mixed k_m_mixed b_m_mixed (fun σ=>passAt (takes_of rfl rfl rfl rfl) σ) (pa_cons (pe_callS G_m_cell (hr.mono (by decide)) (by rfl) g_m_cell k_m_cell b_m_cell (fun σ=>passAt (takes_of rfl rfl rfl rfl) σ) (pa_cons (pv 0) (pa_cons (pv 7) pa_nil))) (pa_cons pe_int pa_nil))) pa_nil))) pa_nil)))) pa_nil))) pss_nil)) pss_nil)))) (pss_cons (ps_ret (pv 4)) pss_nil))))),?_⟩
  have hm:∀ x:(Sq Int)×(Int×Int)×Int×Int×Unit,(fun x:(Sq Int)×(Int×Int)×Int×Int×Unit=>m_plan x.1 x.2.1 x.2.2.1 x.2.2.2.1) x = (m_plan_b x.1 x.2.1 x.2.2.1 x.2.2.2.1).run:=fun _=>by unfold m_plan; rfl
  have hN:N_plan.length = Args.num ((Sq Int)×(Int×Int)×Int×Int×Unit) + 6:=rfl
  refine fn_run (Bs:=fun _=>uns 10) (n:=6) (m:=fun x=>m_plan_b x.1 x.2.1 x.2.2.1 x.2.2.2.1) h ?hN ?hm ?hd
  case hN=>exact hN
  case hm=>exact hm
  intro W x
  obtain ⟨v_script,v_size_here,v_start,v_last,⟨⟩⟩:=x
  show Den _ _ _ _ _ _ _ [(.fr v_script),(.fr v_size_here),(.fr v_start),(.fr v_last),.un,.un,.un,.un,.un,.un] (m_plan_b v_script v_size_here v_start v_last) (fun _=>uns 10)
  unfold m_plan_b
  exact (d_letN 4 e_nil fun v_plan_here_1=>(d_let 5 (e_op1 o_neg (e_int _) rfl) fun v_ink_2=>(d_let 6 (e_fz (e_lst (xs:=[(0:Int),(1:Int),(7:Int),((10:Int) ^ (Int.toNat (18:Int))),(3:Int),(2:Int)]) (a_cons (e_int _) (a_cons (e_int _) (a_cons (e_int _) (a_cons (e_cc ⟨by decide,by decide,by decide⟩ (e_int _) (e_int _) rfl) (a_cons (e_int _) (a_cons (e_int _) a_nil)))))) (szl (n:=6) rfl (by decide)))) fun v_names_3=>(d_for (Bs:=(fun (s6:((List (T3 Str Int (Int⊕(T4 Str Int Int Int))))×Int))=>[(.fr v_script),(.fr v_size_here),(.fr v_start),(.fr v_last),(.ow none s6.1),(.fr s6.2),(.fr v_names_3),.un,.un,.un])) (wk_uns rfl) (i_rng2 (exr_p (e_var 2)) (exr_p (e_opA (x:=((v_start + (1:Int)),(if v_last < (v_script.l.length:Int) then v_last else (v_script.l.length:Int)),())) o_max (a_cons (e_op2 (o_int fun i j=>i + j) (e_var 2) (e_int _) rfl) (a_cons (e_opA (x:=((v_script.l.length:Int),v_last,())) o_min (a_cons (e_opA (x:=(v_script.l,())) o_lenL (a_cons (e_shQ (e_var 0)) a_nil) rfl) (a_cons (e_var 3) a_nil)) rfl) a_nil)) rfl))) (.same (.same (.same (.same (.same (.same (.same (.same (.same (.same .nil)))))))))) (fun _ _=>(g_name 7)) (fun s6 x7 B43=>(d_get 8 (wk_uns rfl) (r_call (aar_cons (r_call1 (aa_cons (e_var 0) (aa_cons (e_var 7) aa_nil)) rfl) (aar_cons (exr_p (e_int _)) aar_nil))) fun v_number_13=>(d_get 9 (wk_uns rfl) (r_op2 o_ixL (exr_p (e_sh (e_var 6))) (exr_p (e_cr (fun _=>(by decide:(0:Int) < 6)) (e_var 8) (e_int _) rfl))) fun v_block_16=>(d_ifp (Bs:=(fun (s17:((List (T3 Str Int (Int⊕(T4 Str Int Int Int))))×Int))=>[(.fr v_script),(.fr v_size_here),(.fr v_start),(.fr v_last),(.ow none s17.1),(.fr s17.2),(.fr v_names_3),(.fr x7),(.fr v_number_13),(.fr v_block_16)])) (t_e (e_op2 o_eq (e_cr (fun _=>(by decide:(0:Int) < 4)) (e_cr (fun _=>(⟨by decide,by decide⟩:CDiv _ 6)) (e_var 8) (e_int _) rfl) (e_int _) rfl) (e_int _) rfl)) (d_let 5 (e_op2 (o_int fun i j=>i + j) (e_op2 (o_int fun i j=>i + j) (e_var 5) (e_int _) rfl) (e_cr (fun _=>(by decide:(0:Int) < 3)) (e_cr (fun _=>(⟨by decide,by decide⟩:CDiv _ 24)) (e_var 8) (e_int _) rfl) (e_int _) rfl) rfl) fun v_ink_18=>(d_app 4 rfl (wk_uns rfl) (exr_p (e_t3 (a_cons (e_str _) (a_cons (e_var 9) (a_cons (e_inl (e_var 5)) a_nil))))) fun v_plan_here_19=>(d_nx (.same (.same (.same (.same (.same (.same (.same (.same (.same (.same .nil))))))))))))) (d_app 4 rfl (wk_uns rfl) (r_t3 (ar_cons (k:=fun (x:Str)=>kFr c.K x) (exr_p (e_str _)) (ar_cons (k:=fun (x:Int)=>kFr c.K x) (exr_p (e_var 9)) (ar_cons (k:=fun (x:(Int⊕(T4 Str Int Int Int)))=>kFr c.K x) (r_inr (r_call (aar_cons (exr_p (e_var 1)) (aar_cons (r_call (aar_cons (r_call1 (aa_cons (e_var 0) (aa_cons (e_var 7) aa_nil)) rfl) (aar_cons (exr_p (e_int _)) aar_nil))) aar_nil)))) (axr_p (k:=fun _=>aNil) a_nil))))) fun v_plan_here_39=>(d_nx (.same (.same (.same (.same (.same (.same (.same (.same (.same (.same .nil)))))))))))) (fun s17=>(d_nx (.same (.same (.same (.same (.same (.same (.same (.drop (.drop (.drop .nil)))))))))))))))) (fun s41=>(d_retO 4 rfl rfl))))))
theorem ok_m_plan (T:Glb mg) (R0:Raw c.K mg "_law_plan" "_law_plan" s_plan)
    (C_m_mixed:Cal P w c.K mg base "_law_mixed" 1 ["_law_cell_here","_law_k"] (spF c (fun x:Int×Int×Unit=>m_mixed x.1 x.2.1) (fun x:Int=>kFr c.K x)))
    (C_m_cell:Cal P w c.K mg base "_law_cell" 1 ["_law_script","_law_k"] (spF c (fun x:(Sq Int)×Int×Unit=>m_cell x.1 x.2.1) (fun x:Int=>kFr c.K x)))
    (C_m_stroke:Cal P w c.K mg base "_law_stroke" 1 ["_law_size_here","_law_number"] (spF c (fun x:(Int×Int)×Int×Unit=>m_stroke x.1 x.2.1) (fun x:(T4 Str Int Int Int)=>kFr c.K x))) :
    Cal P w c.K mg base "_law_plan" 2 ["_law_script","_law_size_here","_law_start","_law_last"] (spF c (fun x:(Sq Int)×(Int×Int)×Int×Int×Unit=>m_plan x.1 x.2.1 x.2.2.1 x.2.2.2.1) (fun x:(List (T3 Str Int (Int⊕(T4 Str Int Int Int))))=>kNw c.K x)):=by
  obtain ⟨f,fd,gf,F⟩:=R0.ex
  exact ⟨f,fd,gf,F.kp,F.binds fun _ _ _ _ _ _ us hl=>match us,hl with | [_,_,_,_],_=>rfl,ok_m_plan_F T F C_m_mixed C_m_cell C_m_stroke⟩
theorem ok_m_cells_F (T:Glb mg) {f:Addr} {fd:FuncData} (F:Fun c.K "_law_cells" "_law_cells" s_cells f fd) :
    FnOk P w c.K mg base (L2.CX P w) 1 f fd ["_law_stroke_here"] (spF c (fun x:(T4 Str Int Int Int)×Unit=>m_cells x.1) (fun x:(List (Ky (Int×Int)))=>kNw c.K x)):=by
  have nd:=sc_cells.nd
  refine F.okX sc_cells (fun vs H Q E h=>spF_len vs H Q E h) (fun cdv A outer s H vs Q E hr h=>?_)
  refine ⟨_,(pss_cons (ps_asg (pv 0) (pg_tup (by rfl) (pgs_cons (pg_name (i:=1) nd rfl (by trivial)) (pgs_cons (pg_name (i:=2) nd rfl (by trivial)) (pgs_cons (pg_name (i:=3) nd rfl (by trivial)) (pgs_cons (pg_name (i:=4) nd rfl (by trivial)) pgs_nil)))))) (pss_cons (ps_if (pt_cmpR op_eq (pv 1) pe_str (nomark _)) (pss_cons (ps_ret (pe_lc (own:=[("_law_place",5)]) (by rfl) nd (pi_range2 (by rfl) T.b_range (pa_cons (pv 3) (pa_cons (pe_op op_add (pv 4) pe_int) pa_nil))) (blkOk_by (own:=[("_law_place",5)]) (N:=N_cells) (sc:=(defScope s_cells)) (by decide +kernel)) (fun _ _ _ _ _=>(pg_name (i:=5) nd rfl (by trivial))) (fun _ _ _ _ _=>pts_nil) (fun _ _ _ _ _=>(pe_tup (pa_cons (pv 5) (pa_cons (pv 2) pa_nil)))))) pss_nil) pss_nil) (pss_cons (ps_ret (pe_lc (own:=[("_law_place",5)]) (by rfl) nd (pi_range2 (by rfl) T.b_range (pa_cons (pv 3) (pa_cons (pe_op op_add (pv 4) pe_int) pa_nil))) (blkOk_by (own:=[("_law_place",5)]) (N:=N_cells) (sc:=(defScope s_cells)) (by decide +kernel)) (fun _ _ _ _ _=>(pg_name (i:=5) nd rfl (by trivial))) (fun _ _ _ _ _=>pts_nil) (fun _ _ _ _ _=>(pe_tup (pa_cons (pv 2) (pa_cons (pv 5) pa_nil)))))) pss_nil))),?_⟩
  have hm:∀ x:(T4 Str Int Int Int)×Unit,(fun x:(T4 Str Int Int Int)×Unit=>m_cells x.1) x = (m_cells_b x.1).run:=fun _=>by unfold m_cells; rfl
  have hN:N_cells.length = Args.num ((T4 Str Int Int Int)×Unit) + 5:=rfl
  refine fn_run (Bs:=fun _=>uns 6) (n:=5) (m:=fun x=>m_cells_b x.1) h ?hN ?hm ?hd
  case hN=>exact hN
  case hm=>exact hm
  intro W x
  obtain ⟨v_stroke_here,⟨⟩⟩:=x
  show Den _ _ _ _ _ _ _ [(.fr v_stroke_here),.un,.un,.un,.un,.un] (m_cells_b v_stroke_here) (fun _=>uns 6)
  unfold m_cells_b
  exact (Fw.d_let4 1 2 3 4 (e_var 0) fun v_way_1 v_line_2 v_first_3 v_last_4=>(d_ifap (t_e (e_op2 o_eq (e_var 1) (e_str _) rfl)) (d_retR (wk_uns rfl) (r_lcM (ixh (i_rng2 (exr_p (e_var 3)) (exr_p (e_op2 (o_int fun i j=>i + j) (e_var 4) (e_int _) rfl)))) (gs_name 5) (fun x7=>(e_kyP (a_cons (e_var 5) (a_cons (e_var 2) a_nil)))))) (d_retR (wk_uns rfl) (r_lcM (ixh (i_rng2 (exr_p (e_var 3)) (exr_p (e_op2 (o_int fun i j=>i + j) (e_var 4) (e_int _) rfl)))) (gs_name 5) (fun x11=>(e_kyP (a_cons (e_var 2) (a_cons (e_var 5) a_nil))))))))
theorem ok_m_cells (T:Glb mg) (R0:Raw c.K mg "_law_cells" "_law_cells" s_cells) :
    Cal P w c.K mg base "_law_cells" 1 ["_law_stroke_here"] (spF c (fun x:(T4 Str Int Int Int)×Unit=>m_cells x.1) (fun x:(List (Ky (Int×Int)))=>kNw c.K x)):=by
  obtain ⟨f,fd,gf,F⟩:=R0.ex
  exact ⟨f,fd,gf,F.kp,F.binds fun _ _ _ _ _ _ us hl=>match us,hl with | [_],_=>rfl,ok_m_cells_F T F⟩
theorem ok_m_is_number_plans_F (T:Glb mg) {f:Addr} {fd:FuncData} (F:Fun c.K "is_number" "is_number" s_is_number_plans f fd) :
    FnOk P w c.K mg base (L2.CX P w) 1 f fd ["thing"] (spF c (fun x:Int×Unit=>m_is_number_plans x.1) (fun x:Bool=>kFr c.K x)):=by
  have nd:=sc_is_number_plans.nd
  refine F.okX sc_is_number_plans (fun vs H Q E h=>spF_len vs H Q E h) (fun cdv A outer s H vs Q E hr h=>?_)
  refine ⟨_,(pss_cons (ps_ret (pe_and (pe_callB (r:=rIsi c.K) call_isi (by rfl) T.b_isinstance (by decide +kernel) (pa_cons (pv 0) (pa_cons (pe_bltn (v:=.ty "int") (by rfl) T.b_int (by decide +kernel) rfl) pa_nil))) (pe_and (pe_not (pe_callB (r:=rIsi c.K) call_isi (by rfl) T.b_isinstance (by decide +kernel) (pa_cons (pv 0) (pa_cons (pe_bltn (v:=.ty "bool") (by rfl) T.b_bool (by decide +kernel) rfl) pa_nil)))) (pe_one (pe_cmpR op_ge (pv 0) pe_int (nomark _)))))) pss_nil),?_⟩
  have hm:∀ x:Int×Unit,(fun x:Int×Unit=>m_is_number_plans x.1) x = (m_is_number_plans_b x.1).run:=fun _=>by unfold m_is_number_plans; rfl
  have hN:N_is_number_plans.length = Args.num (Int×Unit) + 0:=rfl
  refine fn_run (Bs:=fun _=>uns 1) (n:=0) (m:=fun x=>m_is_number_plans_b x.1) h ?hN ?hm ?hd
  case hN=>exact hN
  case hm=>exact hm
  intro W x
  obtain ⟨v_thing,⟨⟩⟩:=x
  show Den _ _ _ _ _ _ _ [(.fr v_thing)] (m_is_number_plans_b v_thing) (fun _=>uns 1)
  unfold m_is_number_plans_b
  exact (d_ret (e_andV (e_opA (x:=(v_thing,())) (o_isiB (α:=Int) (b:=true) (by decide +kernel)) (a_cons (e_bw (e_var 0)) (a_cons (e_ty "int") a_nil)) rfl) (e_andV (e_notV (e_opA (x:=(v_thing,())) (o_isiB (α:=Int) (b:=false) (by decide +kernel)) (a_cons (e_bw (e_var 0)) (a_cons (e_ty "bool") a_nil)) rfl)) (e_op2 (o_cmp fun i j=>decide (j ≤ i)) (e_var 0) (e_int _) rfl))))
theorem ok_m_is_number_plans (T:Glb mg) (R0:Raw c.K mg "is_number_plans" "is_number" s_is_number_plans) :
    Cal P w c.K mg base "is_number_plans" 1 ["thing"] (spF c (fun x:Int×Unit=>m_is_number_plans x.1) (fun x:Bool=>kFr c.K x)):=by
  obtain ⟨f,fd,gf,F⟩:=R0.ex
  exact ⟨f,fd,gf,F.kp,F.binds fun _ _ _ _ _ _ us hl=>match us,hl with | [_],_=>rfl,ok_m_is_number_plans_F T F⟩
theorem ok_m_is_number_strokes_F (T:Glb mg) {f:Addr} {fd:FuncData} (F:Fun c.K "is_number" "is_number" s_is_number_strokes f fd) :
    FnOk P w c.K mg base (L2.CX P w) 1 f fd ["thing"] (spF c (fun x:Int×Unit=>m_is_number_strokes x.1) (fun x:Bool=>kFr c.K x)):=by
  have nd:=sc_is_number_strokes.nd
  refine F.okX sc_is_number_strokes (fun vs H Q E h=>spF_len vs H Q E h) (fun cdv A outer s H vs Q E hr h=>?_)
  refine ⟨_,(pss_cons (ps_ret (pe_and (pe_callB (r:=rIsi c.K) call_isi (by rfl) T.b_isinstance (by decide +kernel) (pa_cons (pv 0) (pa_cons (pe_bltn (v:=.ty "int") (by rfl) T.b_int (by decide +kernel) rfl) pa_nil))) (pe_and (pe_not (pe_callB (r:=rIsi c.K) call_isi (by rfl) T.b_isinstance (by decide +kernel) (pa_cons (pv 0) (pa_cons (pe_bltn (v:=.ty "bool") (by rfl) T.b_bool (by decide +kernel) rfl) pa_nil)))) (pe_one (pe_cmpR op_ge (pv 0) pe_int (nomark _)))))) pss_nil),?_⟩
  have hm:∀ x:Int×Unit,(fun x:Int×Unit=>m_is_number_strokes x.1) x = (m_is_number_strokes_b x.1).run:=fun _=>by unfold m_is_number_strokes; rfl
  have hN:N_is_number_strokes.length = Args.num (Int×Unit) + 0:=rfl
  refine fn_run (Bs:=fun _=>uns 1) (n:=0) (m:=fun x=>m_is_number_strokes_b x.1) h ?hN ?hm ?hd
  case hN=>exact hN
  case hm=>exact hm
  intro W x
  obtain ⟨v_thing,⟨⟩⟩:=x
  show Den _ _ _ _ _ _ _ [(.fr v_thing)] (m_is_number_strokes_b v_thing) (fun _=>uns 1)
  unfold m_is_number_strokes_b
  exact (d_ret (e_andV (e_opA (x:=(v_thing,())) (o_isiB (α:=Int) (b:=true) (by decide +kernel)) (a_cons (e_bw (e_var 0)) (a_cons (e_ty "int") a_nil)) rfl) (e_andV (e_notV (e_opA (x:=(v_thing,())) (o_isiB (α:=Int) (b:=false) (by decide +kernel)) (a_cons (e_bw (e_var 0)) (a_cons (e_ty "bool") a_nil)) rfl)) (e_op2 (o_cmp fun i j=>decide (j ≤ i)) (e_var 0) (e_int _) rfl))))
theorem ok_m_is_number_strokes (T:Glb mg) (R0:Raw c.K mg "is_number_strokes" "is_number" s_is_number_strokes) :
    Cal P w c.K mg base "is_number_strokes" 1 ["thing"] (spF c (fun x:Int×Unit=>m_is_number_strokes x.1) (fun x:Bool=>kFr c.K x)):=by
  obtain ⟨f,fd,gf,F⟩:=R0.ex
  exact ⟨f,fd,gf,F.kp,F.binds fun _ _ _ _ _ _ us hl=>match us,hl with | [_],_=>rfl,ok_m_is_number_strokes_F T F⟩
theorem ok_m_lies_on_F (T:Glb mg) {f:Addr} {fd:FuncData} (F:Fun c.K "lies_on" "lies_on" s_lies_on f fd)
    (C_m_is_number_strokes:Cal P w c.K mg base "is_number_strokes" 1 ["thing"] (spF c (fun x:Int×Unit=>m_is_number_strokes x.1) (fun x:Bool=>kFr c.K x))) :
    FnOk P w c.K mg base (L2.CX P w) 2 f fd ["size","thing"] (spF c (fun x:(Int×Int)×(T4 Str Int Int Int)×Unit=>m_lies_on x.1 x.2.1) (fun x:Bool=>kFr c.K x)):=by
  obtain ⟨f_m_is_number_strokes,fd_m_is_number_strokes,g_m_is_number_strokes,k_m_is_number_strokes,b_m_is_number_strokes,G_m_is_number_strokes⟩:=C_m_is_number_strokes.ex
  have nd:=sc_lies_on.nd
  refine F.okX sc_lies_on (fun vs H Q E h=>spF_len vs H Q E h) (fun cdv A outer s H vs Q E hr h=>?_)
  refine ⟨_,(pss_cons (ps_if (PW.pt (pw_or (pt_not (pt_val (pe_callB (r:=rIsi c.K) call_isi (by rfl) T.b_isinstance (by decide +kernel) (pa_cons (pv 1) (pa_cons (pe_bltn (v:=.ty "tuple") (by rfl) T.b_tuple (by decide +kernel) rfl) pa_nil))))) (pw_or (pt_cmpR op_ne (pe_callB (r:=Fw.rLen c.K) call_len_seq (by rfl) T.b_len (by decide +kernel) (pa_cons (pv 1) pa_nil)) pe_int (nomark _)) (pw_or1 (pt_cmpR (r:=rIn c.K true) op_notIn_seq (pe_ix (r:=rIxT c.K) ix_tup (pv 1) pe_int (fun _ _=>rfl)) (pe_tup (pa_cons pe_str (pa_cons pe_str pa_nil))) (by rfl)))))) (pss_cons (ps_ret pe_bl) pss_nil) pss_nil) (pss_cons (ps_for (passes_of rfl) rfl (pi_tup (pe_slice (r:=rSlT c.K) sl_tup (pv 1) (po_some pe_int) po_none)) (pg_name (i:=2) nd rfl (by trivial)) (pss_cons (ps_if (pt_not (pt_val (pe_callS G_m_is_number_strokes (hr.mono (by decide)) (by rfl) g_m_is_number_strokes k_m_is_number_strokes b_m_is_number_strokes (fun σ=>passAt (takes_of rfl rfl rfl rfl) σ) (pa_cons (pv 2) pa_nil)))) (pss_cons (ps_ret pe_bl) pss_nil) pss_nil) pss_nil)) (pss_cons (ps_set (i:=3) nd rfl (by trivial) (pe_ix (r:=rIxT c.K) ix_tup (pv 0) pe_int (fun _ _=>rfl))) (pss_cons (ps_set (i:=4) nd rfl (by trivial) (pe_ix (r:=rIxT c.K) ix_tup (pv 0) pe_int (fun _ _=>rfl))) (pss_cons (ps_if (pt_cmpR op_eq (pe_ix (r:=rIxT c.K) ix_tup (pv 1) pe_int (fun _ _=>rfl)) pe_str (nomark _)) (pss_cons (ps_set (i:=3) nd rfl (by trivial) (pe_ix (r:=rIxT c.K) ix_tup (pv 0) pe_int (fun _ _=>rfl))) (pss_cons (ps_set (i:=4) nd rfl (by trivial) (pe_ix (r:=rIxT c.K) ix_tup (pv 0) pe_int (fun _ _=>rfl))) pss_nil)) pss_nil) (pss_cons (ps_ret (pe_and (pe_cmpR op_lt (pe_ix (r:=rIxT c.K) ix_tup (pv 1) pe_int (fun _ _=>rfl)) (pv 3) (nomark _)) (pe_and (pe_cmpR op_le (pe_ix (r:=rIxT c.K) ix_tup (pv 1) pe_int (fun _ _=>rfl)) (pe_ix (r:=rIxT c.K) ix_tup (pv 1) pe_int (fun _ _=>rfl)) (nomark _)) (pe_one (pe_cmpR op_lt (pe_ix (r:=rIxT c.K) ix_tup (pv 1) pe_int (fun _ _=>rfl)) (pv 4) (nomark _)))))) pss_nil)))))),?_⟩
  have hm:∀ x:(Int×Int)×(T4 Str Int Int Int)×Unit,(fun x:(Int×Int)×(T4 Str Int Int Int)×Unit=>m_lies_on x.1 x.2.1) x = (m_lies_on_b x.1 x.2.1).run:=fun _=>by unfold m_lies_on; rfl
  have hN:N_lies_on.length = Args.num ((Int×Int)×(T4 Str Int Int Int)×Unit) + 3:=rfl
  refine fn_run (Bs:=fun _=>uns 5) (n:=3) (m:=fun x=>m_lies_on_b x.1 x.2.1) h ?hN ?hm ?hd
  case hN=>exact hN
  case hm=>exact hm
  intro W x
  obtain ⟨v_size,v_thing,⟨⟩⟩:=x
  show Den _ _ _ _ _ _ _ [(.fr v_size),(.fr v_thing),.un,.un,.un] (m_lies_on_b v_size v_thing) (fun _=>uns 5)
  unfold m_lies_on_b
  exact (d_ifap (t_or (t_not (t_B (e_opA (x:=(v_thing,())) (o_isiB (α:=(T4 Str Int Int Int)) (b:=true) (by decide +kernel)) (a_cons (e_bw (e_var 1)) (a_cons (e_ty "tuple") a_nil)) rfl))) (t_or (t_e (e_op2 o_ne (e_opA (x:=(v_thing,())) o_len4 (a_cons (e_var 1) a_nil) rfl) (e_int _) rfl)) (t_e (e_op2 o_ninP (e_ixc (x:=v_thing) p4_0 (e_var 1) (e_int _) rfl) (e_pair (a_cons (e_str _) (a_cons (e_str _) a_nil))) rfl)))) (d_ret (e_bl _)) (d_for (Bs:=(fun (s6:Unit)=>[(.fr v_size),(.fr v_thing),.un,.un,.un])) (wk_uns rfl) (i_tup (r_cut4 (exr_p (e_var 1)) (po_some' (exr_p (e_int _))) po_none')) (.same (.same (.same (.same (.same .nil))))) (fun _ _=>(g_name 2)) (fun s6 x7 B17=>(d_ifa (wk_uns rfl) (tr_not (tr_B (r_call1 (aa_cons (e_var 2) aa_nil) rfl))) (d_ret (e_bl _)) (d_nx (.same (.same (.drop (.same (.same .nil)))))))) (fun s10=>(d_let 3 (e_ixc (x:=v_size) p_1 (e_var 0) (e_int _) rfl) fun v_lines_11=>(d_let 4 (e_ixc (x:=v_size) p_0 (e_var 0) (e_int _) rfl) fun v_places_12=>(d_ifp (Bs:=(fun (s13:(Int×Int))=>[(.fr v_size),(.fr v_thing),.un,(.fr s13.1),(.fr s13.2)])) (t_e (e_op2 o_eq (e_ixc (x:=v_thing) p4_0 (e_var 1) (e_int _) rfl) (e_str _) rfl)) (d_let 3 (e_ixc (x:=v_size) p_0 (e_var 0) (e_int _) rfl) fun v_lines_14=>(d_let 4 (e_ixc (x:=v_size) p_1 (e_var 0) (e_int _) rfl) fun v_places_15=>(d_nx (.same (.same (.same (.same (.same .nil)))))))) (d_nx (.same (.same (.same (.same (.same .nil)))))) (fun s13=>(d_ret (e_andV (e_op2 (o_cmp fun i j=>decide (i < j)) (e_ixc (x:=v_thing) p4_1 (e_var 1) (e_int _) rfl) (e_var 3) rfl) (e_andV (e_op2 (o_cmp fun i j=>decide (i ≤ j)) (e_ixc (x:=v_thing) p4_2 (e_var 1) (e_int _) rfl) (e_ixc (x:=v_thing) p4_3 (e_var 1) (e_int _) rfl) rfl) (e_op2 (o_cmp fun i j=>decide (i < j)) (e_ixc (x:=v_thing) p4_3 (e_var 1) (e_int _) rfl) (e_var 4) rfl)))))))))))
theorem ok_m_lies_on (T:Glb mg) (R0:Raw c.K mg "lies_on" "lies_on" s_lies_on)
    (C_m_is_number_strokes:Cal P w c.K mg base "is_number_strokes" 1 ["thing"] (spF c (fun x:Int×Unit=>m_is_number_strokes x.1) (fun x:Bool=>kFr c.K x))) :
    Cal P w c.K mg base "lies_on" 2 ["size","thing"] (spF c (fun x:(Int×Int)×(T4 Str Int Int Int)×Unit=>m_lies_on x.1 x.2.1) (fun x:Bool=>kFr c.K x)):=by
  obtain ⟨f,fd,gf,F⟩:=R0.ex
  exact ⟨f,fd,gf,F.kp,F.binds fun _ _ _ _ _ _ us hl=>match us,hl with | [_,_],_=>rfl,ok_m_lies_on_F T F C_m_is_number_strokes⟩
theorem ok_m_is_deed_F (T:Glb mg) {f:Addr} {fd:FuncData} (F:Fun c.K "is_deed" "is_deed" s_is_deed f fd)
    (C_m_is_number_plans:Cal P w c.K mg base "is_number_plans" 1 ["thing"] (spF c (fun x:Int×Unit=>m_is_number_plans x.1) (fun x:Bool=>kFr c.K x)))
    (C_m_lies_on:Cal P w c.K mg base "lies_on" 2 ["size","thing"] (spF c (fun x:(Int×Int)×(T4 Str Int Int Int)×Unit=>m_lies_on x.1 x.2.1) (fun x:Bool=>kFr c.K x))) :
    FnOk P w c.K mg base (L2.CX P w) 3 f fd ["size","thing"] (spF c (fun x:(Int×Int)×(T3 Str Int (Int⊕(T4 Str Int Int Int)))×Unit=>m_is_deed x.1 x.2.1) (fun x:Bool=>kFr c.K x)):=by
  obtain ⟨f_m_is_number_plans,fd_m_is_number_plans,g_m_is_number_plans,k_m_is_number_plans,b_m_is_number_plans,G_m_is_number_plans⟩:=C_m_is_number_plans.ex
  obtain ⟨f_m_lies_on,fd_m_lies_on,g_m_lies_on,k_m_lies_on,b_m_lies_on,G_m_lies_on⟩:=C_m_lies_on.ex
  have nd:=sc_is_deed.nd
  refine F.okX sc_is_deed (fun vs H Q E h=>spF_len vs H Q E h) (fun cdv A outer s H vs Q E hr h=>?_)
  refine ⟨_,(pss_cons (ps_if (PW.pt (pw_or (pt_not (pt_val (pe_callB (r:=rIsi c.K) call_isi (by rfl) T.b_isinstance (by decide +kernel) (pa_cons (pv 1) (pa_cons (pe_bltn (v:=.ty "tuple") (by rfl) T.b_tuple (by decide +kernel) rfl) pa_nil))))) (pw_or (pt_cmpR op_ne (pe_callB (r:=Fw.rLen c.K) call_len_seq (by rfl) T.b_len (by decide +kernel) (pa_cons (pv 1) pa_nil)) pe_int (nomark _)) (pw_or1 (pt_not (pt_val (pe_callS G_m_is_number_plans (hr.mono (by decide)) (by rfl) g_m_is_number_plans k_m_is_number_plans b_m_is_number_plans (fun σ=>passAt (takes_of rfl rfl rfl rfl) σ) (pa_cons (pe_ix (r:=rIxT c.K) ix_tup (pv 1) pe_int (fun _ _=>rfl)) pa_nil)))))))) (pss_cons (ps_ret pe_bl) pss_nil) pss_nil) (pss_cons (ps_if (pt_cmpR op_eq (pe_ix (r:=rIxT c.K) ix_tup (pv 1) pe_int (fun _ _=>rfl)) pe_str (nomark _)) (pss_cons (ps_ret (pe_callS G_m_lies_on (hr.mono (by decide)) (by rfl) g_m_lies_on k_m_lies_on b_m_lies_on (fun σ=>passAt (takes_of rfl rfl rfl rfl) σ) (pa_cons (pv 0) (pa_cons (pe_ix (r:=rIxT c.K) ix_tup (pv 1) pe_int (fun _ _=>rfl)) pa_nil)))) pss_nil) pss_nil) (pss_cons (ps_ret (pe_and (pe_cmpR op_eq (pe_ix (r:=rIxT c.K) ix_tup (pv 1) pe_int (fun _ _=>rfl)) pe_str (nomark _)) (pe_one (pe_callS G_m_is_number_plans (hr.mono (by decide)) (by rfl) g_m_is_number_plans k_m_is_number_plans b_m_is_number_plans (fun σ=>passAt (takes_of rfl rfl rfl rfl) σ) (pa_cons (pe_ix (r:=rIxT c.K) ix_tup (pv 1) pe_int (fun _ _=>rfl)) pa_nil))))) pss_nil))),?_⟩
  have hm:∀ x:(Int×Int)×(T3 Str Int (Int⊕(T4 Str Int Int Int)))×Unit,(fun x:(Int×Int)×(T3 Str Int (Int⊕(T4 Str Int Int Int)))×Unit=>m_is_deed x.1 x.2.1) x = (m_is_deed_b x.1 x.2.1).run:=fun _=>by unfold m_is_deed; rfl
  have hN:N_is_deed.length = Args.num ((Int×Int)×(T3 Str Int (Int⊕(T4 Str Int Int Int)))×Unit) + 0:=rfl
  refine fn_run (Bs:=fun _=>uns 2) (n:=0) (m:=fun x=>m_is_deed_b x.1 x.2.1) h ?hN ?hm ?hd
  case hN=>exact hN
  case hm=>exact hm
  intro W x
  obtain ⟨v_size,v_thing,⟨⟩⟩:=x
  show Den _ _ _ _ _ _ _ [(.fr v_size),(.fr v_thing)] (m_is_deed_b v_size v_thing) (fun _=>uns 2)
  unfold m_is_deed_b
  exact (d_ifa (wk_uns rfl) (tr_or (txr_p (t_not (t_B (e_opA (x:=(v_thing,())) (o_isiB (α:=(T3 Str Int (Int⊕(T4 Str Int Int Int)))) (b:=true) (by decide +kernel)) (a_cons (e_bw (e_var 1)) (a_cons (e_ty "tuple") a_nil)) rfl)))) (tr_or (txr_p (t_e (e_op2 o_ne (e_opA (x:=(v_thing,())) o_len3 (a_cons (e_var 1) a_nil) rfl) (e_int _) rfl))) (tr_not (tr_B (r_call1 (aa_cons (e_ixc (x:=v_thing) p3_1 (e_var 1) (e_int _) rfl) aa_nil) rfl))))) (d_ret (e_bl _)) (d_ifap (t_e (e_op2 o_eq (e_ixc (x:=v_thing) p3_0 (e_var 1) (e_int _) rfl) (e_str _) rfl)) (d_retR (wk_uns rfl) (r_call (aar_cons (exr_p (e_var 0)) (aar_cons (r_getR (exr_p (e_ixc (x:=v_thing) p3_2 (e_var 1) (e_int _) rfl))) aar_nil)))) (d_retR (wk_uns rfl) (r_andV (exr_p (e_op2 o_eq (e_ixc (x:=v_thing) p3_0 (e_var 1) (e_int _) rfl) (e_str _) rfl)) (r_call (aar_cons (r_getL (exr_p (e_ixc (x:=v_thing) p3_2 (e_var 1) (e_int _) rfl))) aar_nil))))))
theorem ok_m_is_deed (T:Glb mg) (R0:Raw c.K mg "is_deed" "is_deed" s_is_deed)
    (C_m_is_number_plans:Cal P w c.K mg base "is_number_plans" 1 ["thing"] (spF c (fun x:Int×Unit=>m_is_number_plans x.1) (fun x:Bool=>kFr c.K x)))
    (C_m_lies_on:Cal P w c.K mg base "lies_on" 2 ["size","thing"] (spF c (fun x:(Int×Int)×(T4 Str Int Int Int)×Unit=>m_lies_on x.1 x.2.1) (fun x:Bool=>kFr c.K x))) :
    Cal P w c.K mg base "is_deed" 3 ["size","thing"] (spF c (fun x:(Int×Int)×(T3 Str Int (Int⊕(T4 Str Int Int Int)))×Unit=>m_is_deed x.1 x.2.1) (fun x:Bool=>kFr c.K x)):=by
  obtain ⟨f,fd,gf,F⟩:=R0.ex
  exact ⟨f,fd,gf,F.kp,F.binds fun _ _ _ _ _ _ us hl=>match us,hl with | [_,_],_=>rfl,ok_m_is_deed_F T F C_m_is_number_plans C_m_lies_on⟩
theorem ok_m_all_of_F (T:Glb mg) {f:Addr} {fd:FuncData} (F:Fun c.K "all_of" "all_of" s_all_of f fd) :
    FnOk P w c.K mg base (L2.CX P w) 1 f fd ["size"] (spF c (fun x:(Int×Int)×Unit=>m_all_of x.1) (fun x:Int=>kFr c.K x)):=by
  have nd:=sc_all_of.nd
  refine F.okX sc_all_of (fun vs H Q E h=>spF_len vs H Q E h) (fun cdv A outer s H vs Q E hr h=>?_)
  refine ⟨_,(pss_cons (ps_ret (pe_op op_sub (pe_op op_shl pe_int (pe_op op_mul (pe_ix (r:=rIxT c.K) ix_tup (pv 0) pe_int (fun _ _=>rfl)) (pe_ix (r:=rIxT c.K) ix_tup (pv 0) pe_int (fun _ _=>rfl)))) pe_int)) pss_nil),?_⟩
  have hm:∀ x:(Int×Int)×Unit,(fun x:(Int×Int)×Unit=>m_all_of x.1) x = (m_all_of_b x.1).run:=fun _=>by unfold m_all_of; rfl
  have hN:N_all_of.length = Args.num ((Int×Int)×Unit) + 0:=rfl
  refine fn_run (Bs:=fun _=>uns 1) (n:=0) (m:=fun x=>m_all_of_b x.1) h ?hN ?hm ?hd
  case hN=>exact hN
  case hm=>exact hm
  intro W x
  obtain ⟨v_size,⟨⟩⟩:=x
  show Den _ _ _ _ _ _ _ [(.fr v_size)] (m_all_of_b v_size) (fun _=>uns 1)
  unfold m_all_of_b
  exact (d_retR (wk_uns rfl) (r_op2 (o_int fun i j=>i - j) (r_op2 o_shl (exr_p (e_int _)) (r_op2 o_mul (exr_p (e_ixc (x:=v_size) p_0 (e_var 0) (e_int _) rfl)) (exr_p (e_ixc (x:=v_size) p_1 (e_var 0) (e_int _) rfl)))) (exr_p (e_int _))))
theorem ok_m_all_of (T:Glb mg) (R0:Raw c.K mg "all_of" "all_of" s_all_of) :
    Cal P w c.K mg base "all_of" 1 ["size"] (spF c (fun x:(Int×Int)×Unit=>m_all_of x.1) (fun x:Int=>kFr c.K x)):=by
  obtain ⟨f,fd,gf,F⟩:=R0.ex
  exact ⟨f,fd,gf,F.kp,F.binds fun _ _ _ _ _ _ us hl=>match us,hl with | [_],_=>rfl,ok_m_all_of_F T F⟩
theorem ok_m_set_of_F (T:Glb mg) {f:Addr} {fd:FuncData} (F:Fun c.K "set_of" "set_of" s_set_of f fd) :
    FnOk P w c.K mg base (L2.CX P w) 1 f fd ["size","cells"] (spF c (fun x:(Int×Int)×(List (Int×Int))×Unit=>m_set_of x.1 x.2.1) (fun x:Int=>kFr c.K x)):=by
  have nd:=sc_set_of.nd
  refine F.okX sc_set_of (fun vs H Q E h=>spF_len vs H Q E h) (fun cdv A outer s H vs Q E hr h=>?_)
  refine ⟨_,(pss_cons (ps_set (i:=2) nd rfl (by trivial) pe_int) (pss_cons (ps_for (passes_of rfl) rfl (pi_list (pv 1)) (pg_tup (by rfl) (pgs_cons (pg_name (i:=3) nd rfl (by trivial)) (pgs_cons (pg_name (i:=4) nd rfl (by trivial)) pgs_nil))) (pss_cons (ps_set (i:=2) nd rfl (by trivial) (pe_op op_or (pv 2) (pe_op op_shl pe_int (pe_op op_add (pe_op op_mul (pv 4) (pe_ix (r:=rIxT c.K) ix_tup (pv 0) pe_int (fun _ _=>rfl))) (pv 3))))) pss_nil)) (pss_cons (ps_ret (pv 2)) pss_nil))),?_⟩
  have hm:∀ x:(Int×Int)×(List (Int×Int))×Unit,(fun x:(Int×Int)×(List (Int×Int))×Unit=>m_set_of x.1 x.2.1) x = (m_set_of_b x.1 x.2.1).run:=fun _=>by unfold m_set_of; rfl
  have hN:N_set_of.length = Args.num ((Int×Int)×(List (Int×Int))×Unit) + 3:=rfl
  refine fn_run (Bs:=fun _=>uns 5) (n:=3) (m:=fun x=>m_set_of_b x.1 x.2.1) h ?hN ?hm ?hd
  case hN=>exact hN
  case hm=>exact hm
  intro W x
  obtain ⟨v_size,v_cells,⟨⟩⟩:=x
  show Den _ _ _ _ _ _ _ [(.fr v_size),(.fr v_cells),.un,.un,.un] (m_set_of_b v_size v_cells) (fun _=>uns 5)
  unfold m_set_of_b
  exact (d_let 2 (e_int _) fun v_found_1=>(d_for (Bs:=(fun (s2:Int)=>[(.fr v_size),(.fr v_cells),(.fr s2),.un,.un])) (wk_uns rfl) (i_list (exr_p (e_var 1))) (.same (.same (.same (.same (.same .nil))))) (fun _ _=>(g_tup2 3 4)) (fun s2 x3 B15=>(d_get 2 (wk_uns rfl) (r_op2 (o_int Builtin.bitOr) (exr_p (e_var 2)) (r_op2 o_shl (exr_p (e_int _)) (r_op2 (o_int fun i j=>i + j) (r_op2 o_mul (exr_p (e_var 4)) (exr_p (e_ixc (x:=v_size) p_0 (e_var 0) (e_int _) rfl))) (exr_p (e_var 3))))) fun v_found_12=>(d_nx (.same (.same (.same (.drop (.drop .nil)))))))) (fun s13=>(d_ret (e_var 2)))))
theorem ok_m_set_of (T:Glb mg) (R0:Raw c.K mg "set_of" "set_of" s_set_of) :
    Cal P w c.K mg base "set_of" 1 ["size","cells"] (spF c (fun x:(Int×Int)×(List (Int×Int))×Unit=>m_set_of x.1 x.2.1) (fun x:Int=>kFr c.K x)):=by
  obtain ⟨f,fd,gf,F⟩:=R0.ex
  exact ⟨f,fd,gf,F.kp,F.binds fun _ _ _ _ _ _ us hl=>match us,hl with | [_,_],_=>rfl,ok_m_set_of_F T F⟩
theorem ok_m_cells_cut_F (T:Glb mg) {f:Addr} {fd:FuncData} (F:Fun c.K "cells_cut" "cells_cut" s_cells_cut f fd)
    (C_m_set_of:Cal P w c.K mg base "set_of" 1 ["size","cells"] (spF c (fun x:(Int×Int)×(List (Int×Int))×Unit=>m_set_of x.1 x.2.1) (fun x:Int=>kFr c.K x))) :
    FnOk P w c.K mg base (L2.CX P w) 2 f fd ["size","stroke"] (spF c (fun x:(Int×Int)×(T4 Str Int Int Int)×Unit=>m_cells_cut x.1 x.2.1) (fun x:Int=>kFr c.K x)):=by
  obtain ⟨f_m_set_of,fd_m_set_of,g_m_set_of,k_m_set_of,b_m_set_of,G_m_set_of⟩:=C_m_set_of.ex
  have nd:=sc_cells_cut.nd
  refine F.okX sc_cells_cut (fun vs H Q E h=>spF_len vs H Q E h) (fun cdv A outer s H vs Q E hr h=>?_)
  refine ⟨_,(pss_cons (ps_asg (pv 1) (pg_tup (by rfl) (pgs_cons (pg_name (i:=2) nd rfl (by trivial)) (pgs_cons (pg_name (i:=3) nd rfl (by trivial)) (pgs_cons (pg_name (i:=4) nd rfl (by trivial)) (pgs_cons (pg_name (i:=5) nd rfl (by trivial)) pgs_nil)))))) (pss_cons (ps_if (pt_cmpR op_eq (pv 2) pe_str (nomark _)) (pss_cons (ps_ret (pe_callS G_m_set_of (hr.mono (by decide)) (by rfl) g_m_set_of k_m_set_of b_m_set_of (fun σ=>passAt (takes_of rfl rfl rfl rfl) σ) (pa_cons (pv 0) (pa_cons (pe_lc (own:=[("column",6)]) (by rfl) nd (pi_range2 (by rfl) T.b_range (pa_cons (pv 4) (pa_cons (pe_op op_add (pv 5) pe_int) pa_nil))) (blkOk_by (own:=[("column",6)]) (N:=N_cells_cut) (sc:=(defScope s_cells_cut)) (by decide +kernel)) (fun _ _ _ _ _=>(pg_name (i:=6) nd rfl (by trivial))) (fun _ _ _ _ _=>pts_nil) (fun _ _ _ _ _=>(pe_tup (pa_cons (pv 6) (pa_cons (pv 3) pa_nil))))) pa_nil)))) pss_nil) pss_nil) (pss_cons (ps_ret (pe_callS G_m_set_of (hr.mono (by decide)) (by rfl) g_m_set_of k_m_set_of b_m_set_of (fun σ=>passAt (takes_of rfl rfl rfl rfl) σ) (pa_cons (pv 0) (pa_cons (pe_lc (own:=[("row",7)]) (by rfl) nd (pi_range2 (by rfl) T.b_range (pa_cons (pv 4) (pa_cons (pe_op op_add (pv 5) pe_int) pa_nil))) (blkOk_by (own:=[("row",7)]) (N:=N_cells_cut) (sc:=(defScope s_cells_cut)) (by decide +kernel)) (fun _ _ _ _ _=>(pg_name (i:=7) nd rfl (by trivial))) (fun _ _ _ _ _=>pts_nil) (fun _ _ _ _ _=>(pe_tup (pa_cons (pv 3) (pa_cons (pv 7) pa_nil))))) pa_nil)))) pss_nil))),?_⟩
  have hm:∀ x:(Int×Int)×(T4 Str Int Int Int)×Unit,(fun x:(Int×Int)×(T4 Str Int Int Int)×Unit=>m_cells_cut x.1 x.2.1) x = (m_cells_cut_b x.1 x.2.1).run:=fun _=>by unfold m_cells_cut; rfl
  have hN:N_cells_cut.length = Args.num ((Int×Int)×(T4 Str Int Int Int)×Unit) + 6:=rfl
  refine fn_run (Bs:=fun _=>uns 8) (n:=6) (m:=fun x=>m_cells_cut_b x.1 x.2.1) h ?hN ?hm ?hd
  case hN=>exact hN
  case hm=>exact hm
  intro W x
  obtain ⟨v_size,v_stroke,⟨⟩⟩:=x
  show Den _ _ _ _ _ _ _ [(.fr v_size),(.fr v_stroke),.un,.un,.un,.un,.un,.un] (m_cells_cut_b v_size v_stroke) (fun _=>uns 8)
  unfold m_cells_cut_b
  exact (Fw.d_let4 2 3 4 5 (e_var 1) fun v_way_1 v_line_2 v_first_3 v_last_4=>(d_ifap (t_e (e_op2 o_eq (e_var 2) (e_str _) rfl)) (d_retR (wk_uns rfl) (r_call (aar_cons (exr_p (e_var 0)) (aar_cons (r_fz (r_lcM (ixh (i_rng2 (exr_p (e_var 4)) (exr_p (e_op2 (o_int fun i j=>i + j) (e_var 5) (e_int _) rfl)))) (gs_name 6) (fun x7=>(e_pair (a_cons (e_var 6) (a_cons (e_var 3) a_nil)))))) aar_nil)))) (d_retR (wk_uns rfl) (r_call (aar_cons (exr_p (e_var 0)) (aar_cons (r_fz (r_lcM (ixh (i_rng2 (exr_p (e_var 4)) (exr_p (e_op2 (o_int fun i j=>i + j) (e_var 5) (e_int _) rfl)))) (gs_name 7) (fun x16=>(e_pair (a_cons (e_var 3) (a_cons (e_var 7) a_nil)))))) aar_nil))))))
theorem ok_m_cells_cut (T:Glb mg) (R0:Raw c.K mg "cells_cut" "cells_cut" s_cells_cut)
    (C_m_set_of:Cal P w c.K mg base "set_of" 1 ["size","cells"] (spF c (fun x:(Int×Int)×(List (Int×Int))×Unit=>m_set_of x.1 x.2.1) (fun x:Int=>kFr c.K x))) :
    Cal P w c.K mg base "cells_cut" 2 ["size","stroke"] (spF c (fun x:(Int×Int)×(T4 Str Int Int Int)×Unit=>m_cells_cut x.1 x.2.1) (fun x:Int=>kFr c.K x)):=by
  obtain ⟨f,fd,gf,F⟩:=R0.ex
  exact ⟨f,fd,gf,F.kp,F.binds fun _ _ _ _ _ _ us hl=>match us,hl with | [_,_],_=>rfl,ok_m_cells_cut_F T F C_m_set_of⟩
theorem ok_m_replayed_F (T:Glb mg) {f:Addr} {fd:FuncData} (F:Fun c.K "replayed" "replayed" s_replayed f fd)
    (C_m_is_deed:Cal P w c.K mg base "is_deed" 3 ["size","thing"] (spF c (fun x:(Int×Int)×(T3 Str Int (Int⊕(T4 Str Int Int Int)))×Unit=>m_is_deed x.1 x.2.1) (fun x:Bool=>kFr c.K x)))
    (C_m_all_of:Cal P w c.K mg base "all_of" 1 ["size"] (spF c (fun x:(Int×Int)×Unit=>m_all_of x.1) (fun x:Int=>kFr c.K x)))
    (C_m_cells_cut:Cal P w c.K mg base "cells_cut" 2 ["size","stroke"] (spF c (fun x:(Int×Int)×(T4 Str Int Int Int)×Unit=>m_cells_cut x.1 x.2.1) (fun x:Int=>kFr c.K x))) :
    FnOk P w c.K mg base (L2.CX P w) 4 f fd ["size","plan"] (spF c (fun x:(Int×Int)×(List (T3 Str Int (Int⊕(T4 Str Int Int Int))))×Unit=>m_replayed x.1 x.2.1) (fun x:(List (Int×Int))=>kNw c.K x)):=by
  obtain ⟨f_m_is_deed,fd_m_is_deed,g_m_is_deed,k_m_is_deed,b_m_is_deed,G_m_is_deed⟩:=C_m_is_deed.ex
  obtain ⟨f_m_all_of,fd_m_all_of,g_m_all_of,k_m_all_of,b_m_all_of,G_m_all_of⟩:=C_m_all_of.ex
  obtain ⟨f_m_cells_cut,fd_m_cells_cut,g_m_cells_cut,k_m_cells_cut,b_m_cells_cut,G_m_cells_cut⟩:=C_m_cells_cut.ex
  have nd:=sc_replayed.nd
  refine F.okX sc_replayed (fun vs H Q E h=>spF_len vs H Q E h) (fun cdv A outer s H vs Q E hr h=>?_)
  refine ⟨_,(pss_cons (ps_set (i:=2) nd rfl (by trivial) pe_dnewK) (pss_cons (ps_set (i:=3) nd rfl (by trivial) (pe_lst pa_nil)) (pss_cons (ps_set (i:=4) nd rfl (by trivial) (pe_op op_sub pe_int pe_int)) (pss_cons (ps_for (passes_of rfl) rfl (pi_enum (by rfl) T.b_enumerate (pa_cons (pv 1) pa_nil)) (pg_tup (by rfl) (pgs_cons (pg_name (i:=5) nd rfl (by trivial)) (pgs_cons (pg_name (i:=6) nd rfl (by trivial)) pgs_nil))) (pss_cons (ps_if (PW.pt (pw_or (pt_not (pt_val (pe_callS G_m_is_deed (hr.mono (by decide)) (by rfl) g_m_is_deed k_m_is_deed b_m_is_deed (fun σ=>passAt (takes_of rfl rfl rfl rfl) σ) (pa_cons (pv 0) (pa_cons (pv 6) pa_nil))))) (pw_or1 (PW.pt (pw_and (pt_cmpR op_eq (pe_ix (r:=rIxT c.K) ix_tup (pv 6) pe_int (fun _ _=>rfl)) pe_str (nomark _)) (pw_and1 (pt_cmpR op_le (pe_ix (r:=rIxT c.K) ix_tup (pv 6) pe_int (fun _ _=>rfl)) (pv 4) (nomark _)))))))) (pss_no _) pss_nil) (pss_cons (ps_set (i:=7) nd rfl (by trivial) (pe_dget2O (hu1 hr) (pv 2) (pe_ix (r:=rIxT c.K) ix_tup (pv 6) pe_int (fun _ _=>rfl)) (pe_callS G_m_all_of (hr.mono (by decide)) (by rfl) g_m_all_of k_m_all_of b_m_all_of (fun σ=>passAt (takes_of rfl rfl rfl rfl) σ) (pa_cons (pv 0) pa_nil)))) (pss_cons (ps_if (pt_cmpR op_eq (pe_ix (r:=rIxT c.K) ix_tup (pv 6) pe_int (fun _ _=>rfl)) pe_str (nomark _)) (pss_cons (ps_set (i:=4) nd rfl (by trivial) (pe_ix (r:=rIxT c.K) ix_tup (pv 6) pe_int (fun _ _=>rfl))) (pss_cons (ps_expr (pe_bm PySem.F.plainAttrs_list PySem.F.slot_list_append PySem.F.type_list_append mt_append (pv 3) (pa_cons (pe_tup (pa_cons (pv 4) (pa_cons (pv 7) pa_nil))) pa_nil))) pss_nil)) (pss_cons (ps_dput (hu1 hr) (pv 2) (pe_ix (r:=rIxT c.K) ix_tup (pv 6) pe_int (fun _ _=>rfl)) (pe_op op_and (pv 7) (pe_op op_xor (pe_callS G_m_all_of (hr.mono (by decide)) (by rfl) g_m_all_of k_m_all_of b_m_all_of (fun σ=>passAt (takes_of rfl rfl rfl rfl) σ) (pa_cons (pv 0) pa_nil)) (pe_callS G_m_cells_cut (hr.mono (by decide)) (by rfl) g_m_cells_cut k_m_cells_cut b_m_cells_cut (fun σ=>passAt (takes_of rfl rfl rfl rfl) σ) (pa_cons (pv 0) (pa_cons (pe_ix (r:=rIxT c.K) ix_tup (pv 6) pe_int (fun _ _=>rfl)) pa_nil))))) rfl) pss_nil)) pss_nil)))) (pss_cons (ps_ret (pv 3)) pss_nil))))),?_⟩
  have hm:∀ x:(Int×Int)×(List (T3 Str Int (Int⊕(T4 Str Int Int Int))))×Unit,(fun x:(Int×Int)×(List (T3 Str Int (Int⊕(T4 Str Int Int Int))))×Unit=>m_replayed x.1 x.2.1) x = (m_replayed_b x.1 x.2.1).run:=fun _=>by unfold m_replayed; rfl
  have hN:N_replayed.length = Args.num ((Int×Int)×(List (T3 Str Int (Int⊕(T4 Str Int Int Int))))×Unit) + 6:=rfl
  refine fn_run (Bs:=fun _=>uns 8) (n:=6) (m:=fun x=>m_replayed_b x.1 x.2.1) h ?hN ?hm ?hd
  case hN=>exact hN
  case hm=>exact hm
  intro W x
  obtain ⟨v_size,v_plan,⟨⟩⟩:=x
  show Den _ _ _ _ _ _ _ [(.fr v_size),(.fr v_plan),.un,.un,.un,.un,.un,.un] (m_replayed_b v_size v_plan) (fun _=>uns 8)
  unfold m_replayed_b
  exact (d_letN 2 (e_dnew rfl) fun v_wood_1=>(d_letN 3 e_nil fun v_prints_2=>(d_let 4 (e_op2 (o_int fun i j=>i - j) (e_int _) (e_int _) rfl) fun v_last_3=>(d_for (Bs:=(fun (s5:((Dk Int Int)×(List (Int×Int))×Int))=>[(.fr v_size),(.fr v_plan),(.ow none s5.1),(.ow none s5.2.1),(.fr s5.2.2),.un,.un,.un])) (wk_uns rfl) (i_enum (exr_p (e_var 1))) (.same (.same (.same (.same (.same (.same (.same (.same .nil)))))))) (fun _ _=>(g_tup2 5 6)) (fun s5 x6 B33=>(d_ifa (wk_uns rfl) (tr_or (tr_not (tr_B (r_call1 (aa_cons (e_var 0) (aa_cons (e_var 6) aa_nil)) rfl))) (tr_and (txr_p (t_e (e_op2 o_eq (e_ixc (x:=x6.2) p3_0 (e_var 6) (e_int _) rfl) (e_str _) rfl))) (tr_e (r_op2 (o_cmp fun i j=>decide (i ≤ j)) (r_getL (exr_p (e_ixc (x:=x6.2) p3_2 (e_var 6) (e_int _) rfl))) (exr_p (e_var 4)))))) d_no (d_get 7 (wk_uns rfl) (r_dget2 (exr_p (e_varD 2)) (exr_p (e_ixc (x:=x6.2) p3_1 (e_var 6) (e_int _) rfl)) (r_call1 (aa_cons (e_var 0) aa_nil) rfl)) fun v_there_13=>(d_ifp (Bs:=(fun (s14:((Dk Int Int)×(List (Int×Int))×Int))=>[(.fr v_size),(.fr v_plan),(.ow none s14.1),(.ow none s14.2.1),(.fr s14.2.2),(.fr x6.1),(.fr x6.2),(.fr v_there_13)])) (t_e (e_op2 o_eq (e_ixc (x:=x6.2) p3_0 (e_var 6) (e_int _) rfl) (e_str _) rfl)) (d_get 4 (wk_uns rfl) (r_getL (exr_p (e_ixc (x:=x6.2) p3_2 (e_var 6) (e_int _) rfl))) fun v_last_15=>(d_app 3 rfl (wk_uns rfl) (exr_p (e_pair (a_cons (e_var 4) (a_cons (e_var 7) a_nil)))) fun v_prints_16=>(d_nx (.same (.same (.same (.same (.same (.same (.same (.same .nil))))))))))) (d_dput 2 rfl (wk_uns rfl) (r_op2 (o_int Builtin.bitAnd) (exr_p (e_var 7)) (r_op2 (o_int Builtin.bitXor) (r_call1 (aa_cons (e_var 0) aa_nil) rfl) (r_call (aar_cons (exr_p (e_var 0)) (aar_cons (r_getR (exr_p (e_ixc (x:=x6.2) p3_2 (e_var 6) (e_int _) rfl))) aar_nil))))) (exr_p (e_ixc (x:=x6.2) p3_1 (e_var 6) (e_int _) rfl)) fun v_wood_27=>(d_nx (.same (.same (.same (.same (.same (.same (.same (.same .nil)))))))))) (fun s14=>(d_nx (.same (.same (.same (.same (.same (.drop (.drop (.drop .nil)))))))))))))) (fun s31=>(d_retO 3 rfl rfl))))))
theorem ok_m_replayed (T:Glb mg) (R0:Raw c.K mg "replayed" "replayed" s_replayed)
    (C_m_is_deed:Cal P w c.K mg base "is_deed" 3 ["size","thing"] (spF c (fun x:(Int×Int)×(T3 Str Int (Int⊕(T4 Str Int Int Int)))×Unit=>m_is_deed x.1 x.2.1) (fun x:Bool=>kFr c.K x)))
    (C_m_all_of:Cal P w c.K mg base "all_of" 1 ["size"] (spF c (fun x:(Int×Int)×Unit=>m_all_of x.1) (fun x:Int=>kFr c.K x)))
    (C_m_cells_cut:Cal P w c.K mg base "cells_cut" 2 ["size","stroke"] (spF c (fun x:(Int×Int)×(T4 Str Int Int Int)×Unit=>m_cells_cut x.1 x.2.1) (fun x:Int=>kFr c.K x))) :
    Cal P w c.K mg base "replayed" 4 ["size","plan"] (spF c (fun x:(Int×Int)×(List (T3 Str Int (Int⊕(T4 Str Int Int Int))))×Unit=>m_replayed x.1 x.2.1) (fun x:(List (Int×Int))=>kNw c.K x)):=by
  obtain ⟨f,fd,gf,F⟩:=R0.ex
  exact ⟨f,fd,gf,F.kp,F.binds fun _ _ _ _ _ _ us hl=>match us,hl with | [_,_],_=>rfl,ok_m_replayed_F T F C_m_is_deed C_m_all_of C_m_cells_cut⟩
theorem ok_m_law_F (T:Glb mg) {f:Addr} {fd:FuncData} (F:Fun c.K "law" "law" s_law f fd)
    (C_m_size:Cal P w c.K mg base "_law_size" 2 ["_law_cell_here"] (spF c (fun x:Int×Unit=>m_size x.1) (fun x:(Int×Int)=>kFr c.K x)))
    (C_m_cell:Cal P w c.K mg base "_law_cell" 1 ["_law_script","_law_k"] (spF c (fun x:(Sq Int)×Int×Unit=>m_cell x.1 x.2.1) (fun x:Int=>kFr c.K x)))
    (C_m_plan:Cal P w c.K mg base "_law_plan" 2 ["_law_script","_law_size_here","_law_start","_law_last"] (spF c (fun x:(Sq Int)×(Int×Int)×Int×Int×Unit=>m_plan x.1 x.2.1 x.2.2.1 x.2.2.2.1) (fun x:(List (T3 Str Int (Int⊕(T4 Str Int Int Int))))=>kNw c.K x)))
    (C_m_cells:Cal P w c.K mg base "_law_cells" 1 ["_law_stroke_here"] (spF c (fun x:(T4 Str Int Int Int)×Unit=>m_cells x.1) (fun x:(List (Ky (Int×Int)))=>kNw c.K x)))
    (C_m_replayed:Cal P w c.K mg base "replayed" 4 ["size","plan"] (spF c (fun x:(Int×Int)×(List (T3 Str Int (Int⊕(T4 Str Int Int Int))))×Unit=>m_replayed x.1 x.2.1) (fun x:(List (Int×Int))=>kNw c.K x))) :
    FnOk P w c.K mg base (L2.CX P w) 5 f fd ["_law_script"] (spF c (fun x:(Sq Int)×Unit=>m_law x.1) (fun x:Bool=>kFr c.K x)):=by
  obtain ⟨f_m_size,fd_m_size,g_m_size,k_m_size,b_m_size,G_m_size⟩:=C_m_size.ex
  obtain ⟨f_m_cell,fd_m_cell,g_m_cell,k_m_cell,b_m_cell,G_m_cell⟩:=C_m_cell.ex
  obtain ⟨f_m_plan,fd_m_plan,g_m_plan,k_m_plan,b_m_plan,G_m_plan⟩:=C_m_plan.ex
  obtain ⟨f_m_cells,fd_m_cells,g_m_cells,k_m_cells,b_m_cells,G_m_cells⟩:=C_m_cells.ex
  obtain ⟨f_m_replayed,fd_m_replayed,g_m_replayed,k_m_replayed,b_m_replayed,G_m_replayed⟩:=C_m_replayed.ex
  have nd:=sc_law.nd
  refine F.okX sc_law (fun vs H Q E h=>spF_len vs H Q E h) (fun cdv A outer s H vs Q E hr h=>?_)
  refine ⟨_,(pss_cons (ps_set (i:=1) nd rfl (by trivial) (pe_callS G_m_size (hr.mono (by decide)) (by rfl) g_m_size k_m_size b_m_size (fun σ=>passAt (takes_of rfl rfl rfl rfl) σ) (pa_cons (pe_callS G_m_cell (hr.mono (by decide)) (by rfl) g_m_cell k_m_cell b_m_cell (fun σ=>passAt (takes_of rfl rfl rfl rfl) σ) (pa_cons (pv 0) (pa_cons pe_int pa_nil))) pa_nil))) (pss_cons (ps_set (i:=2) nd rfl (by trivial) (pe_callS G_m_plan (hr.mono (by decide)) (by rfl) g_m_plan k_m_plan b_m_plan (fun σ=>passAt (takes_of rfl rfl rfl rfl) σ) (pa_cons (pv 0) (pa_cons (pv 1) (pa_cons pe_int (pa_cons pe_int pa_nil)))))) (pss_cons (ps_set (i:=3) nd rfl (by trivial) pe_dnewK) (pss_cons (ps_set (i:=4) nd rfl (by trivial) (pe_lst pa_nil)) (pss_cons (ps_for (passes_of rfl) rfl (pi_list (pv 2)) (pg_name (i:=5) nd rfl (by trivial)) (pss_cons (ps_set (i:=6) nd rfl (by trivial) (pe_dsetG (hu1 hr) (pv 3) (pe_ix (r:=rIxT c.K) ix_tup (pv 5) pe_int (fun _ _=>rfl)) pe_dnewT ⟨by rfl,by rfl,by rfl,by rfl⟩)) (pss_cons (ps_if (pt_cmpR op_eq (pe_ix (r:=rIxT c.K) ix_tup (pv 5) pe_int (fun _ _=>rfl)) pe_str (nomark _)) (pss_cons (ps_for (passes_of rfl) rfl (pi_list (pe_callS G_m_cells (hr.mono (by decide)) (by rfl) g_m_cells k_m_cells b_m_cells (fun σ=>passAt (takes_of rfl rfl rfl rfl) σ) (pa_cons (pe_ix (r:=rIxT c.K) ix_tup (pv 5) pe_int (fun _ _=>rfl)) pa_nil))) (pg_name (i:=7) nd rfl (by trivial)) (pss_cons (ps_dput (hu1 hr) (pv 6) (pv 7) pe_bl rfl) pss_nil)) pss_nil) (pss_cons (ps_set (i:=8) nd rfl (by trivial) pe_int) (pss_cons (ps_for (passes_of rfl) rfl (pi_range1 (by rfl) T.b_range (pa_cons (pe_ix (r:=rIxT c.K) ix_tup (pv 1) pe_int (fun _ _=>rfl)) pa_nil)) (pg_name (i:=9) nd rfl (by trivial)) (pss_cons (ps_for (passes_of rfl) rfl (pi_range1 (by rfl) T.b_range (pa_cons (pe_ix (r:=rIxT c.K) ix_tup (pv 1) pe_int (fun _ _=>rfl)) pa_nil)) (pg_name (i:=10) nd rfl (by trivial)) (pss_cons (ps_if (pt_cmp (pc_dniO (hu1 hr) (pe_tup (pa_cons (pv 10) (pa_cons (pv 9) pa_nil))) (pv 6))) (pss_cons (ps_set (i:=8) nd rfl (by trivial) (pe_op op_or (pv 8) (pe_op op_shl pe_int (pe_op op_add (pe_op op_mul (pv 9) (pe_ix (r:=rIxT c.K) ix_tup (pv 1) pe_int (fun _ _=>rfl))) (pv 10))))) pss_nil) pss_nil) pss_nil)) pss_nil)) (pss_cons (ps_expr (pe_bm PySem.F.plainAttrs_list PySem.F.slot_list_append PySem.F.type_list_append mt_append (pv 4) (pa_cons (pe_tup (pa_cons (pe_ix (r:=rIxT c.K) ix_tup (pv 5) pe_int (fun _ _=>rfl)) (pa_cons (pv 8) pa_nil))) pa_nil))) pss_nil)))) pss_nil))) (pss_cons (ps_set (i:=11) nd rfl (by trivial) (pe_callTy call_list_of (by rfl) T.b_list (by decide +kernel) (pa_cons (pv 2) pa_nil))) (pss_cons (ps_set (i:=12) nd rfl (by trivial) (pe_callS G_m_replayed (hr.mono (by decide)) (by rfl) g_m_replayed k_m_replayed b_m_replayed (fun σ=>passAt (takes_of rfl rfl rfl rfl) σ) (pa_cons (pv 1) (pa_cons (pv 11) pa_nil)))) (pss_cons (ps_if (PW.pt (pw_or (pt_not (pt_val (pe_callB (r:=rIsi c.K) call_isi (by rfl) T.b_isinstance (by decide +kernel) (pa_cons (pv 12) (pa_cons (pe_bltn (v:=.ty "list") (by rfl) T.b_list (by decide +kernel) rfl) pa_nil))))) (pw_or (pt_cmpR (r:=rNeD c.K) (op_neD (hu64 hr)) (pv 12) (pv 4) (nomark _)) (pw_or1 (pt_cmpR (r:=rNeD c.K) (op_neD (hu64 hr)) (pv 11) (pv 2) (nomark _)))))) (pss_cons (ps_ret pe_bl) pss_nil) pss_nil) (pss_cons (ps_for (passes_of rfl) rfl (pi_list (pv 12)) (pg_name (i:=13) nd rfl (by trivial)) (pss_cons (ps_if (PW.pt (pw_or (pt_not (pt_val (pe_callB (r:=rIsi c.K) call_isi (by rfl) T.b_isinstance (by decide +kernel) (pa_cons (pv 13) (pa_cons (pe_bltn (v:=.ty "tuple") (by rfl) T.b_tuple (by decide +kernel) rfl) pa_nil))))) (pw_or1 (pt_cmpR op_ne (pe_callB (r:=Fw.rLen c.K) call_len_seq (by rfl) T.b_len (by decide +kernel) (pa_cons (pv 13) pa_nil)) pe_int (nomark _))))) (pss_cons (ps_ret pe_bl) pss_nil) pss_nil) pss_nil)) (pss_cons (ps_expr (pe_bm PySem.F.plainAttrs_list PySem.F.slot_list_append PySem.F.type_list_append mt_append (pv 12) (pa_cons (pe_tup (pa_cons pe_int (pa_cons pe_int pa_nil))) pa_nil))) (pss_cons (ps_ret (pe_and (pe_cmpR (r:=rEqD c.K) (op_eqD (hu64 hr)) (pe_callS G_m_replayed (hr.mono (by decide)) (by rfl) g_m_replayed k_m_replayed b_m_replayed (fun σ=>passAt (takes_of rfl rfl rfl rfl) σ) (pa_cons (pv 1) (pa_cons (pv 11) pa_nil))) (pv 4) (nomark _)) (pe_one (pe_cmpR (r:=rEqD c.K) (op_eqD (hu64 hr)) (pe_callS G_m_replayed (hr.mono (by decide)) (by rfl) g_m_replayed k_m_replayed b_m_replayed (fun σ=>passAt (takes_of rfl rfl rfl rfl) σ) (pa_cons (pv 1) (pa_cons (pe_lst pa_nil) pa_nil))) (pe_lst pa_nil) (nomark _))))) pss_nil))))))))))),?_⟩
  have hm:∀ x:(Sq Int)×Unit,(fun x:(Sq Int)×Unit=>m_law x.1) x = (m_law_b x.1).run:=fun _=>by unfold m_law; rfl
  have hN:N_law.length = Args.num ((Sq Int)×Unit) + 13:=rfl
  refine fn_run (Bs:=fun _=>uns 14) (n:=13) (m:=fun x=>m_law_b x.1) h ?hN ?hm ?hd
  case hN=>exact hN
  case hm=>exact hm
  intro W x
  obtain ⟨v_script,⟨⟩⟩:=x
  show Den _ _ _ _ _ _ _ [(.fr v_script),.un,.un,.un,.un,.un,.un,.un,.un,.un,.un,.un,.un,.un] (m_law_b v_script) (fun _=>uns 14)
  unfold m_law_b
  exact (d_get 1 (wk_uns rfl) (r_call (aar_cons (r_call1 (aa_cons (e_var 0) (aa_cons (e_int _) aa_nil)) rfl) aar_nil)) fun v_size_here_4=>(d_get 2 (wk_uns rfl) (r_fz (r_call1 (aa_cons (e_var 0) (aa_cons (e_var 1) (aa_cons (e_int _) (aa_cons (e_int _) aa_nil)))) rfl)) fun v_plan_here_5=>(d_letN 3 (e_ddnew rfl) fun v_lost_6=>(d_letN 4 e_nil fun v_due_7=>(d_for (Bs:=(fun (s8:((DDk Int (Ky (Int×Int)) Bool)×(List (Int×Int))))=>[(.fr v_script),(.fr v_size_here_4),(.fr v_plan_here_5),(.ow none s8.1),(.ow none s8.2),.un,.un,.un,.un,.un,.un,.un,.un,.un])) (wk_uns rfl) (i_list (exr_p (e_var 2))) (.same (.same (.same (.same (.same (.same (.same (.same (.same (.same (.same (.same (.same (.same .nil)))))))))))))) (fun _ _=>(g_name 5)) (fun s8 x9 B76=>(d_sdIn (kk:=fun (k10:Int) (v_lost_11:(DDk Int (Ky (Int×Int)) Bool)) (v_gone_13:(Dk (Ky (Int×Int)) Bool))=>
  (Out.bind (if (decide (x9.a = ("cut":Str))) then (R.to ((((R.ok x9.c).bind R.getR).bind fun t16=>(R.ok ()).bind fun t17=>(R.ok (t16,t17))).bind fun z18=>m_cells z18.1) fun l25=>Out.bind (forL l25 v_gone_13 (fun (s19:(Dk (Ky (Int×Int)) Bool)) (x20:(Ky (Int×Int)))=>
   (R.to (R.ok true) fun t22=>R.to (R.ok x20) fun t23=>R.to (R.dput s19 t23 t22) fun (v_gone_21:(Dk (Ky (Int×Int)) Bool))=>
  (.nx v_gone_21)))) fun (s24:(Dk (Ky (Int×Int)) Bool))=>
  (.nx (s8.2,s24))) else (lt (0:Int) fun (v_there_27:Int)=>
  (R.to ((R.ok v_size_here_4.2).bind fun t28=>R.rng 0 t28) fun l55=>Out.bind (forL l55 v_there_27 (fun (s29:Int) (x30:Int)=>
   (R.to ((R.ok v_size_here_4.1).bind fun t31=>R.rng 0 t31) fun l45=>Out.bind (forL l45 s29 (fun (s32:Int) (x33:Int)=>
   (Out.bind (if (!(dval v_gone_13.l (Ky.mk (x33,x30))).isSome) then (R.to ((R.ok s32).bind fun t41=>((R.ok (1:Int)).bind fun t39=>(((R.ok x30).bind fun t35=>(R.ok v_size_here_4.1).bind fun t36=>(R.mul t35 t36)).bind fun t37=>(R.ok x33).bind fun t38=>(R.ok (t37 + t38))).bind fun t40=>(R.shl t39 t40)).bind fun t42=>(R.ok (Builtin.bitOr t41 t42))) fun (v_there_43:Int)=>
  (.nx v_there_43)) else (.nx s32)) fun (s34:Int)=>
  (.nx s34)))) fun (s44:Int)=>
  (.nx s44)))) fun (s47:Int)=>
  (R.to ((((R.ok x9.c).bind R.getL).bind fun t50=>((R.ok s47).bind fun t48=>(R.ok ()).bind fun t49=>(R.ok (t48,t49))).bind fun t51=>(R.ok (t50,t51))).bind fun z52=>(R.ok (z52.1,z52.2.1))) fun t54=>R.to (R.app s8.2 t54) fun (v_due_53:(List (Int×Int)))=>
  (.nx (v_due_53,v_gone_13)))))) fun (s14:((List (Int×Int))×(Dk (Ky (Int×Int)) Bool)))=>
  (lt (DDk.mk (Fw.dput v_lost_11.l k10 s14.2.l)) fun (v_lost_15:(DDk Int (Ky (Int×Int)) Bool))=>(.nx (v_lost_15,s14.1))))) 3 6 rfl (Nat.le_of_ble_eq_true rfl) (by decide) (wk_uns rfl) (exr_p (e_ixc (x:=x9) p3_1 (e_var 5) (e_int _) rfl)) (e_dnew rfl) fun v_lost_11 k10 b12 v_gone_13=>(d_ifp (Bs:=(fun (s14:((List (Int×Int))×(Dk (Ky (Int×Int)) Bool)))=>[(.fr v_script),(.fr v_size_here_4),(.fr v_plan_here_5),(.ow none (DDh.mk v_lost_11.l k10 b12)),(.ow none s14.1),(.fr x9),(.ow (some (.ref b12)) s14.2),.un,.un,.un,.un,.un,.un,.un])) (t_e (e_op2 o_eq (e_ixc (x:=x9) p3_0 (e_var 5) (e_int _) rfl) (e_str _) rfl)) (d_for (Bs:=(fun (s19:(Dk (Ky (Int×Int)) Bool))=>[(.fr v_script),(.fr v_size_here_4),(.fr v_plan_here_5),(.ow none (DDh.mk v_lost_11.l k10 b12)),(.ow none s8.2),(.fr x9),(.ow (some (.ref b12)) s19),.un,.un,.un,.un,.un,.un,.un])) (wk_uns rfl) (i_list (r_fz (r_call (aar_cons (r_getR (exr_p (e_ixc (x:=x9) p3_2 (e_var 5) (e_int _) rfl))) aar_nil)))) (.same (.same (.same (.same (.same (.same (.same (.same (.same (.same (.same (.same (.same (.same .nil)))))))))))))) (fun _ _=>(g_name 7)) (fun s19 x20 B26=>(d_dput 6 rfl (wk_uns rfl) (exr_p (e_bl _)) (exr_p (e_var 7)) fun v_gone_21=>(d_nx (.same (.same (.same (.same (.same (.same (.same (.drop (.same (.same (.same (.same (.same (.same .nil))))))))))))))))) (fun s24=>(d_nx (.same (.same (.same (.same (.same (.same (.same (.same (.same (.same (.same (.same (.same (.same .nil))))))))))))))))) (d_let 8 (e_int _) fun v_there_27=>(d_for (Bs:=(fun (s29:Int)=>[(.fr v_script),(.fr v_size_here_4),(.fr v_plan_here_5),(.ow none (DDh.mk v_lost_11.l k10 b12)),(.ow none s8.2),(.fr x9),(.ow (some (.ref b12)) v_gone_13),.un,(.fr s29),.un,.un,.un,.un,.un])) (wk_uns rfl) (i_rng1 (exr_p (e_ixc (x:=v_size_here_4) p_1 (e_var 1) (e_int _) rfl))) (.same (.same (.same (.same (.same (.same (.same (.same (.same (.same (.same (.same (.same (.same .nil)))))))))))))) (fun _ _=>(g_name 9)) (fun s29 x30 B56=>(d_for (Bs:=(fun (s32:Int)=>[(.fr v_script),(.fr v_size_here_4),(.fr v_plan_here_5),(.ow none (DDh.mk v_lost_11.l k10 b12)),(.ow none s8.2),(.fr x9),(.ow (some (.ref b12)) v_gone_13),.un,(.fr s32),(.fr x30),.un,.un,.un,.un])) (wk_uns rfl) (i_rng1 (exr_p (e_ixc (x:=v_size_here_4) p_0 (e_var 1) (e_int _) rfl))) (.same (.same (.same (.same (.same (.same (.same (.same (.same (.same (.same (.same (.same (.same .nil)))))))))))))) (fun _ _=>(g_name 10)) (fun s32 x33 B46=>(d_ifp (Bs:=(fun (s34:Int)=>[(.fr v_script),(.fr v_size_here_4),(.fr v_plan_here_5),(.ow none (DDh.mk v_lost_11.l k10 b12)),(.ow none s8.2),(.fr x9),(.ow (some (.ref b12)) v_gone_13),.un,(.fr s34),(.fr x30),(.fr x33),.un,.un,.un])) (t_B (e_op2 o_dni (e_kyP (a_cons (e_var 10) (a_cons (e_var 9) a_nil))) (e_varD 6) rfl)) (d_get 8 (wk_uns rfl) (r_op2 (o_int Builtin.bitOr) (exr_p (e_var 8)) (r_op2 o_shl (exr_p (e_int _)) (r_op2 (o_int fun i j=>i + j) (r_op2 o_mul (exr_p (e_var 9)) (exr_p (e_ixc (x:=v_size_here_4) p_0 (e_var 1) (e_int _) rfl))) (exr_p (e_var 10))))) fun v_there_43=>(d_nx (.same (.same (.same (.same (.same (.same (.same (.same (.same (.same (.same (.same (.same (.same .nil)))))))))))))))) (d_nx (.same (.same (.same (.same (.same (.same (.same (.same (.same (.same (.same (.same (.same (.same .nil))))))))))))))) (fun s34=>(d_nx (.same (.same (.same (.same (.same (.same (.same (.same (.same (.same (.drop (.same (.same (.same .nil)))))))))))))))))) (fun s44=>(d_nx (.same (.same (.same (.same (.same (.same (.same (.same (.same (.drop (.same (.same (.same (.same .nil)))))))))))))))))) (fun s47=>(d_app 4 rfl (wk_uns rfl) (r_pair (ar_cons (k:=fun (x:Int)=>kFr c.K x) (r_getL (exr_p (e_ixc (x:=x9) p3_2 (e_var 5) (e_int _) rfl))) (ar_cons (k:=fun (x:Int)=>kFr c.K x) (exr_p (e_var 8)) (axr_p (k:=fun _=>aNil) a_nil)))) fun v_due_53=>(d_nx (.same (.same (.same (.same (.same (.same (.same (.same (.drop (.same (.same (.same (.same (.same .nil))))))))))))))))))) (fun s14=>(d_joinIn 3 6 rfl rfl (by decide) fun v_lost_15=>(d_nx (.same (.same (.same (.same (.same (.drop (.same (.same (.same (.same (.same (.same (.same (.same .nil)))))))))))))))))))) (fun s60=>(d_let 11 (e_fz (e_opA (x:=(v_plan_here_5,())) o_list (a_cons (e_sh (e_var 2)) a_nil) rfl)) fun v_handed_61=>(d_getN 12 (wk_uns rfl) (r_call1 (aa_cons (e_var 1) (aa_cons (e_var 11) aa_nil)) rfl) fun v_found_62=>(d_ifap (t_or (t_not (t_B (e_opA (x:=(v_found_62,())) (o_isiB (α:=(List (Int×Int))) (b:=true) (by decide +kernel)) (a_cons (e_varB 12) (a_cons (e_ty "list") a_nil)) rfl))) (t_or (t_e (e_op2 (o_neB (α:=(List (Int×Int)))) (e_varB 12) (e_varB 4) rfl)) (t_e (e_op2 (o_neB (α:=(List (T3 Str Int (Int⊕(T4 Str Int Int Int)))))) (e_bw (e_var 11)) (e_bw (e_var 2)) rfl)))) (d_ret (e_bl _)) (d_forO (Bs:=fun pv63=>(fun (s64:Unit)=>[(.fr v_script),(.fr v_size_here_4),(.fr v_plan_here_5),(.ow none s60.1),(.ow none s60.2),.un,.un,.un,.un,.un,.un,(.fr v_handed_61),(.ow (some pv63) v_found_62),.un])) 12 rfl (fun _ _=>rfl) (fun pv63=>(.same (.same (.same (.same (.same (.same (.same (.same (.same (.same (.same (.same (.same (.same .nil))))))))))))))) (fun _ _ _=>(g_name 13)) (fun pv63 s64 x65 B74=>(d_ifap (t_or (t_not (t_B (e_opA (x:=(x65,())) (o_isiB (α:=(Int×Int)) (b:=true) (by decide +kernel)) (a_cons (e_bw (e_var 13)) (a_cons (e_ty "tuple") a_nil)) rfl))) (t_e (e_op2 o_ne (e_opA (x:=(x65,())) o_len2 (a_cons (e_var 13) a_nil) rfl) (e_int _) rfl))) (d_ret (e_bl _)) (d_nx (.same (.same (.same (.same (.same (.same (.same (.same (.same (.same (.same (.same (.same (.drop .nil))))))))))))))))) (fun pv63 s66=>d_unpin 12 rfl (d_app 12 rfl (wk_uns rfl) (exr_p (e_pair (a_cons (e_int _) (a_cons (e_int _) a_nil)))) fun v_found_67=>(d_retR (wk_uns rfl) (r_andV (r_op2 (o_eqB (α:=(List (Int×Int)))) (r_bwN (r_call1 (aa_cons (e_var 1) (aa_cons (e_var 11) aa_nil)) rfl)) (exr_p (e_varB 4))) (r_op2 (o_eqB (α:=(List (Int×Int)))) (r_bwN (r_call1 (aa_cons (e_var 1) (aa_cons (e_fz e_nil) aa_nil)) rfl)) (exr_p (e_bwN e_nil)))))))))))))))))
theorem ok_m_law (T:Glb mg) (R0:Raw c.K mg "law" "law" s_law)
    (C_m_size:Cal P w c.K mg base "_law_size" 2 ["_law_cell_here"] (spF c (fun x:Int×Unit=>m_size x.1) (fun x:(Int×Int)=>kFr c.K x)))
    (C_m_cell:Cal P w c.K mg base "_law_cell" 1 ["_law_script","_law_k"] (spF c (fun x:(Sq Int)×Int×Unit=>m_cell x.1 x.2.1) (fun x:Int=>kFr c.K x)))
    (C_m_plan:Cal P w c.K mg base "_law_plan" 2 ["_law_script","_law_size_here","_law_start","_law_last"] (spF c (fun x:(Sq Int)×(Int×Int)×Int×Int×Unit=>m_plan x.1 x.2.1 x.2.2.1 x.2.2.2.1) (fun x:(List (T3 Str Int (Int⊕(T4 Str Int Int Int))))=>kNw c.K x)))
    (C_m_cells:Cal P w c.K mg base "_law_cells" 1 ["_law_stroke_here"] (spF c (fun x:(T4 Str Int Int Int)×Unit=>m_cells x.1) (fun x:(List (Ky (Int×Int)))=>kNw c.K x)))
    (C_m_replayed:Cal P w c.K mg base "replayed" 4 ["size","plan"] (spF c (fun x:(Int×Int)×(List (T3 Str Int (Int⊕(T4 Str Int Int Int))))×Unit=>m_replayed x.1 x.2.1) (fun x:(List (Int×Int))=>kNw c.K x))) :
    Cal P w c.K mg base "law" 5 ["_law_script"] (spF c (fun x:(Sq Int)×Unit=>m_law x.1) (fun x:Bool=>kFr c.K x)):=by
  obtain ⟨f,fd,gf,F⟩:=R0.ex
  exact ⟨f,fd,gf,F.kp,F.binds fun _ _ _ _ _ _ us hl=>match us,hl with | [_],_=>rfl,ok_m_law_F T F C_m_size C_m_cell C_m_plan C_m_cells C_m_replayed⟩
end
theorem all_mk {l:PySem.W.OpenLaw} {w:World} {K:PySem.W.Frag} {h:Heap} {mg:Str→Option Value} {fa:Addr} (X:K.In h) (G:h.Ns mainGlobals mg) (hfa:mg "law" = some (.ref fa))
    {od0 an0:Option Addr} {sl0:Array (Option Value)} {oc0 kV0 dc0 pm0 cd0 ct0:Value} {f0:Addr}
    {od1 an1:Option Addr} {sl1:Array (Option Value)} {oc1 kV1 dc1 pm1 cd1 ct1:Value} {f1:Addr}
    {od2 an2:Option Addr} {sl2:Array (Option Value)} {oc2 kV2 dc2 pm2 cd2 ct2:Value} {f2:Addr}
    {od3 an3:Option Addr} {sl3:Array (Option Value)} {oc3 kV3 dc3 pm3 cd3 ct3:Value} {f3:Addr}
    {od4 an4:Option Addr} {sl4:Array (Option Value)} {oc4 kV4 dc4 pm4 cd4 ct4:Value} {f4:Addr}
    {od5 an5:Option Addr} {sl5:Array (Option Value)} {oc5 kV5 dc5 pm5 cd5 ct5:Value} {f5:Addr}
    {od6 an6:Option Addr} {sl6:Array (Option Value)} {oc6 kV6 dc6 pm6 cd6 ct6:Value} {f6:Addr}
    {od7 an7:Option Addr} {sl7:Array (Option Value)} {oc7 kV7 dc7 pm7 cd7 ct7:Value} {f7:Addr}
    {od8 an8:Option Addr} {sl8:Array (Option Value)} {oc8 kV8 dc8 pm8 cd8 ct8:Value} {f8:Addr}
    {od9 an9:Option Addr} {sl9:Array (Option Value)} {oc9 kV9 dc9 pm9 cd9 ct9:Value} {f9:Addr}
    {od10 an10:Option Addr} {sl10:Array (Option Value)} {oc10 kV10 dc10 pm10 cd10 ct10:Value} {f10:Addr}
    {od11 an11:Option Addr} {sl11:Array (Option Value)} {oc11 kV11 dc11 pm11 cd11 ct11:Value} {f11:Addr}
    {od12 an12:Option Addr} {sl12:Array (Option Value)} {oc12 kV12 dc12 pm12 cd12 ct12:Value} {f12:Addr}
    {od13 an13:Option Addr} {sl13:Array (Option Value)} {oc13 kV13 dc13 pm13 cd13 ct13:Value} {f13:Addr}
    {od14 an14:Option Addr} {sl14:Array (Option Value)} {oc14 kV14 dc14 pm14 cd14 ct14:Value} {f14:Addr}
    (hb_bool:PySem.W.nsIn K mainGlobals "bool" = some none)
    (hb_enumerate:PySem.W.nsIn K mainGlobals "enumerate" = some none)
    (hb_int:PySem.W.nsIn K mainGlobals "int" = some none)
    (hb_isinstance:PySem.W.nsIn K mainGlobals "isinstance" = some none)
    (hb_len:PySem.W.nsIn K mainGlobals "len" = some none)
    (hb_list:PySem.W.nsIn K mainGlobals "list" = some none)
    (hb_max:PySem.W.nsIn K mainGlobals "max" = some none)
    (hb_min:PySem.W.nsIn K mainGlobals "min" = some none)
    (hb_range:PySem.W.nsIn K mainGlobals "range" = some none)
    (hb_tuple:PySem.W.nsIn K mainGlobals "tuple" = some none)
    (a0:PySem.W.nsIn K mainGlobals "_law_cell" = some (some (.ref f0))) (l0:K.lookup f0 = some ⟨oc0,od0,.func (PySem.W.fnOf "_law_cell" "_law_cell" (defArgs s_cell) (defBody s_cell) (defScope s_cell) .none kV0 dc0 pm0 an0 cd0 ct0),sl0⟩) (c0:PySem.W.codeIn K cd0 "_law_cell" = true) (k0:PySem.W.keepIn K (.ref f0) = true)
    (a1:PySem.W.nsIn K mainGlobals "_law_mixed" = some (some (.ref f1))) (l1:K.lookup f1 = some ⟨oc1,od1,.func (PySem.W.fnOf "_law_mixed" "_law_mixed" (defArgs s_mixed) (defBody s_mixed) (defScope s_mixed) .none kV1 dc1 pm1 an1 cd1 ct1),sl1⟩) (c1:PySem.W.codeIn K cd1 "_law_mixed" = true) (k1:PySem.W.keepIn K (.ref f1) = true)
    (a2:PySem.W.nsIn K mainGlobals "_law_size" = some (some (.ref f2))) (l2:K.lookup f2 = some ⟨oc2,od2,.func (PySem.W.fnOf "_law_size" "_law_size" (defArgs s_size) (defBody s_size) (defScope s_size) .none kV2 dc2 pm2 an2 cd2 ct2),sl2⟩) (c2:PySem.W.codeIn K cd2 "_law_size" = true) (k2:PySem.W.keepIn K (.ref f2) = true)
    (a3:PySem.W.nsIn K mainGlobals "_law_stroke" = some (some (.ref f3))) (l3:K.lookup f3 = some ⟨oc3,od3,.func (PySem.W.fnOf "_law_stroke" "_law_stroke" (defArgs s_stroke) (defBody s_stroke) (defScope s_stroke) .none kV3 dc3 pm3 an3 cd3 ct3),sl3⟩) (c3:PySem.W.codeIn K cd3 "_law_stroke" = true) (k3:PySem.W.keepIn K (.ref f3) = true)
    (a4:PySem.W.nsIn K mainGlobals "_law_plan" = some (some (.ref f4))) (l4:K.lookup f4 = some ⟨oc4,od4,.func (PySem.W.fnOf "_law_plan" "_law_plan" (defArgs s_plan) (defBody s_plan) (defScope s_plan) .none kV4 dc4 pm4 an4 cd4 ct4),sl4⟩) (c4:PySem.W.codeIn K cd4 "_law_plan" = true) (k4:PySem.W.keepIn K (.ref f4) = true)
    (a5:PySem.W.nsIn K mainGlobals "_law_cells" = some (some (.ref f5))) (l5:K.lookup f5 = some ⟨oc5,od5,.func (PySem.W.fnOf "_law_cells" "_law_cells" (defArgs s_cells) (defBody s_cells) (defScope s_cells) .none kV5 dc5 pm5 an5 cd5 ct5),sl5⟩) (c5:PySem.W.codeIn K cd5 "_law_cells" = true) (k5:PySem.W.keepIn K (.ref f5) = true)
    (a6:PySem.W.nsIn K mainGlobals "is_number_plans" = some (some (.ref f6))) (l6:K.lookup f6 = some ⟨oc6,od6,.func (PySem.W.fnOf "is_number" "is_number" (defArgs s_is_number_plans) (defBody s_is_number_plans) (defScope s_is_number_plans) .none kV6 dc6 pm6 an6 cd6 ct6),sl6⟩) (c6:PySem.W.codeIn K cd6 "is_number" = true) (k6:PySem.W.keepIn K (.ref f6) = true)
    (a7:PySem.W.nsIn K mainGlobals "is_number_strokes" = some (some (.ref f7))) (l7:K.lookup f7 = some ⟨oc7,od7,.func (PySem.W.fnOf "is_number" "is_number" (defArgs s_is_number_strokes) (defBody s_is_number_strokes) (defScope s_is_number_strokes) .none kV7 dc7 pm7 an7 cd7 ct7),sl7⟩) (c7:PySem.W.codeIn K cd7 "is_number" = true) (k7:PySem.W.keepIn K (.ref f7) = true)
    (a8:PySem.W.nsIn K mainGlobals "lies_on" = some (some (.ref f8))) (l8:K.lookup f8 = some ⟨oc8,od8,.func (PySem.W.fnOf "lies_on" "lies_on" (defArgs s_lies_on) (defBody s_lies_on) (defScope s_lies_on) .none kV8 dc8 pm8 an8 cd8 ct8),sl8⟩) (c8:PySem.W.codeIn K cd8 "lies_on" = true) (k8:PySem.W.keepIn K (.ref f8) = true)
    (a9:PySem.W.nsIn K mainGlobals "is_deed" = some (some (.ref f9))) (l9:K.lookup f9 = some ⟨oc9,od9,.func (PySem.W.fnOf "is_deed" "is_deed" (defArgs s_is_deed) (defBody s_is_deed) (defScope s_is_deed) .none kV9 dc9 pm9 an9 cd9 ct9),sl9⟩) (c9:PySem.W.codeIn K cd9 "is_deed" = true) (k9:PySem.W.keepIn K (.ref f9) = true)
    (a10:PySem.W.nsIn K mainGlobals "all_of" = some (some (.ref f10))) (l10:K.lookup f10 = some ⟨oc10,od10,.func (PySem.W.fnOf "all_of" "all_of" (defArgs s_all_of) (defBody s_all_of) (defScope s_all_of) .none kV10 dc10 pm10 an10 cd10 ct10),sl10⟩) (c10:PySem.W.codeIn K cd10 "all_of" = true) (k10:PySem.W.keepIn K (.ref f10) = true)
    (a11:PySem.W.nsIn K mainGlobals "set_of" = some (some (.ref f11))) (l11:K.lookup f11 = some ⟨oc11,od11,.func (PySem.W.fnOf "set_of" "set_of" (defArgs s_set_of) (defBody s_set_of) (defScope s_set_of) .none kV11 dc11 pm11 an11 cd11 ct11),sl11⟩) (c11:PySem.W.codeIn K cd11 "set_of" = true) (k11:PySem.W.keepIn K (.ref f11) = true)
    (a12:PySem.W.nsIn K mainGlobals "cells_cut" = some (some (.ref f12))) (l12:K.lookup f12 = some ⟨oc12,od12,.func (PySem.W.fnOf "cells_cut" "cells_cut" (defArgs s_cells_cut) (defBody s_cells_cut) (defScope s_cells_cut) .none kV12 dc12 pm12 an12 cd12 ct12),sl12⟩) (c12:PySem.W.codeIn K cd12 "cells_cut" = true) (k12:PySem.W.keepIn K (.ref f12) = true)
    (a13:PySem.W.nsIn K mainGlobals "replayed" = some (some (.ref f13))) (l13:K.lookup f13 = some ⟨oc13,od13,.func (PySem.W.fnOf "replayed" "replayed" (defArgs s_replayed) (defBody s_replayed) (defScope s_replayed) .none kV13 dc13 pm13 an13 cd13 ct13),sl13⟩) (c13:PySem.W.codeIn K cd13 "replayed" = true) (k13:PySem.W.keepIn K (.ref f13) = true)
    (a14:PySem.W.nsIn K mainGlobals "law" = some (some (.ref f14))) (l14:K.lookup f14 = some ⟨oc14,od14,.func (PySem.W.fnOf "law" "law" (defArgs s_law) (defBody s_law) (defScope s_law) .none kV14 dc14 pm14 an14 cd14 ct14),sl14⟩) (c14:PySem.W.codeIn K cd14 "law" = true) (k14:PySem.W.keepIn K (.ref f14) = true) :
    ∃ fd:FuncData,(∀ (s:Shared) (v:Value),BindsTo s fd ⟨[v],[]⟩ [("_law_script",v)]) ∧ ∀ base:Heap,K.In base→base.Ns mainGlobals mg→FnOk l.prog w K mg base (L2.CX l.prog w) 5 fa fd ["_law_script"] (spF ⟨K,mK K⟩ (fun x:Sq Int×Unit=>m_law x.1) (fun x:Bool=>kFr K x)):=by
  have R_cell:Raw K mg "_law_cell" "_law_cell" s_cell:=⟨_,_,PySem.W.mg_of X G a0,fun_mk (st:=s_cell) l0 c0 k0⟩
  have R_mixed:Raw K mg "_law_mixed" "_law_mixed" s_mixed:=⟨_,_,PySem.W.mg_of X G a1,fun_mk (st:=s_mixed) l1 c1 k1⟩
  have R_size:Raw K mg "_law_size" "_law_size" s_size:=⟨_,_,PySem.W.mg_of X G a2,fun_mk (st:=s_size) l2 c2 k2⟩
  have R_stroke:Raw K mg "_law_stroke" "_law_stroke" s_stroke:=⟨_,_,PySem.W.mg_of X G a3,fun_mk (st:=s_stroke) l3 c3 k3⟩
  have R_plan:Raw K mg "_law_plan" "_law_plan" s_plan:=⟨_,_,PySem.W.mg_of X G a4,fun_mk (st:=s_plan) l4 c4 k4⟩
  have R_cells:Raw K mg "_law_cells" "_law_cells" s_cells:=⟨_,_,PySem.W.mg_of X G a5,fun_mk (st:=s_cells) l5 c5 k5⟩
  have R_is_number_plans:Raw K mg "is_number_plans" "is_number" s_is_number_plans:=⟨_,_,PySem.W.mg_of X G a6,fun_mk (st:=s_is_number_plans) l6 c6 k6⟩
  have R_is_number_strokes:Raw K mg "is_number_strokes" "is_number" s_is_number_strokes:=⟨_,_,PySem.W.mg_of X G a7,fun_mk (st:=s_is_number_strokes) l7 c7 k7⟩
  have R_lies_on:Raw K mg "lies_on" "lies_on" s_lies_on:=⟨_,_,PySem.W.mg_of X G a8,fun_mk (st:=s_lies_on) l8 c8 k8⟩
  have R_is_deed:Raw K mg "is_deed" "is_deed" s_is_deed:=⟨_,_,PySem.W.mg_of X G a9,fun_mk (st:=s_is_deed) l9 c9 k9⟩
  have R_all_of:Raw K mg "all_of" "all_of" s_all_of:=⟨_,_,PySem.W.mg_of X G a10,fun_mk (st:=s_all_of) l10 c10 k10⟩
  have R_set_of:Raw K mg "set_of" "set_of" s_set_of:=⟨_,_,PySem.W.mg_of X G a11,fun_mk (st:=s_set_of) l11 c11 k11⟩
  have R_cells_cut:Raw K mg "cells_cut" "cells_cut" s_cells_cut:=⟨_,_,PySem.W.mg_of X G a12,fun_mk (st:=s_cells_cut) l12 c12 k12⟩
  have R_replayed:Raw K mg "replayed" "replayed" s_replayed:=⟨_,_,PySem.W.mg_of X G a13,fun_mk (st:=s_replayed) l13 c13 k13⟩
  have R_law:Raw K mg "law" "law" s_law:=⟨_,_,PySem.W.mg_of X G a14,fun_mk (st:=s_law) l14 c14 k14⟩
  have T:Glb mg:=⟨PySem.W.mg_none_of X G hb_bool,PySem.W.mg_none_of X G hb_enumerate,PySem.W.mg_none_of X G hb_int,PySem.W.mg_none_of X G hb_isinstance,PySem.W.mg_none_of X G hb_len,PySem.W.mg_none_of X G hb_list,PySem.W.mg_none_of X G hb_max,PySem.W.mg_none_of X G hb_min,PySem.W.mg_none_of X G hb_range,PySem.W.mg_none_of X G hb_tuple⟩
  have e:=hfa.symm.trans (PySem.W.mg_of X G a14)
  cases e
  have FL:=fun_mk (st:=s_law) l14 c14 k14
  refine ⟨PySem.W.fnOf "law" "law" (defArgs s_law) (defBody s_law) (defScope s_law) .none kV14 dc14 pm14 an14 cd14 ct14,fun s v=>.of_eq rfl,fun base _ _=>?_⟩
  have C_m_cell:=ok_m_cell (P:=l.prog) (w:=w) (c:=⟨K,mK K⟩) (base:=base) T R_cell 
  have C_m_mixed:=ok_m_mixed (P:=l.prog) (w:=w) (c:=⟨K,mK K⟩) (base:=base) T R_mixed 
  have C_m_size:=ok_m_size (P:=l.prog) (w:=w) (c:=⟨K,mK K⟩) (base:=base) T R_size C_m_mixed
  have C_m_stroke:=ok_m_stroke (P:=l.prog) (w:=w) (c:=⟨K,mK K⟩) (base:=base) T R_stroke 
  have C_m_plan:=ok_m_plan (P:=l.prog) (w:=w) (c:=⟨K,mK K⟩) (base:=base) T R_plan C_m_mixed C_m_cell C_m_stroke
  have C_m_cells:=ok_m_cells (P:=l.prog) (w:=w) (c:=⟨K,mK K⟩) (base:=base) T R_cells 
  have C_m_is_number_plans:=ok_m_is_number_plans (P:=l.prog) (w:=w) (c:=⟨K,mK K⟩) (base:=base) T R_is_number_plans 
  have C_m_is_number_strokes:=ok_m_is_number_strokes (P:=l.prog) (w:=w) (c:=⟨K,mK K⟩) (base:=base) T R_is_number_strokes 
  have C_m_lies_on:=ok_m_lies_on (P:=l.prog) (w:=w) (c:=⟨K,mK K⟩) (base:=base) T R_lies_on C_m_is_number_strokes
  have C_m_is_deed:=ok_m_is_deed (P:=l.prog) (w:=w) (c:=⟨K,mK K⟩) (base:=base) T R_is_deed C_m_is_number_plans C_m_lies_on
  have C_m_all_of:=ok_m_all_of (P:=l.prog) (w:=w) (c:=⟨K,mK K⟩) (base:=base) T R_all_of 
  have C_m_set_of:=ok_m_set_of (P:=l.prog) (w:=w) (c:=⟨K,mK K⟩) (base:=base) T R_set_of 
  have C_m_cells_cut:=ok_m_cells_cut (P:=l.prog) (w:=w) (c:=⟨K,mK K⟩) (base:=base) T R_cells_cut C_m_set_of
  have C_m_replayed:=ok_m_replayed (P:=l.prog) (w:=w) (c:=⟨K,mK K⟩) (base:=base) T R_replayed C_m_is_deed C_m_all_of C_m_cells_cut
  exact ok_m_law_F T FL C_m_size C_m_cell C_m_plan C_m_cells C_m_replayed
end Wk

open PySem PySem.W PySem.Calls PyProof.Rows
set_option maxRecDepth 100000 in
set_option maxHeartbeats 0 in
theorem PySem.Challenge.cw_lostblock_k33_replayed_holds : PySem.Challenge.rw_lostblock_k33_replayed.Holds := by
  w_on; o_law
  refine HandSHeadRun.head_any (r := Hd.R) (q := Hd.q) (H := kHook Hd.z.heap_1 Hd.as0 Hd.ek) (ob := Hd.ob) (M := 2074) (loose := Hd.names) (d := HandSHeadRun.topDef Hd.R.prog 23) (kwd := []) Hd.ob_eq (by kernel_rfl) (fun s => by kernel_rfl) Hd.run (by kernel_rfl) (by kernel_rfl) (by kernel_rfl) (by rfl) (by first | assumption | decide +kernel) (by decide +kernel) ⟨rfl, rfl, rfl, rfl, rfl, by decide +kernel⟩ ?hw ?hc
  case hw => w_witness2
  case hc =>
    k_fill
    refine Fw.walk_lawM (l := PySem.Challenge.rw_lostblock_k33_replayed) (k := 5) (x := "_law_script") (f := Mir.m_law) Ma.law_true rfl rfl ⟨rfl, by decide, by decide⟩ (fun w h Y => PySem.W.kIn_of Y) ?F
    case F =>
      intro w mg fa h KX G hmg
      refine' Wk.all_mk KX G hmg ?x0 ?x1 ?x2 ?x3 ?x4 ?x5 ?x6 ?x7 ?x8 ?x9 ?x10 ?x11 ?x12 ?x13 ?x14 ?x15 ?x16 ?x17 ?x18 ?x19 ?x20 ?x21 ?x22 ?x23 ?x24 ?x25 ?x26 ?x27 ?x28 ?x29 ?x30 ?x31 ?x32 ?x33 ?x34 ?x35 ?x36 ?x37 ?x38 ?x39 ?x40 ?x41 ?x42 ?x43 ?x44 ?x45 ?x46 ?x47 ?x48 ?x49 ?x50 ?x51 ?x52 ?x53 ?x54 ?x55 ?x56 ?x57 ?x58 ?x59 ?x60 ?x61 ?x62 ?x63 ?x64 ?x65 ?x66 ?x67 ?x68 ?x69
      (case x0 => k_is)
      (case x1 => k_is)
      (case x2 => k_is)
      (case x3 => k_is)
      (case x4 => k_is)
      (case x5 => k_is)
      (case x6 => k_is)
      (case x7 => k_is)
      (case x8 => k_is)
      (case x9 => k_is)
      (case x10 => k_is)
      (case x11 => k_is)
      (case x12 => k_is)
      (case x13 => k_is)
      (case x14 => k_is)
      (case x15 => k_is)
      (case x16 => k_is)
      (case x17 => k_is)
      (case x18 => k_is)
      (case x19 => k_is)
      (case x20 => k_is)
      (case x21 => k_is)
      (case x22 => k_is)
      (case x23 => k_is)
      (case x24 => k_is)
      (case x25 => k_is)
      (case x26 => k_is)
      (case x27 => k_is)
      (case x28 => k_is)
      (case x29 => k_is)
      (case x30 => k_is)
      (case x31 => k_is)
      (case x32 => k_is)
      (case x33 => k_is)
      (case x34 => k_is)
      (case x35 => k_is)
      (case x36 => k_is)
      (case x37 => k_is)
      (case x38 => k_is)
      (case x39 => k_is)
      (case x40 => k_is)
      (case x41 => k_is)
      (case x42 => k_is)
      (case x43 => k_is)
      (case x44 => k_is)
      (case x45 => k_is)
      (case x46 => k_is)
      (case x47 => k_is)
      (case x48 => k_is)
      (case x49 => k_is)
      (case x50 => k_is)
      (case x51 => k_is)
      (case x52 => k_is)
      (case x53 => k_is)
      (case x54 => k_is)
      (case x55 => k_is)
      (case x56 => k_is)
      (case x57 => k_is)
      (case x58 => k_is)
      (case x59 => k_is)
      (case x60 => k_is)
      (case x61 => k_is)
      (case x62 => k_is)
      (case x63 => k_is)
      (case x64 => k_is)
      (case x65 => k_is)
      (case x66 => k_is)
      (case x67 => k_is)
      (case x68 => k_is)
      (case x69 => k_is)
#print axioms PySem.Challenge.cw_lostblock_k33_replayed_holds
