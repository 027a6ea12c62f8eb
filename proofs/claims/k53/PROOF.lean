import PyProof.Rows.All
import Wide.All
import OpenK.AllK
import Wide.FinOn
import HandS.ForMost
import HandS.Evl
import HandS.ForExc
import HandS.CallSlots
import HandS.Wide
import HandS.TupLe
import HandS.Zip
import HandS.IsInst
import HandS.TupAny
import HandS.Deep
import PyProof.StrOps2
import PyProof.AttrMissHeap
import PyProof.TupleIter
import HandS.Replace
import HandS.Dict
import HandS.RevRange
import HandS.Iter
import HandS.ExcInit
import HandS.ExcIs
import HandS.ExcField
import HandS.WordsExc
import KE.SortKeyHeap
import HandS.More
import HandS.SortKw
import HandS.Keys
import HandS.SetFor
import HandS.Strs
import PyProof.Rows.SortShellAny
import HandS.WordsDict
import HandS.WideBits
import HandS.Conv
import HandS.ListItems
import HandS.SetKeys
import HandS.SortRule
import PyProof.DictMoreH
import HandS.TryOnly
import KE.DataCmp
import PyProof.FactsAll.dict
import HandS.ExcOwn
import PyProof.ExcBaseAll.ValueError
import KE.KDictZip
import KE.GoesEnum
import HandS.Finally
import PyProof.SumWalkG
import PyProof.EqKinds
import KE.KIndexOf
import HandS.DictEq
import HandS.OwnEq
import HandS.TryMany
import HandS.RaiseMore
import HandS.ReplaceLit
import KE.KDictCopyH
import HandS.Head2
import PySem.Challenge.RW_lostblock_k53_names_of_a_shop
set_option Elab.async false
set_option linter.all false
set_option maxRecDepth 100000
set_option synthInstance.maxSize 4000
set_option maxHeartbeats 8000000
namespace Hd
open PySem PySem.W PySem.Calls PyProof.Rows
abbrev R : OpenRow := OpenLaw.row PySem.Challenge.rw_lostblock_k53_names_of_a_shop
section
local macro_rules | `(tactic| o_head $H) => `(tactic| assumption)
set_option maxHeartbeats 0 in
theorem z (z : R.Holds) : R.Holds := by k_head
end
noncomputable section
def q : Program := view R.prog [45]
def n0 : List PySem.Str := [("_wall" : PySem.Str), ("__name__" : PySem.Str), ("BlockError" : PySem.Str), ("NoName" : PySem.Str), ("Twice" : PySem.Str), ("Order" : PySem.Str), ("Wrong" : PySem.Str), ("NoStroke" : PySem.Str), ("all_of" : PySem.Str), ("within" : PySem.Str), ("laid" : PySem.Str), ("colour_of" : PySem.Str), ("stack_at" : PySem.Str), ("pressed" : PySem.Str), ("links_of" : PySem.Str), ("Pairing" : PySem.Str), ("sources" : PySem.Str), ("LETTERS" : PySem.Str), ("LONGEST" : PySem.Str), ("is_word" : PySem.Str), ("Shop" : PySem.Str), ("_law_cell_at" : PySem.Str), ("_law_pool" : PySem.Str), ("_law_take" : PySem.Str), ("_law_word" : PySem.Str), ("_law_bench" : PySem.Str), ("_law_size" : PySem.Str), ("_law_states" : PySem.Str), ("_law_cells" : PySem.Str), ("_law_colour" : PySem.Str)]
def n1 : List PySem.Str := [("_law_picture" : PySem.Str), ("_law_gone" : PySem.Str), ("_law_full" : PySem.Str), ("_law_kind" : PySem.Str), ("_law_due" : PySem.Str), ("_law_done" : PySem.Str), ("_law_told" : PySem.Str), ("_law_stands" : PySem.Str)]
def names : List PySem.Str := n0 ++ (n1)
def a0 : List Addr := [2, 3, 15, 17, 18, 20, 21, 22, 29, 30, 31, 32, 35, 42, 43, 44, 47, 54, 55, 56, 59, 66, 67, 68, 71, 78, 80, 81, 83, 84, 85, 86, 87, 90, 97, 98, 99, 102, 104, 105, 107, 108, 109, 111, 112, 114, 115, 116, 118, 119, 121, 122, 123, 125, 126, 128, 129, 130, 133, 134, 135, 137, 138, 140, 141, 142, 145, 146, 154, 156, 157, 159, 160, 161, 163, 164, 166, 167, 168, 170, 171, 173, 174, 175, 176, 177, 178, 179, 182, 184, 185, 187, 188, 189, 191, 192, 194, 195, 203, 205, 206, 208, 209, 210, 212, 213, 215, 216, 217, 219]
def a1 : List Addr := [220, 222, 223, 224, 226, 227, 229, 230, 231, 233, 234, 236, 237, 238, 240, 241, 243, 244, 245, 247, 248, 250, 251, 252, 254, 255, 257, 258, 259, 261, 262, 264, 265, 266, 268, 269, 271, 272, 273, 275, 276, 278, 279, 280, 282, 283, 285, 286, 287, 289, 290, 292, 293, 294, 297, 298, 299, 301, 302, 304, 305, 306, 309, 310, 311, 312, 313, 314, 315, 318, 320, 321, 323, 324, 325, 327, 328, 330, 331, 332, 334, 335, 337, 338, 339, 341, 342, 344, 345, 346, 348, 349, 351, 352, 353, 355, 356, 358, 359, 374, 377, 378, 379, 382, 383, 391, 393, 394, 396, 397]
def a2 : List Addr := [398, 400, 401, 403, 404, 405, 408, 409, 410, 412, 413, 415, 416, 417, 419, 420, 422, 423, 424, 426, 427, 429, 430, 431, 434, 435]
def as0 : List Addr := a0 ++ (a1 ++ (a2
))theorem ek (P : Params) : as0 = (z.heap_1 P).map (·.1) := by kernel_rfl
abbrev E (w : World) (os : OsState) := HandSHeadRun.endF (HandSHeadRun.stepQ (HandSHeadRun.denQ HandSHeadRun.tabQ) R.prog w) 6632 R.prog w os
theorem two {α β γ : Type} {o : Option α} {f : α → β} {g : α → γ} {x : β} {y : γ} (h1 : o.map f = some x) (h2 : o.map g = some y) : o.map (fun s => (f s, g s)) = some (x, y) := by
  cases o with
  | none => cases h1
  | some a => cases h1; cases h2; rfl
theorem app {α β : Type} {o : Option α} {f g : α → List β} {x y : List β} (h1 : o.map f = some x) (h2 : o.map g = some y) : o.map (fun s => f s ++ g s) = some (x ++ y) := by
  cases o with
  | none => cases h1
  | some a => cases h1; cases h2; rfl
set_option maxHeartbeats 0 in
theorem r1 (w : World) (os : OsState) : (E w os).map (fun s => HandSHeadRun.looksF R.prog (boot_heap w.params) s.abs) = some true := by kernel_rfl
set_option maxHeartbeats 0 in
theorem r2 (w : World) (os : OsState) : (E w os).map (fun s => HandSHeadRun.seenQ q names (importedModules R.prog.main.body) (fun s => xlAt q [] s && recOk R.toRowW.records s) s.abs) = some (openGood q names) := by kernel_rfl
set_option maxHeartbeats 0 in
theorem o0 (w : World) (os : OsState) : (E w os).map (fun s => a0.map (HandSHeadRun.getT s)) = some ((((z.heap_1 w.params).drop 0).take 110).map fun p => some p.2) := by kernel_rfl
set_option maxHeartbeats 0 in
theorem o1 (w : World) (os : OsState) : (E w os).map (fun s => a1.map (HandSHeadRun.getT s)) = some ((((z.heap_1 w.params).drop 110).take 110).map fun p => some p.2) := by kernel_rfl
set_option maxHeartbeats 0 in
theorem o2 (w : World) (os : OsState) : (E w os).map (fun s => a2.map (HandSHeadRun.getT s)) = some ((((z.heap_1 w.params).drop 220).take 26).map fun p => some p.2) := by kernel_rfl
def ob (s : SharedT) : List (Option Obj) := as0.map (HandSHeadRun.getT s)
theorem ob_eq (s : SharedT) : ob s = (kHook z.heap_1 as0 ek).obs s.abs := List.map_congr_left fun a _ => HandSHeadRun.getT_eq s a
theorem ob_s (s : SharedT) : ob s = a0.map (HandSHeadRun.getT s) ++ (a1.map (HandSHeadRun.getT s) ++ (a2.map (HandSHeadRun.getT s))) := by
  unfold ob as0
  simp only [List.map_append]
theorem val_s (w : World) : ((z.heap_1 w.params).map fun p => some p.2) = ((((z.heap_1 w.params).drop 0).take 110).map fun p => some p.2) ++ (((((z.heap_1 w.params).drop 110).take 110).map fun p => some p.2) ++ (((((z.heap_1 w.params).drop 220).take 26).map fun p => some p.2))) := by kernel_rfl
theorem run (w : World) : HandSHeadRun.RunEq R q (kHook z.heap_1 as0 ek) ob 6632 names w := by
  intro os
  refine two (r1 w os) (two (r2 w os) ?_)
  show (E w os).map ob = some ((z.heap_1 w.params).map fun p => some p.2)
  rw [show ob = _ from funext ob_s, val_s]
  exact (app (o0 w os) (app (o1 w os) (o2 w os)))
end
end Hd
namespace Fw
open PySem L2
abbrev Frag := PySem.W.Frag
def Inc (G H : Hp) : Prop := ∀ a o, G a = some o → H a = some o
theorem Inc.refl (H : Hp) : Inc H H := fun _ _ h => h
theorem Inc.trans {H H1 H2 : Hp} (a : Inc H H1) (b : Inc H1 H2) : Inc H H2 := fun x o h => b x o (a x o h)
theorem Inc.nope {G H : Hp} (s : Inc G H) {a : Addr} (h : H a = none) : G a = none := by
  cases e : G a with
  | none => rfl
  | some o => rw [s a o e] at h; cases h
theorem Inc.new {G : Hp} {a : Addr} {o : HO} (h : G a = none) : Inc G (upd G a o) := fun b u e => by
  rw [upd_ne (ne_of_none e h)]; exact e
theorem Inc.mut {G H : Hp} {a : Addr} {o : HO} (s : Inc G H) (h : G a = none) : Inc G (upd H a o) := fun b u e => by
  rw [upd_ne (ne_of_none e h)]; exact s b u e
theorem Inc.both {G H : Hp} {a : Addr} {o : HO} (s : Inc G H) : Inc (upd G a o) (upd H a o) := fun b u e => by
  by_cases q : b = a
  · subst q; rw [upd_same] at e ⊢; exact e
  · rw [upd_ne q] at e ⊢; exact s b u e
theorem Inc.rd {G H : Hp} {a : Addr} {u : HO} (e : Inc G H) (h : Rd G a u) : Rd H a u := by
  rcases h with h | ⟨o, h⟩
  · exact .inl (e a _ h)
  · exact .inr ⟨o, e a _ h⟩
theorem Inc.sql {K : Frag} {G H : Hp} {a : Addr} {xs : List V} (e : Inc G H) (h : SqL K G a xs) : SqL K H a xs := by
  rcases h with h | h
  · exact .inl (e.rd h)
  · exact .inr h
theorem Inc.sqt {K : Frag} {G H : Hp} {a : Addr} {xs : List V} (e : Inc G H) (h : SqT K G a xs) : SqT K H a xs := by
  rcases h with h | h
  · exact .inl (e.rd h)
  · exact .inr h
/-- what never changes -/
def imm : HO → Bool
  | .tup _ => true
  | .frz _ _ => true
  | .xd _ => true
  | .own _ => true
  | _ => false
/-- a world: what is frozen for good, and all that is tracked; what never changes is frozen -/
structure Wd where
  G : Hp
  H : Hp
  sub : Inc G H
  im : ∀ a u, H a = some u → imm u = true → G a = some u
theorem im_upd {G H : Hp} {p : Addr} {o : HO} (im : ∀ a u, H a = some u → imm u = true → G a = some u) (hi : imm o = false) : ∀ a u, upd H p o a = some u → imm u = true → G a = some u := fun a u h i => by
  by_cases q : a = p
  · subst q
    rw [upd_same] at h
    cases h
    rw [hi] at i; cases i
  · rw [upd_ne q] at h
    exact im a u h i
theorem im_both {G H : Hp} {p : Addr} {o : HO} (im : ∀ a u, H a = some u → imm u = true → G a = some u) : ∀ a u, upd H p o a = some u → imm u = true → upd G p o a = some u := fun a u h i => by
  by_cases q : a = p
  · subst q
    rw [upd_same] at h ⊢
    exact h
  · rw [upd_ne q] at h ⊢
    exact im a u h i
/-- all is frozen -/
def Wd.all (H : Hp) : Wd := ⟨H, H, fun _ _ h => h, fun _ _ h _ => h⟩
structure Le (W W' : Wd) : Prop where
  g : Inc W.G W'.G
  h : Inc W.H W'.H
  o : ∀ a, W.G a = none → W.H a ≠ none → W'.G a = none
theorem Le.refl (W : Wd) : Le W W := ⟨Inc.refl _, Inc.refl _, fun _ h _ => h⟩
theorem Le.trans {A B C : Wd} (x : Le A B) (y : Le B C) : Le A C := ⟨x.g.trans y.g, x.h.trans y.h, fun a h n => by
  refine y.o a (x.o a h n) fun q => ?_
  exact n (x.h.nope q)⟩
/-- a new frozen thing | a new owned thing -/
def Wd.nf (W : Wd) (p : Addr) (o : HO) : Wd := ⟨upd W.G p o, upd W.H p o, W.sub.both, im_both W.im⟩
def Wd.no (W : Wd) (p : Addr) (o : HO) (h : W.H p = none) (hi : imm o = false := by rfl) : Wd := ⟨W.G, upd W.H p o, W.sub.mut (W.sub.nope h), im_upd W.im hi⟩
def Wd.mt (W : Wd) (p : Addr) (o : HO) (h : W.G p = none) (hi : imm o = false := by rfl) : Wd := ⟨W.G, upd W.H p o, W.sub.mut h, im_upd W.im hi⟩
theorem Le.nf {W : Wd} {p : Addr} {o : HO} (h : W.H p = none) : Le W (W.nf p o) :=
  ⟨Inc.new (W.sub.nope h), Inc.new h, fun a g n => by
    show upd W.G p o a = none
    rw [upd_ne (fun q => n (by rw [q]; exact h))]; exact g⟩
theorem Le.no {W : Wd} {p : Addr} {o : HO} (h : W.H p = none) {hi : imm o = false} : Le W (W.no p o h hi) :=
  ⟨Inc.refl _, Inc.new h, fun a g n => g⟩
theorem Le.mt {W W' : Wd} {p : Addr} {o : HO} (e : Le W W') (h : W'.G p = none) (n : W.H p = none) {hi : imm o = false} : Le W (W'.mt p o h hi) :=
  ⟨e.g, fun b u q => by
    show upd W'.H p o b = _
    rw [upd_ne (ne_of_none q n)]; exact e.h b u q, fun a g n => e.o a g n⟩
theorem Le.fr {W W' : Wd} {p : Addr} (e : Le W W') (h : W'.H p = none) : W.H p = none := e.h.nope h
/-- an owned thing is frozen -/
def Wd.fz (W : Wd) (f : List Addr) : Wd := ⟨fun a => if a ∈ f then W.H a else W.G a, W.H, fun a o e => by
  dsimp only at e
  by_cases q : a ∈ f
  · rw [if_pos q] at e; exact e
  · rw [if_neg q] at e; exact W.sub a o e, fun a u h i => by
  show (if a ∈ f then W.H a else W.G a) = some u
  by_cases q : a ∈ f
  · rw [if_pos q]; exact h
  · rw [if_neg q]; exact W.im a u h i⟩
theorem Wd.fz_in {W : Wd} {f : List Addr} {a : Addr} (h : a ∈ f) : (W.fz f).G a = W.H a := if_pos h
theorem Wd.fz_ni {W : Wd} {f : List Addr} {a : Addr} (h : a ∉ f) : (W.fz f).G a = W.G a := if_neg h
theorem Wd.fz_sub {W : Wd} {f : List Addr} : Inc W.G (W.fz f).G := fun a o e => by
  by_cases q : a ∈ f
  · rw [Wd.fz_in q]; exact W.sub a o e
  · rw [Wd.fz_ni q]; exact e
theorem Le.fz {W W' : Wd} {f : List Addr} (e : Le W W') (h : ∀ a ∈ f, W.H a = none) : Le W (W'.fz f) :=
  ⟨e.g.trans Wd.fz_sub, e.h, fun a g n => by
    rw [Wd.fz_ni (fun q => n (h a q))]; exact e.o a g n⟩

/-! ### mirror values and what represents them -/
class Rp (α : Type) where
  rep : Frag → α → V → Hp → Prop
  mono : ∀ {K : Frag} {x : α} {v : V} {G H : Hp}, Inc G H → rep K x v G → rep K x v H
class Ob (α : Type) where
  own : Frag → α → V → List Addr → Wd → Prop
  keep : ∀ {K : Frag} {x : α} {v : V} {f : List Addr} {W W' : Wd}, own K x v f W → Inc W.G W'.G → (∀ a ∈ f, W'.G a = none) → (∀ a ∈ f, W'.H a = W.H a) → own K x v f W'
  foot : ∀ {K : Frag} {x : α} {v : V} {f : List Addr} {W : Wd}, own K x v f W → ∀ a ∈ f, W.G a = none ∧ W.H a ≠ none
class Fz (α : Type) extends Rp α, Ob α where
  fz : ∀ {K : Frag} {x : α} {v : V} {f : List Addr} {W : Wd}, own K x v f W → rep K x v (W.fz f).G

instance : Rp Int := ⟨fun _ x v _ => v = .int x, fun _ h => h⟩
instance : Rp Bool := ⟨fun _ x v _ => v = .bl x, fun _ h => h⟩
def SOk (x : Str) : Prop := x.length ≤ sizeLine ∧ x.cps.all (· < 0x110000) = true
instance : Rp Str := ⟨fun _ x v _ => v = .str x ∧ SOk x, fun _ h => h⟩
instance : Rp Unit := ⟨fun _ _ v _ => v = .non, fun _ h => h⟩
/-- values of which the heap says nothing -/
class Sc (α : Type) extends Rp α where
  any : ∀ {K : Frag} {x : α} {v : V} {G H : Hp}, rep K x v G → rep K x v H
  nn : ∀ {K : Frag} {x : α} {v : V} {G : Hp}, rep K x v G → ∃ u : V, v = u
instance : Sc Int := ⟨fun h => h, fun _ => ⟨_, rfl⟩⟩
instance : Sc Bool := ⟨fun h => h, fun _ => ⟨_, rfl⟩⟩
instance : Sc Str := ⟨fun h => h, fun _ => ⟨_, rfl⟩⟩
instance : Sc Unit := ⟨fun h => h, fun _ => ⟨_, rfl⟩⟩
/-- place by place -/
def Al {α : Type} (P : α → V → Prop) (xs : List α) (vs : List V) : Prop := xs.length = vs.length ∧ ∀ (i : Nat) x v, xs[i]? = some x → vs[i]? = some v → P x v
section
variable {α β : Type} {P Q : α → V → Prop} {xs ys : List α} {vs ws : List V} {x : α} {v : V}
theorem Al.imp (h : Al P xs vs) (k : ∀ x v, P x v → Q x v) : Al Q xs vs := ⟨h.1, fun i x v a b => k x v (h.2 i x v a b)⟩
theorem Al.nil : Al P [] [] := ⟨rfl, fun i x v a _ => by simp at a⟩
theorem Al.one (h : P x v) : Al P [x] [v] := ⟨rfl, fun i y w a b => by
  cases i with
  | zero => cases a; cases b; exact h
  | succ i => simp at a⟩
theorem Al.cons (h : P x v) (t : Al P xs vs) : Al P (x :: xs) (v :: vs) := ⟨by simp [t.1], fun i y w a b => by
  cases i with
  | zero => cases a; cases b; exact h
  | succ i => exact t.2 i y w a b⟩
theorem Al.app (h : Al P xs vs) (t : Al P ys ws) : Al P (xs ++ ys) (vs ++ ws) := ⟨by simp [h.1, t.1], fun i y w a b => by
  by_cases q : i < xs.length
  · rw [List.getElem?_append_left q] at a
    rw [List.getElem?_append_left (h.1 ▸ q)] at b
    exact h.2 i y w a b
  · rw [List.getElem?_append_right (by omega)] at a
    rw [List.getElem?_append_right (by have := h.1; omega)] at b
    rw [← h.1] at b
    exact t.2 _ y w a b⟩
theorem Al.get {i : Nat} (h : Al P xs vs) (a : xs[i]? = some x) : ∃ v, vs[i]? = some v ∧ P x v := by
  have hi : i < vs.length := h.1 ▸ (List.getElem?_eq_some_iff.mp a).1
  exact ⟨vs[i], List.getElem?_eq_getElem hi, h.2 i x _ a (List.getElem?_eq_getElem hi)⟩
theorem Al.set (h : Al P xs vs) (r : P x v) (i : Nat) : Al P (xs.set i x) (vs.set i v) := ⟨by simp [h.1], fun j y w a b => by
  rw [List.getElem?_set] at a b
  by_cases q : i = j
  · subst q
    simp only [if_true] at a b
    split at a
    · rename_i c
      rw [if_pos (h.1 ▸ c)] at b
      cases a; cases b; exact r
    · cases a
  · rw [if_neg q] at a b
    exact h.2 j y w a b⟩
theorem Al.take (h : Al P xs vs) (n : Nat) : Al P (xs.take n) (vs.take n) := ⟨by simp [h.1], fun i y w a b => by
  rw [List.getElem?_take] at a b
  split at a
  · rename_i c; rw [if_pos c] at b; exact h.2 i y w a b
  · cases a⟩
theorem Al.drop (h : Al P xs vs) (n : Nat) : Al P (xs.drop n) (vs.drop n) := ⟨by simp [h.1], fun i y w a b => by
  rw [List.getElem?_drop] at a b
  exact h.2 _ y w a b⟩
end
section
variable {α β γ δ : Type} [Rp α] [Rp β] [Rp γ] [Rp δ]
def repL (K : Frag) (xs : List α) (v : V) (G : Hp) : Prop := ∃ p vs, v = .ref p ∧ G p = some (.lst vs) ∧ Al (fun x v => Rp.rep K x v G) xs vs ∧ xs.length ≤ sizeLine
instance : Rp (List α) := ⟨repL, fun s ⟨p, vs, e, h, a, l⟩ => ⟨p, vs, e, s _ _ h, a.imp fun _ _ r => Rp.mono s r, l⟩⟩
instance : Rp (α × β) := ⟨fun K x v G => ∃ p a b, v = .ref p ∧ SqT K G p [a, b] ∧ Rp.rep K x.1 a G ∧ Rp.rep K x.2 b G, fun s ⟨p, a, b, e, h, r1, r2⟩ => ⟨p, a, b, e, s.sqt h, Rp.mono s r1, Rp.mono s r2⟩⟩
end
/-- a list that is only read: the script, what is written -/
structure Sq (α : Type) where
  l : List α
deriving DecidableEq
/-- a tuple of any length, of one kind -/
structure Tup (α : Type) where
  l : List α
deriving DecidableEq
structure T3 (α β γ : Type) where
  a : α
  b : β
  c : γ
deriving DecidableEq
structure T4 (α β γ δ : Type) where
  a : α
  b : β
  c : γ
  d : δ
deriving DecidableEq
section
variable {α β γ δ : Type} [Rp α] [Rp β] [Rp γ] [Rp δ]
instance : Rp (Sq α) := ⟨fun K xs v G => ∃ p vs, v = .ref p ∧ SqL K G p vs ∧ Al (fun x v => Rp.rep K x v G) xs.l vs ∧ xs.l.length ≤ sizeLine, fun s ⟨p, vs, e, h, a, l⟩ => ⟨p, vs, e, s.sql h, a.imp fun _ _ r => Rp.mono s r, l⟩⟩
instance : Rp (Tup α) := ⟨fun K xs v G => ∃ p vs, v = .ref p ∧ SqT K G p vs ∧ Al (fun x v => Rp.rep K x v G) xs.l vs ∧ xs.l.length ≤ sizeLine, fun s ⟨p, vs, e, h, a, l⟩ => ⟨p, vs, e, s.sqt h, a.imp fun _ _ r => Rp.mono s r, l⟩⟩
instance : Rp (T3 α β γ) := ⟨fun K x v G => ∃ p a b c, v = .ref p ∧ SqT K G p [a, b, c] ∧ Rp.rep K x.a a G ∧ Rp.rep K x.b b G ∧ Rp.rep K x.c c G,
  fun s ⟨p, a, b, c, e, h, r1, r2, r3⟩ => ⟨p, a, b, c, e, s.sqt h, Rp.mono s r1, Rp.mono s r2, Rp.mono s r3⟩⟩
instance : Rp (T4 α β γ δ) := ⟨fun K x v G => ∃ p a b c d, v = .ref p ∧ SqT K G p [a, b, c, d] ∧ Rp.rep K x.a a G ∧ Rp.rep K x.b b G ∧ Rp.rep K x.c c G ∧ Rp.rep K x.d d G,
  fun s ⟨p, a, b, c, d, e, h, r1, r2, r3, r4⟩ => ⟨p, a, b, c, d, e, s.sqt h, Rp.mono s r1, Rp.mono s r2, Rp.mono s r3, Rp.mono s r4⟩⟩
instance : Rp (Option α) := ⟨fun K x v G => match x with
  | none => v = .non
  | some y => v ≠ .non ∧ Rp.rep K y v G, fun {K x v G H} s h => by
    cases x with
    | none => exact h
    | some y => exact ⟨h.1, Rp.mono s h.2⟩⟩
/-- an owned list -/
def ownL (K : Frag) (xs : List α) (v : V) (f : List Addr) (W : Wd) : Prop := ∃ p vs, v = .ref p ∧ f = [p] ∧ W.G p = none ∧ W.H p = some (.lst vs) ∧ Al (fun x v => Rp.rep K x v W.G) xs vs ∧ xs.length ≤ sizeLine
instance : Fz (List α) where
  own := ownL
  keep := fun {K x v f W W'} ⟨p, vs, e, ef, g, h, a, l⟩ s n k => by
    subst ef
    exact ⟨p, vs, e, rfl, n p (List.mem_singleton.mpr rfl), (k p (List.mem_singleton.mpr rfl)).trans h, a.imp fun _ _ r => Rp.mono s r, l⟩
  foot := fun {K x v f W} ⟨p, vs, e, ef, g, h, a, l⟩ b hb => by
    subst ef
    obtain rfl := List.mem_singleton.mp hb
    exact ⟨g, by rw [h]; exact fun z => nomatch z⟩
  fz := fun {K x v f W} ⟨p, vs, e, ef, g, h, a, l⟩ => by
    subst ef
    exact ⟨p, vs, e, (Wd.fz_in (List.mem_singleton.mpr rfl)).trans h, a.imp fun _ _ r => Rp.mono Wd.fz_sub r, l⟩
end
/-! ### what the slots hold -/
inductive Sl : Type 1 where
  | un
  | fr {α : Type} [Rp α] (x : α)
  | ow {α : Type} [Ob α] (pin : Option V) (x : α)
def Hd (K : Frag) : Sl → Option V → Wd → List Addr → Prop
  | .un, _, _, _ => True
  | @Sl.fr _ _ x, o, W, _ => ∃ v, o = some v ∧ Rp.rep K x v W.G
  | @Sl.ow _ _ pin x, o, W, f => ∃ v, o = some v ∧ Ob.own K x v f W ∧ ∀ u, pin = some u → v = u
structure At (K : Frag) (W0 : Wd) (As : List Sl) (σ : St) (W : Wd) : Prop where
  len : σ.length = As.length
  le : Le W0 W
  fp : ∃ F : Nat → List Addr, (∀ (i : Nat) A o, As[i]? = some A → σ[i]? = some o → Hd K A o W (F i)) ∧ (∀ i j a, i ≠ j → a ∈ F i → a ∉ F j) ∧ ∀ i a, a ∈ F i → W.G a = none ∧ W.H a ≠ none ∧ W0.H a = none
section
variable {K : Frag} {W0 W W' : Wd} {As Bs : List Sl} {σ : St} {i : Nat} {v : V}
theorem Hd.mono {A : Sl} {o : Option V} {f : List Addr} (e : Le W W') (hf : ∀ a ∈ f, W.G a = none ∧ W.H a ≠ none) (h : Hd K A o W f) : Hd K A o W' f := by
  cases A with
  | un => trivial
  | fr x => obtain ⟨v, e1, r⟩ := h; exact ⟨v, e1, Rp.mono e.g r⟩
  | ow x =>
    obtain ⟨v, e1, r, pn⟩ := h
    refine ⟨v, e1, Ob.keep r e.g (fun a ha => e.o a (hf a ha).1 (hf a ha).2) fun a ha => ?_, pn⟩
    cases q : W.H a with
    | none => exact absurd q (hf a ha).2
    | some u => exact e.h a u q
theorem At.mono (h : At K W0 As σ W) (e : Le W W') : At K W0 As σ W' := by
  obtain ⟨l, le, F, h1, h2, h3⟩ := h
  refine ⟨l, le.trans e, F, fun i A o a b => Hd.mono e (fun x hx => ⟨(h3 i x hx).1, (h3 i x hx).2.1⟩) (h1 i A o a b), h2, fun i a ha => ?_⟩
  obtain ⟨g, n, z⟩ := h3 i a ha
  exact ⟨e.o a g n, fun q => n (e.h.nope q), z⟩
theorem At.var {α : Type} [Rp α] {x : α} (h : At K W0 As σ W) (hi : As[i]? = some (.fr x)) : ∃ v, σ[i]? = some (some v) ∧ Rp.rep K x v W.G := by
  obtain ⟨l, le, F, h1, h2, h3⟩ := h
  have hl : i < σ.length := l ▸ (List.getElem?_eq_some_iff.mp hi).1
  obtain ⟨v, e, r⟩ := h1 i _ _ hi (List.getElem?_eq_getElem hl)
  exact ⟨v, by rw [List.getElem?_eq_getElem hl, e], r⟩
theorem At.varO {α : Type} [Ob α] {x : α} {pin : Option V} (h : At K W0 As σ W) (hi : As[i]? = some (.ow pin x)) : ∃ v f, σ[i]? = some (some v) ∧ Ob.own K x v f W ∧ (∀ u, pin = some u → v = u) ∧ ∀ a ∈ f, W0.H a = none := by
  obtain ⟨l, le, F, h1, h2, h3⟩ := h
  have hl : i < σ.length := l ▸ (List.getElem?_eq_some_iff.mp hi).1
  obtain ⟨v, e, r, pn⟩ := h1 i _ _ hi (List.getElem?_eq_getElem hl)
  exact ⟨v, F i, by rw [List.getElem?_eq_getElem hl, e], r, pn, fun a ha => (h3 i a ha).2.2⟩
theorem get_set_ne.{u} {α : Type u} {l : List α} {i j : Nat} {x : α} (h : i ≠ j) : (l.set i x)[j]? = l[j]? := by
  rw [List.getElem?_set, if_neg h]
theorem get_set_eq.{u} {α : Type u} {l : List α} {i : Nat} {x y : α} (h : (l.set i x)[i]? = some y) : y = x := by
  rw [List.getElem?_set] at h
  simp only [if_true] at h
  split at h
  · exact (Option.some.inj h).symm
  · cases h
/-- slot i gets a frozen value, or one of which nothing is known -/
theorem At.set {A : Sl} {o : Option V} (h : At K W0 As σ W) (hA : Hd K A o W []) : At K W0 (As.set i A) (σ.set i o) W := by
  obtain ⟨l, le, F, h1, h2, h3⟩ := h
  refine ⟨by simp [l], le, fun j => if j = i then [] else F j, fun j B p a b => ?_, fun j k a n ha hb => ?_, fun j a ha => ?_⟩
  · by_cases q : i = j
    · subst q
      rw [get_set_eq a, get_set_eq b]
      simpa using hA
    · rw [get_set_ne q] at a b
      dsimp only
      rw [if_neg (Ne.symm q)]
      exact h1 j B p a b
  · dsimp only at ha hb
    split at ha
    · cases ha
    · split at hb
      · cases hb
      · exact h2 j k a n ha hb
  · dsimp only at ha
    split at ha
    · cases ha
    · exact h3 j a ha
/-- slot i gets an owned thing on new ground -/
theorem At.setO {α : Type} [Ob α] {x : α} {f : List Addr} {W1 : Wd} (h : At K W0 As σ W1) (e : Le W1 W) (r : Ob.own K x v f W) (hf : ∀ a ∈ f, W1.H a = none) : At K W0 (As.set i (.ow none x)) (σ.set i (some v)) W := by
  have h' := h.mono e
  obtain ⟨l, le, F, h1, h2, h3⟩ := h
  obtain ⟨_, le', _⟩ := h'
  refine ⟨by simp [l], le', fun j => if j = i then f else F j, fun j B p a b => ?_, fun j k a n ha hb => ?_, fun j a ha => ?_⟩
  · by_cases q : i = j
    · subst q
      rw [get_set_eq a, get_set_eq b]
      simp only [if_true]
      exact ⟨v, rfl, r, fun u z => nomatch z⟩
    · rw [get_set_ne q] at a b
      dsimp only
      rw [if_neg (Ne.symm q)]
      exact Hd.mono e (fun x hx => ⟨(h3 j x hx).1, (h3 j x hx).2.1⟩) (h1 j B p a b)
  · dsimp only at ha hb
    split at ha
    · split at hb
      · rename_i c d; exact n (c.trans d.symm)
      · exact (h3 k a hb).2.1 (hf a ha)
    · split at hb
      · exact (h3 j a ha).2.1 (hf a hb)
      · exact h2 j k a n ha hb
  · dsimp only at ha
    split at ha
    · exact ⟨(Ob.foot r a ha).1, (Ob.foot r a ha).2, le.h.nope (hf a ha)⟩
    · obtain ⟨g, n, z⟩ := h3 j a ha
      exact ⟨e.o a g n, fun q => n (e.h.nope q), z⟩
/-- the owned thing of slot i changes, on its own and on new ground -/
theorem At.chg {α β : Type} [Ob α] [Ob β] {x : α} {y : β} {pin : Option V} (h : At K W0 As σ W) (hi : As[i]? = some (.ow pin x)) :
    ∃ v f, σ[i]? = some (some v) ∧ Ob.own K x v f W ∧ (∀ a ∈ f, W0.H a = none) ∧ ∀ (W' : Wd) f', Inc W.G W'.G → (∀ a, a ∉ f → W.G a = none → W.H a ≠ none → W'.G a = none) → (∀ a, a ∉ f → W.H a ≠ none → W'.H a = W.H a) →
      Ob.own K y v f' W' → (∀ a ∈ f', a ∈ f ∨ W.H a = none) → At K W0 (As.set i (.ow pin y)) σ W' := by
  obtain ⟨l, le, F, h1, h2, h3⟩ := h
  have hl : i < σ.length := l ▸ (List.getElem?_eq_some_iff.mp hi).1
  obtain ⟨v, e, r, pn⟩ := h1 i _ _ hi (List.getElem?_eq_getElem hl)
  refine ⟨v, F i, by rw [List.getElem?_eq_getElem hl, e], r, fun a ha => (h3 i a ha).2.2, fun W' f' sg so sh r' hf => ?_⟩
  have z0 : ∀ a ∈ f', W0.H a = none := fun a ha => by
    rcases hf a ha with q | q
    · exact (h3 i a q).2.2
    · exact le.h.nope q
  have lw : Le W0 W' := ⟨le.g.trans sg, fun a o q => by
    have n0 : W0.H a ≠ none := by rw [q]; exact fun z => nomatch z
    have w := le.h a o q
    rw [sh a (fun ha => n0 ((h3 i a ha).2.2)) (by rw [w]; exact fun z => nomatch z)]
    exact w, fun a g n => so a (fun ha => n ((h3 i a ha).2.2)) (le.o a g n) (fun q => n (le.h.nope q))⟩
  refine ⟨by simp [l], lw, fun j => if j = i then f' else F j, fun j B p a b => ?_, fun j k a n ha hb => ?_, fun j a ha => ?_⟩
  · by_cases q : i = j
    · subst q
      rw [get_set_eq a]
      rw [List.getElem?_eq_getElem hl, e] at b
      cases b
      simp only [if_true]
      exact ⟨v, rfl, r', pn⟩
    · rw [get_set_ne q] at a
      dsimp only
      rw [if_neg (Ne.symm q)]
      have hd := h1 j B p a b
      cases B with
      | un => trivial
      | fr x => obtain ⟨v, e1, r⟩ := hd; exact ⟨v, e1, Rp.mono sg r⟩
      | ow x =>
        obtain ⟨v, e1, r, pn⟩ := hd
        exact ⟨v, e1, Ob.keep r sg (fun a ha => so a (fun z => h2 j i a (Ne.symm q) ha z) (h3 j a ha).1 (h3 j a ha).2.1) fun a ha => sh a (fun z => h2 j i a (Ne.symm q) ha z) (h3 j a ha).2.1, pn⟩
  · dsimp only at ha hb
    split at ha
    · split at hb
      · rename_i c d; exact n (c.trans d.symm)
      · rename_i c d
        rcases hf a ha with q | q
        · exact h2 i k a (Ne.symm d) q hb
        · exact (h3 k a hb).2.1 q
    · split at hb
      · rename_i c d
        rcases hf a hb with q | q
        · exact h2 j i a c ha q
        · exact (h3 j a ha).2.1 q
      · exact h2 j k a n ha hb
  · dsimp only at ha
    split at ha
    · exact ⟨(Ob.foot r' a ha).1, (Ob.foot r' a ha).2, z0 a ha⟩
    · rename_i c
      obtain ⟨g, n, z⟩ := h3 j a ha
      refine ⟨so a (fun q => h2 j i a c ha q) g n, ?_, z⟩
      rw [sh a (fun q => h2 j i a c ha q) n]
      exact n
/-- an owned thing is frozen -/
theorem At.fz {α : Type} [Fz α] {x : α} {pin : Option V} (h : At K W0 As σ W) (hi : As[i]? = some (.ow pin x)) : ∃ W', W'.H = W.H ∧ At K W0 (As.set i (.fr x)) σ W' := by
  obtain ⟨l, le, F, h1, h2, h3⟩ := h
  have hl : i < σ.length := l ▸ (List.getElem?_eq_some_iff.mp hi).1
  obtain ⟨v, e, r, _⟩ := h1 i _ _ hi (List.getElem?_eq_getElem hl)
  refine ⟨W.fz (F i), rfl, by simp [l], le.fz fun a ha => (h3 i a ha).2.2, fun j => if j = i then [] else F j, fun j B p a b => ?_, fun j k a n ha hb => ?_, fun j a ha => ?_⟩
  · by_cases q : i = j
    · subst q
      rw [get_set_eq a]
      rw [List.getElem?_eq_getElem hl, e] at b
      cases b
      exact ⟨v, rfl, Fz.fz r⟩
    · rw [get_set_ne q] at a
      dsimp only
      rw [if_neg (Ne.symm q)]
      have hd := h1 j B p a b
      cases B with
      | un => trivial
      | fr x => obtain ⟨v, e1, r⟩ := hd; exact ⟨v, e1, Rp.mono Wd.fz_sub r⟩
      | ow x =>
        obtain ⟨v, e1, r, pn⟩ := hd
        refine ⟨v, e1, Ob.keep r Wd.fz_sub (fun a ha => ?_) (fun _ _ => rfl), pn⟩
        rw [Wd.fz_ni (fun z => h2 j i a (Ne.symm q) ha z)]
        exact (h3 j a ha).1
  · dsimp only at ha hb
    split at ha
    · cases ha
    · split at hb
      · cases hb
      · exact h2 j k a n ha hb
  · dsimp only at ha
    split at ha
    · cases ha
    · rename_i c
      obtain ⟨g, n, z⟩ := h3 j a ha
      refine ⟨?_, n, z⟩
      rw [Wd.fz_ni (fun z => h2 j i a c ha z)]
      exact g
theorem At.re {W1 : Wd} (h : At K W1 As σ W) (e : Le W0 W1) : At K W0 As σ W := by
  obtain ⟨l, le, F, h1, h2, h3⟩ := h
  exact ⟨l, e.trans le, F, h1, h2, fun i a ha => ⟨(h3 i a ha).1, (h3 i a ha).2.1, e.h.nope (h3 i a ha).2.2⟩⟩
/-- a later ground, by what is frozen now -/
def Wd.rb (W0 W : Wd) (le : Le W0 W) : Wd := ⟨W.G, fun a => match W0.H a with | some o => some o | none => W.G a, fun a o e => by
  show (match W0.H a with | some o => some o | none => W.G a) = some o
  cases q : W0.H a with
  | none => exact e
  | some u => exact (le.h a u q).symm.trans (W.sub a o e), fun a u h i => by
  have h' : (match W0.H a with | some o => some o | none => W.G a) = some u := h
  cases q : W0.H a with
  | none => rw [q] at h'; exact h'
  | some o => rw [q] at h'; cases h'; exact le.g a _ (W0.im a _ q i)⟩
theorem Wd.rb_none {W0 W : Wd} {le : Le W0 W} {a : Addr} (h : W0.H a = none) (g : W.G a = none) : (W0.rb W le).H a = none := by
  show (match W0.H a with | some o => some o | none => W.G a) = none
  rw [h]; exact g
theorem Le.rb0 {W0 W : Wd} (le : Le W0 W) : Le W0 (W0.rb W le) := ⟨le.g, fun a o e => by
  show (match W0.H a with | some o => some o | none => W.G a) = some o
  rw [e], fun a g n => le.o a g n⟩
theorem Le.rb1 {W0 W : Wd} (le : Le W0 W) : Le (W0.rb W le) W := ⟨Inc.refl _, fun a o e => by
  have e' : (match W0.H a with | some o => some o | none => W.G a) = some o := e
  cases q : W0.H a with
  | none => rw [q] at e'; exact W.sub a o e'
  | some u => rw [q] at e'; cases e'; exact le.h a _ q, fun _ g _ => g⟩
theorem At.rb (h : At K W0 As σ W) : At K (W0.rb W h.le) As σ W := by
  have le' := h.le
  obtain ⟨l, le, F, h1, h2, h3⟩ := h
  exact ⟨l, Le.rb1 le, F, h1, h2, fun i a ha => ⟨(h3 i a ha).1, (h3 i a ha).2.1, Wd.rb_none (h3 i a ha).2.2 (h3 i a ha).1⟩⟩
/-- less is known -/
inductive Wk : List Sl → List Sl → Prop
  | nil : Wk [] []
  | same {A As Bs} : Wk As Bs → Wk (A :: As) (A :: Bs)
  | drop {A As Bs} : Wk As Bs → Wk (A :: As) (.un :: Bs)
theorem Wk.get : ∀ {As Bs : List Sl} {i : Nat} {B : Sl}, Wk As Bs → Bs[i]? = some B → B = .un ∨ As[i]? = some B
  | _, _, _, _, .nil, h => by simp at h
  | _, _, 0, _, .same _, h => .inr h
  | _, _, i + 1, _, .same t, h => Wk.get (i := i) t h
  | _, _, 0, _, .drop _, h => .inl (Option.some.inj h).symm
  | _, _, i + 1, _, .drop t, h => Wk.get (i := i) t h
theorem Wk.len : ∀ {As Bs : List Sl}, Wk As Bs → As.length = Bs.length
  | _, _, .nil => rfl
  | _, _, .same t => congrArg (· + 1) (Wk.len t)
  | _, _, .drop t => congrArg (· + 1) (Wk.len t)
theorem Wk.refl : ∀ {As : List Sl}, Wk As As
  | [] => .nil
  | _ :: _ => .same Wk.refl
theorem At.wk (h : At K W0 As σ W) (w : Wk As Bs) : At K W0 Bs σ W := by
  obtain ⟨l, le, F, h1, h2, h3⟩ := h
  refine ⟨l.trans w.len, le, F, fun i B o a b => ?_, h2, h3⟩
  rcases w.get a with q | q
  · rw [q]; trivial
  · exact h1 i B o q b
end
end Fw

namespace Fw
open PySem L2
/-! ### kinds of what an expression hands back -/
structure Kd where
  p : Wd → V → Wd → Prop
  up : ∀ {A B C : Wd} {v : V}, p A v B → Le B C → p A v C
  dn : ∀ {A B C : Wd} {v : V}, Le A B → p B v C → p A v C
def kFr (K : Frag) {α : Type} [Rp α] (x : α) : Kd := ⟨fun _ v W => Rp.rep K x v W.G, fun h e => Rp.mono e.g h, fun _ h => h⟩
theorem own_up {K : Frag} {α : Type} [Ob α] {x : α} {v : V} {f : List Addr} {W W' : Wd} (h : Ob.own K x v f W) (e : Le W W') : Ob.own K x v f W' :=
  Ob.keep h e.g (fun a ha => e.o a (Ob.foot h a ha).1 (Ob.foot h a ha).2) fun a ha => by
    cases q : W.H a with
    | none => exact absurd q (Ob.foot h a ha).2
    | some u => exact e.h a u q
def kNw (K : Frag) {α : Type} [Ob α] (x : α) : Kd := ⟨fun A v W => ∃ f, Ob.own K x v f W ∧ ∀ a ∈ f, A.H a = none,
  fun ⟨f, r, n⟩ e => ⟨f, own_up r e, n⟩, fun e ⟨f, r, n⟩ => ⟨f, r, fun a ha => e.h.nope (n a ha)⟩⟩
/-- a list that may be read: frozen or owned -/
def kSh (K : Frag) {α : Type} [Rp α] (xs : List α) : Kd := ⟨fun _ v W => ∃ p vs, v = .ref p ∧ SqL K W.H p vs ∧ Al (fun x v => Rp.rep K x v W.G) xs vs ∧ xs.length ≤ sizeLine,
  fun ⟨p, vs, e, h, a, l⟩ q => ⟨p, vs, e, q.h.sql h, a.imp fun _ _ r => Rp.mono q.g r, l⟩, fun _ h => h⟩
/-- a value of which the heap says nothing more -/
def kV (v : V) : Kd := ⟨fun _ u _ => u = v, fun h _ => h, fun _ h => h⟩
def Ev (te : TE) (σ : St) (W : Wd) (k : Kd) : Prop := ∀ W1, Le W W1 → ∀ Q : VK, (∀ v W2, Le W1 W2 → k.p W1 v W2 → Q v W2.H) → te σ W1.H Q
def EvT (tt : TT) (σ : St) (W : Wd) (b : Bool) : Prop := ∀ W1, Le W W1 → ∀ Q : Bool → Hp → Prop, (∀ W2, Le W1 W2 → Q b W2.H) → tt σ W1.H Q

/-! ### the mirror's monad -/
structure Exc where
  cls : Str
  fs : List (Str × V)
inductive R (α : Type) where
  | ok (x : α)
  | ex (e : Exc)
  | no
namespace R
variable {α β γ : Type}
def bind (m : R α) (f : α → R β) : R β := match m with
  | .ok x => f x
  | .ex e => .ex e
  | .no => .no
@[simp] theorem bind_ok (x : α) (f : α → R β) : (R.ok x).bind f = f x := rfl
@[simp] theorem bind_no (f : α → R β) : (R.no : R α).bind f = .no := rfl
@[simp] theorem bind_ex (e : Exc) (f : α → R β) : (R.ex e : R α).bind f = .ex e := rfl
/-- checked -/
def chk (c : Bool) (x : α) : R α := if c then .ok x else .no
@[simp] theorem chk_t (x : α) : chk true x = .ok x := rfl
/-- of an option -/
def opt (o : Option α) : R α := match o with
  | some x => .ok x
  | none => .no
@[simp] theorem opt_some (x : α) : opt (some x) = .ok x := rfl
def and (a b : R Bool) : R Bool := a.bind fun c => if c then b else .ok false
/-- what can't be raised here -/
def np (m : R α) : R α := match m with
  | .ok x => .ok x
  | _ => .no
@[simp] theorem np_ok (x : α) : np (.ok x) = .ok x := rfl
end R
/-- what a raised exception is: its class, its own dict -/
structure ExM where
  C : Str → Value
/-- what a field of an exception may be -/
def VOk : V → Prop
  | .str s => s.length ≤ sizeLine ∧ s.cps.all (· < 0x110000) = true
  | _ => True
/-- its own dict -/
def ExD (fs : List (Str × V)) (d : Option Addr) (G : Hp) : Prop := match fs with
  | [] => d = none
  | fs => ∃ a, d = some a ∧ G a = some (.xd fs)
def ExAt (M : Str → Value) (e : Exc) (cls : Value) (d : Option Addr) (W : Wd) : Prop := cls = M e.cls ∧ ExD e.fs d W.G ∧ ∀ p ∈ e.fs, VOk p.2
/-- what stands fixed in a def: the written part, the classes of exceptions -/
structure Cn where
  K : Frag
  M : Str → Value
section
variable {c : Cn} {W0 : Wd} {X : WX} {As Bs : List Sl} {α β γ δ τ ρ : Type}
def Exp (c : Cn) (W0 : Wd) (te : TE) (As : List Sl) (k : Kd) : Prop := ∀ σ W, At c.K W0 As σ W → Ev te σ W k
def Rz (c : Cn) (X : WX) (te : TE) (σ : St) (W : Wd) (e : Exc) : Prop := ∀ W1, Le W W1 → ∀ Q, (∀ cls d W2, Le W1 W2 → ExAt c.M e cls d W2 → X cls d σ W2.H) → te σ W1.H Q
def SatR (m : R α) (P : α → Prop) (E : Exc → Prop) : Prop := match m with
  | .ok x => P x
  | .ex e => E e
  | .no => True
def Exr (c : Cn) (W0 : Wd) (X : WX) (te : TE) (As : List Sl) (m : R α) (k : α → Kd) : Prop := ∀ σ W, At c.K W0 As σ W → SatR m (fun x => Ev te σ W (k x)) (Rz c X te σ W)
def Txp (c : Cn) (W0 : Wd) (tt : TT) (As : List Sl) (b : Bool) : Prop := ∀ σ W, At c.K W0 As σ W → EvT tt σ W b
def RzT (c : Cn) (X : WX) (tt : TT) (σ : St) (W : Wd) (e : Exc) : Prop := ∀ W1, Le W W1 → ∀ Q, (∀ cls d W2, Le W1 W2 → ExAt c.M e cls d W2 → X cls d σ W2.H) → tt σ W1.H Q
def Txr (c : Cn) (W0 : Wd) (X : WX) (tt : TT) (As : List Sl) (m : R Bool) : Prop := ∀ σ W, At c.K W0 As σ W → SatR m (EvT tt σ W) (RzT c X tt σ W)
theorem exr_p {te : TE} {x : α} {k : α → Kd} (h : Exp c W0 te As (k x)) : Exr c W0 X te As (.ok x) k := h
theorem txr_p {tt : TT} {b : Bool} (h : Txp c W0 tt As b) : Txr c W0 X tt As (.ok b) := h
theorem exp_w {te : TE} {k k' : Kd} (h : Exp c W0 te As k) (w : ∀ A v B, k.p A v B → k'.p A v B) : Exp c W0 te As k' := fun σ W a W1 e Q q => h σ W a W1 e Q fun v W2 e2 p => q v W2 e2 (w _ _ _ p)
theorem exr_w {te : TE} {m : R α} {k k' : α → Kd} (h : Exr c W0 X te As m k) (w : ∀ x A v B, (k x).p A v B → (k' x).p A v B) : Exr c W0 X te As m k' := fun σ W a => by
  have h' := h σ W a
  cases m with
  | ok x => exact fun W1 e Q q => h' W1 e Q fun v W2 e2 p => q v W2 e2 (w _ _ _ _ p)
  | ex e => exact h'
  | no => trivial
/-! leaves -/
theorem e_var [Rp α] {x : α} (i : Nat) (h : As[i]? = some (.fr x) := by rfl) : Exp c W0 (tVar i) As (kFr c.K x) := fun σ W a W1 e Q q => by
  obtain ⟨v, hv, r⟩ := a.var h
  exact ⟨v, hv, q v W1 (Le.refl _) (Rp.mono e.g r)⟩
/-- an owned list, read -/
theorem own_sh [Rp α] {K : Frag} {x : List α} {v : V} {f : List Addr} {W A : Wd} (h : Ob.own K x v f W) : (kSh K x).p A v W := by
  obtain ⟨p, vs, e, ef, g, hh, a, l⟩ := h
  exact ⟨p, vs, e, .inl (.inl hh), a, l⟩
theorem fr_sh [Rp α] {K : Frag} {x : List α} {v : V} {W A : Wd} (h : (kFr K x).p A v W) : (kSh K x).p A v W := by
  obtain ⟨p, vs, e, hh, a, l⟩ := h
  exact ⟨p, vs, e, .inl (.inl (W.sub _ _ hh)), a, l⟩
theorem sq_sh [Rp α] {K : Frag} {x : Sq α} {v : V} {W A : Wd} (h : (kFr K x).p A v W) : (kSh K x.l).p A v W := by
  obtain ⟨p, vs, e, hh, a, l⟩ := h
  exact ⟨p, vs, e, W.sub.sql hh, a, l⟩
theorem nw_sh [Rp α] {K : Frag} {x : List α} {v : V} {W A : Wd} (h : (kNw K x).p A v W) : (kSh K x).p A v W := by
  obtain ⟨f, o, _⟩ := h
  exact own_sh o
theorem e_varS [Rp α] {x : List α} {pin : Option V} (i : Nat) (h : As[i]? = some (.ow pin x) := by rfl) : Exp c W0 (tVar i) As (kSh c.K x) := fun σ W a W1 e Q q => by
  obtain ⟨v, f, hv, r, _⟩ := a.varO h
  exact ⟨v, hv, q v W1 (Le.refl _) (own_sh (own_up r e))⟩
theorem e_int (i : Int) : Exp c W0 (tC (.int i)) As (kFr c.K i) := fun σ W a W1 e Q q => q _ W1 (Le.refl _) rfl
theorem e_bl (b : Bool) : Exp c W0 (tC (.bl b)) As (kFr c.K b) := fun σ W a W1 e Q q => q _ W1 (Le.refl _) rfl
theorem sok_of {s : Str} (h : (decide (s.length ≤ 16777216) && s.cps.all (· < 0x110000)) = true) : SOk s := by
  rw [Bool.and_eq_true] at h
  exact ⟨by have := of_decide_eq_true h.1; rw [sizeLine_eq]; exact this, h.2⟩
theorem e_str (s : Str) (h : SOk s := by exact sok_of (by decide +kernel)) : Exp c W0 (tC (.str s)) As (kFr c.K s) := fun σ W a W1 e Q q => q _ W1 (Le.refl _) ⟨rfl, h⟩
theorem e_unit : Exp c W0 (tC .non) As (kFr c.K ()) := fun σ W a W1 e Q q => q _ W1 (Le.refl _) rfl
theorem e_nil [Rp α] : Exp c W0 (tLst tNil) As (kNw c.K ([] : List α)) := fun σ W a W1 e Q q =>
  ⟨Nat.zero_le _, fun p hp => q _ (W1.no p _ hp) (Le.no hp) ⟨[p], ⟨p, [], rfl, rfl, W1.sub.nope hp, upd_same, Al.nil, Nat.zero_le _⟩, fun a ha => by rw [List.mem_singleton.mp ha]; exact hp⟩⟩
/-- a new thing is left as it is for good -/
theorem nw_fr [Fz α] {K : Frag} {x : α} {v : V} {A W : Wd} (h : (kNw K x).p A v W) : ∃ W', W'.H = W.H ∧ (Le A W → Le A W') ∧ Inc W.G W'.G ∧ (kFr K x).p A v W' := by
  obtain ⟨f, o, n⟩ := h
  exact ⟨W.fz f, rfl, fun e => e.fz n, Wd.fz_sub, Fz.fz o⟩
theorem e_fz [Fz α] {te : TE} {x : α} (h : Exp c W0 te As (kNw c.K x)) : Exp c W0 te As (kFr c.K x) := fun σ W a W1 e Q q => h σ W a W1 e Q fun v W2 e2 p => by
  obtain ⟨W', eh, le, _, r⟩ := nw_fr p
  rw [← eh]
  exact q v W' (le e2) r
theorem r_fz [Fz α] {te : TE} {m : R α} (h : Exr c W0 X te As m fun x => kNw c.K x) : Exr c W0 X te As m fun x => kFr c.K x := fun σ W a => by
  have h' := h σ W a
  cases m with
  | ok x => exact e_fz (fun σ W a => by exact h σ W a) σ W a
  | ex e => exact h'
  | no => trivial
theorem e_sh [Rp α] {te : TE} {x : List α} (h : Exp c W0 te As (kFr c.K x)) : Exp c W0 te As (kSh c.K x) := exp_w h fun _ _ _ => fr_sh
theorem e_shQ [Rp α] {te : TE} {x : Sq α} (h : Exp c W0 te As (kFr c.K x)) : Exp c W0 te As (kSh c.K x.l) := exp_w h fun _ _ _ => sq_sh
theorem r_shN [Rp α] {te : TE} {m : R (List α)} (h : Exr c W0 X te As m fun x => kNw c.K x) : Exr c W0 X te As m fun x => kSh c.K x := exr_w h fun _ _ _ _ => nw_sh

/-! operators of one and of two places -/
def Op2 (r : R2) (k1 : α → Kd) (k2 : β → Kd) (f : α → β → R γ) (k3 : γ → Kd) : Prop := ∀ x y, match f x y with
  | .ok z => ∀ (W0 W : Wd) v w, (k1 x).p W0 v W → (k2 y).p W0 w W → ∀ Q : VK, (∀ u W', Le W W' → (k3 z).p W u W' → Q u W'.H) → r v w W.H Q
  | .ex _ => False
  | .no => True
theorem e_op2 {r : R2} {ta tb : TE} {k1 : α → Kd} {k2 : β → Kd} {k3 : γ → Kd} {g : α → β → γ} {x : α} {y : β} (h : Op2 r k1 k2 (fun x y => .ok (g x y)) k3) (ha : Exp c W0 ta As (k1 x)) (hb : Exp c W0 tb As (k2 y)) {k : Kd} (hk : k3 (g x y) = k) : Exp c W0 (tOp r ta tb) As k := hk ▸ fun σ W a W1 e Q q =>
  ha σ W a W1 e _ fun v W2 e2 p => hb σ W a W2 (e.trans e2) _ fun w W3 e3 p3 => h x y W1 W3 v w ((k1 x).up p e3) ((k2 y).dn e2 p3) Q fun u W4 e4 p4 => q u W4 (e2.trans (e3.trans e4)) ((k3 (g x y)).dn (e2.trans e3) p4)
theorem r_op2 {r : R2} {ta tb : TE} {k1 : α → Kd} {k2 : β → Kd} {k3 : γ → Kd} {f : α → β → R γ} {m : R α} {n : R β} (h : Op2 r k1 k2 f k3) (ha : Exr c W0 X ta As m k1) (hb : Exr c W0 X tb As n k2) :
    Exr c W0 X (tOp r ta tb) As (m.bind fun x => n.bind fun y => f x y) k3 := fun σ W a => by
  have ha' := ha σ W a
  have hb' := hb σ W a
  cases m with
  | no => trivial
  | ex e => exact fun W1 e1 Q q => ha' W1 e1 _ q
  | ok x =>
    cases n with
    | no => trivial
    | ex e => exact fun W1 e1 Q q => ha' W1 e1 _ fun v W2 e2 p => hb' W2 (e1.trans e2) _ fun cls d W3 e3 z => q cls d W3 (e2.trans e3) z
    | ok y =>
      have h' := h x y
      show SatR (f x y) _ _
      cases hf : f x y with
      | no => trivial
      | ex e => rw [hf] at h'; exact h'.elim
      | ok z =>
        rw [hf] at h'
        exact fun W1 e Q q => ha' W1 e _ fun v W2 e2 p => hb' W2 (e.trans e2) _ fun w W3 e3 p3 => h' W1 W3 v w ((k1 x).up p e3) ((k2 y).dn e2 p3) Q fun u W4 e4 p4 => q u W4 (e2.trans (e3.trans e4)) ((k3 z).dn (e2.trans e3) p4)
/-! arguments -/
structure KdA where
  p : Wd → List V → Wd → Prop
  up : ∀ {A B C : Wd} {v : List V}, p A v B → Le B C → p A v C
  dn : ∀ {A B C : Wd} {v : List V}, Le A B → p B v C → p A v C
def aNil : KdA := ⟨fun _ vs _ => vs = [], fun h _ => h, fun _ h => h⟩
def aCons (k : Kd) (ks : KdA) : KdA := ⟨fun A vs W => ∃ v r, vs = v :: r ∧ k.p A v W ∧ ks.p A r W, fun ⟨v, r, e, a, b⟩ q => ⟨v, r, e, k.up a q, ks.up b q⟩, fun q ⟨v, r, e, a, b⟩ => ⟨v, r, e, k.dn q a, ks.dn q b⟩⟩
def EvA (ta : TA) (σ : St) (W : Wd) (k : KdA) : Prop := ∀ W1, Le W W1 → ∀ Q : List V → Hp → Prop, (∀ v W2, Le W1 W2 → k.p W1 v W2 → Q v W2.H) → ta σ W1.H Q
def RzA (c : Cn) (X : WX) (ta : TA) (σ : St) (W : Wd) (e : Exc) : Prop := ∀ W1, Le W W1 → ∀ Q, (∀ cls d W2, Le W1 W2 → ExAt c.M e cls d W2 → X cls d σ W2.H) → ta σ W1.H Q
def Axp (c : Cn) (W0 : Wd) (ta : TA) (As : List Sl) (k : KdA) : Prop := ∀ σ W, At c.K W0 As σ W → EvA ta σ W k
def Axr (c : Cn) (W0 : Wd) (X : WX) (ta : TA) (As : List Sl) (m : R τ) (k : τ → KdA) : Prop := ∀ σ W, At c.K W0 As σ W → SatR m (fun x => EvA ta σ W (k x)) (RzA c X ta σ W)
theorem axr_p {ta : TA} {x : τ} {k : τ → KdA} (h : Axp c W0 ta As (k x)) : Axr c W0 X ta As (.ok x) k := h
theorem a_nil : Axp c W0 tNil As aNil := fun σ W a W1 e Q q => q [] W1 (Le.refl _) rfl
theorem a_cons {te : TE} {ta : TA} {k : Kd} {ks : KdA} (h : Exp c W0 te As k) (hr : Axp c W0 ta As ks) : Axp c W0 (tCons te ta) As (aCons k ks) := fun σ W a W1 e Q q =>
  h σ W a W1 e _ fun v W2 e2 p => hr σ W a W2 (e.trans e2) _ fun vs W3 e3 ps => q _ W3 (e2.trans e3) ⟨v, vs, rfl, k.up p e3, ks.dn e2 ps⟩
theorem ar_cons {te : TE} {ta : TA} {m : R α} {n : R τ} {k : α → Kd} {ks : τ → KdA} (h : Exr c W0 X te As m k) (hr : Axr c W0 X ta As n ks) :
    Axr c W0 X (tCons te ta) As (m.bind fun x => n.bind fun y => .ok (x, y)) (fun z => aCons (k z.1) (ks z.2)) := fun σ W a => by
  have h' := h σ W a
  have hr' := hr σ W a
  cases m with
  | no => trivial
  | ex e => exact fun W1 e1 Q q => h' W1 e1 _ q
  | ok x =>
    cases n with
    | no => trivial
    | ex e => exact fun W1 e1 Q q => h' W1 e1 _ fun v W2 e2 p => hr' W2 (e1.trans e2) _ fun cls d W3 e3 z => q cls d W3 (e2.trans e3) z
    | ok y => exact fun W1 e Q q => h' W1 e _ fun v W2 e2 p => hr' W2 (e.trans e2) _ fun vs W3 e3 ps => q _ W3 (e2.trans e3) ⟨v, vs, rfl, (k x).up p e3, (ks y).dn e2 ps⟩
/-- what is reckoned of arguments -/
def OpA (r : List V → Hp → VK → Prop) (ks : τ → KdA) (f : τ → R γ) (k3 : γ → Kd) : Prop := ∀ x, match f x with
  | .ok z => ∀ (W0 W : Wd) vs, (ks x).p W0 vs W → ∀ Q : VK, (∀ u W', Le W W' → (k3 z).p W u W' → Q u W'.H) → r vs W.H Q
  | .ex _ => False
  | .no => True
/-- any reading that goes by its arguments -/
theorem e_opA {r : List V → Hp → VK → Prop} {ta : TA} {ks : τ → KdA} {k3 : γ → Kd} {g : τ → γ} {x : τ} (h : OpA r ks (fun x => .ok (g x)) k3) (ha : Axp c W0 ta As (ks x)) {k : Kd} (hk : k3 (g x) = k) : Exp c W0 (fun σ H Q => ta σ H fun vs H1 => r vs H1 Q) As k := hk ▸ fun σ W a W1 e Q q =>
  ha σ W a W1 e _ fun v W2 e2 p => h x _ _ v p Q fun u W3 e3 p3 => q u W3 (e2.trans e3) ((k3 (g x)).dn e2 p3)
theorem r_opA {r : List V → Hp → VK → Prop} {ta : TA} {ks : τ → KdA} {k3 : γ → Kd} {f : τ → R γ} {m : R τ} (h : OpA r ks f k3) (ha : Axr c W0 X ta As m ks) : Exr c W0 X (fun σ H Q => ta σ H fun vs H1 => r vs H1 Q) As (m.bind f) k3 := fun σ W a => by
  have ha' := ha σ W a
  cases m with
  | no => trivial
  | ex e => exact fun W1 e1 Q q => ha' W1 e1 _ q
  | ok x =>
    have h' := h x
    show SatR (f x) _ _
    cases hf : f x with
    | no => trivial
    | ex e => rw [hf] at h'; exact h'.elim
    | ok z =>
      rw [hf] at h'
      exact fun W1 e Q q => ha' W1 e _ fun v W2 e2 p => h' _ _ v p Q fun u W3 e3 p3 => q u W3 (e2.trans e3) ((k3 z).dn e2 p3)
/-! displays of tuples and lists -/
theorem e_pair [Rp α] [Rp β] {ta : TA} {x : α} {y : β} (h : Axp c W0 ta As (aCons (kFr c.K x) (aCons (kFr c.K y) aNil))) : Exp c W0 (tTup ta) As (kFr c.K (x, y)) := fun σ W a W1 e Q q =>
  h σ W a W1 e _ fun vs W2 e2 ⟨v, r, ev, p1, w, r2, ew, p2, en⟩ => by
    subst ev ew en
    exact ⟨by show 2 ≤ sizeLine; decide, fun p hp => q _ (W2.nf p _) (e2.trans (Le.nf hp)) ⟨p, v, w, rfl, .inl (.inl upd_same), Rp.mono (Le.nf hp).g p1, Rp.mono (Le.nf hp).g p2⟩⟩
theorem rz_tup {ta : TA} {σ : St} {W : Wd} {e : Exc} (h : RzA c X ta σ W e) : Rz c X (tTup ta) σ W e := fun W1 e1 Q q => h W1 e1 _ q
theorem rz_lst {ta : TA} {σ : St} {W : Wd} {e : Exc} (h : RzA c X ta σ W e) : Rz c X (tLst ta) σ W e := fun W1 e1 Q q => h W1 e1 _ q
/-- a reading over arguments lifts -/
theorem r_ofA {ta : TA} {m : R τ} {g : τ → γ} {ks : τ → KdA} {k : γ → Kd} {te : TA → TE} (ha : Axr c W0 X ta As m ks) (h : ∀ x, m = .ok x → Axp c W0 ta As (ks x) → Exp c W0 (te ta) As (k (g x)))
    (hz : ∀ σ W e, RzA c X ta σ W e → Rz c X (te ta) σ W e) : Exr c W0 X (te ta) As (m.bind fun x => .ok (g x)) k := fun σ W a => by
  cases m with
  | no => trivial
  | ex e => exact hz σ W e (ha σ W a)
  | ok x => exact h x rfl (fun σ W a => ha σ W a) σ W a
theorem r_pair [Rp α] [Rp β] {ta : TA} {m : R (α × β × Unit)} (h : Axr c W0 X ta As m fun z => aCons (kFr c.K z.1) (aCons (kFr c.K z.2.1) aNil)) : Exr c W0 X (tTup ta) As (m.bind fun z => .ok (z.1, z.2.1)) fun x => kFr c.K x :=
  r_ofA (te := tTup) h (fun x _ h' => e_pair h') fun _ _ _ => rz_tup
theorem e_t3 [Rp α] [Rp β] [Rp γ] {ta : TA} {x : α} {y : β} {z : γ} (h : Axp c W0 ta As (aCons (kFr c.K x) (aCons (kFr c.K y) (aCons (kFr c.K z) aNil)))) : Exp c W0 (tTup ta) As (kFr c.K (T3.mk x y z)) := fun σ W a W1 e Q q =>
  h σ W a W1 e _ fun vs W2 e2 ⟨v, r, ev, p1, w, r2, ew, p2, u, r3, eu, p3, en⟩ => by
    subst ev ew eu en
    exact ⟨by show 3 ≤ sizeLine; decide, fun p hp => q _ (W2.nf p _) (e2.trans (Le.nf hp)) ⟨p, v, w, u, rfl, .inl (.inl upd_same), Rp.mono (Le.nf hp).g p1, Rp.mono (Le.nf hp).g p2, Rp.mono (Le.nf hp).g p3⟩⟩
theorem r_t3 [Rp α] [Rp β] [Rp γ] {ta : TA} {m : R (α × β × γ × Unit)} (h : Axr c W0 X ta As m fun z => aCons (kFr c.K z.1) (aCons (kFr c.K z.2.1) (aCons (kFr c.K z.2.2.1) aNil))) : Exr c W0 X (tTup ta) As (m.bind fun z => .ok (T3.mk z.1 z.2.1 z.2.2.1)) fun x => kFr c.K x :=
  r_ofA (te := tTup) h (fun x _ h' => e_t3 h') fun _ _ _ => rz_tup
/-- all arguments of one kind -/
def aAll (k : α → Kd) : List α → KdA
  | [] => aNil
  | x :: xs => aCons (k x) (aAll k xs)
theorem aAll_al [Rp α] {K : Frag} : ∀ {xs : List α} {A B : Wd} {vs : List V}, (aAll (fun x => kFr K x) xs).p A vs B → Al (fun x v => Rp.rep K x v B.G) xs vs
  | [], _, _, _, h => by cases h; exact Al.nil
  | x :: xs, _, _, _, ⟨v, r, e, p, q⟩ => by subst e; exact Al.cons p (aAll_al q)
theorem szl {xs : List α} {n : Nat} (h : xs.length = n) (hn : n ≤ 1000) : xs.length ≤ sizeLine := by
  rw [h, sizeLine_eq]
  omega
theorem e_lst [Rp α] {ta : TA} {xs : List α} (h : Axp c W0 ta As (aAll (fun x => kFr c.K x) xs)) (hl : xs.length ≤ sizeLine) : Exp c W0 (tLst ta) As (kNw c.K xs) := fun σ W a W1 e Q q =>
  h σ W a W1 e _ fun vs W2 e2 ps => by
    have al := aAll_al ps
    exact ⟨al.1 ▸ hl, fun p hp => q _ (W2.no p _ hp) (e2.trans (Le.no hp)) ⟨[p], ⟨p, vs, rfl, rfl, W2.sub.nope hp, upd_same, al, hl⟩, fun b hb => by rw [List.mem_singleton.mp hb]; exact e2.fr hp⟩⟩
theorem e_tupl [Rp α] {ta : TA} {xs : List α} (h : Axp c W0 ta As (aAll (fun x => kFr c.K x) xs)) (hl : xs.length ≤ sizeLine) : Exp c W0 (tTup ta) As (kFr c.K (Tup.mk xs)) := fun σ W a W1 e Q q =>
  h σ W a W1 e _ fun vs W2 e2 ps => by
    have al := aAll_al ps
    exact ⟨al.1 ▸ hl, fun p hp => q _ (W2.nf p _) (e2.trans (Le.nf hp)) ⟨p, vs, rfl, .inl (.inl upd_same), al.imp fun _ _ r => Rp.mono (Le.nf hp).g r, hl⟩⟩
theorem r_lst [Rp α] {ta : TA} {m : R τ} {g : τ → List α} {ks : τ → KdA} (h : Axr c W0 X ta As m ks) (hk : ∀ z, ks z = aAll (fun x => kFr c.K x) (g z)) (hl : ∀ z, (g z).length ≤ sizeLine) : Exr c W0 X (tLst ta) As (m.bind fun z => .ok (g z)) fun x => kNw c.K x :=
  r_ofA (te := tLst) h (fun x _ h' => e_lst (by rw [← hk]; exact h') (hl x)) fun _ _ _ => rz_lst
/-! tests -/
theorem t_e {te : TE} {b : Bool} (h : Exp c W0 te As (kFr c.K b)) : Txp c W0 (tTest te) As b := fun σ W a W1 e Q q => h σ W a W1 e _ fun v W2 e2 p => ⟨b, p, q W2 e2⟩
theorem tr_e {te : TE} {m : R Bool} (h : Exr c W0 X te As m fun b => kFr c.K b) : Txr c W0 X (tTest te) As m := fun σ W a => by
  have h' := h σ W a
  cases m with
  | no => trivial
  | ex e => exact fun W1 e1 Q q => h' W1 e1 _ q
  | ok b => exact fun W1 e Q q => h' W1 e _ fun v W2 e2 p => ⟨b, p, q W2 e2⟩
theorem t_B {te : TE} {b : Bool} (h : Exp c W0 te As (kFr c.K b)) : Txp c W0 (tB te) As b := fun σ W a W1 e Q q => h σ W a W1 e _ fun v W2 e2 p => ⟨b, p, q W2 e2⟩
theorem tr_B {te : TE} {m : R Bool} (h : Exr c W0 X te As m fun b => kFr c.K b) : Txr c W0 X (tB te) As m := fun σ W a => by
  have h' := h σ W a
  cases m with
  | no => trivial
  | ex e => exact fun W1 e1 Q q => h' W1 e1 _ q
  | ok b => exact fun W1 e Q q => h' W1 e _ fun v W2 e2 p => ⟨b, p, q W2 e2⟩
theorem t_not {t : TT} {b : Bool} (h : Txp c W0 t As b) : Txp c W0 (tNot t) As (!b) := fun σ W a W1 e Q q => h σ W a W1 e _ fun W2 e2 => q W2 e2
theorem tr_not {t : TT} {m : R Bool} (h : Txr c W0 X t As m) : Txr c W0 X (tNot t) As (m.bind fun b => .ok (!b)) := fun σ W a => by
  have h' := h σ W a
  cases m with
  | no => trivial
  | ex e => exact fun W1 e1 Q q => h' W1 e1 _ q
  | ok b => exact fun W1 e Q q => h' W1 e _ fun W2 e2 => q W2 e2
theorem t_and {t u : TT} {a b : Bool} (h : Txp c W0 t As a) (h2 : Txp c W0 u As b) : Txp c W0 (tAnd t u) As (a && b) := fun σ W at_ W1 e Q q => h σ W at_ W1 e _ fun W2 e2 => by
  cases a with
  | true => exact h2 σ W at_ W2 (e.trans e2) Q fun W3 e3 => q W3 (e2.trans e3)
  | false => exact q W2 e2
theorem t_or {t u : TT} {a b : Bool} (h : Txp c W0 t As a) (h2 : Txp c W0 u As b) : Txp c W0 (tOr t u) As (a || b) := fun σ W at_ W1 e Q q => h σ W at_ W1 e _ fun W2 e2 => by
  cases a with
  | false => exact h2 σ W at_ W2 (e.trans e2) Q fun W3 e3 => q W3 (e2.trans e3)
  | true => exact q W2 e2
theorem tr_and {t u : TT} {m n : R Bool} (h : Txr c W0 X t As m) (h2 : Txr c W0 X u As n) : Txr c W0 X (tAnd t u) As (m.and n) := fun σ W a => by
  have h' := h σ W a
  have h2' := h2 σ W a
  cases m with
  | no => trivial
  | ex e => exact fun W1 e1 Q q => h' W1 e1 _ q
  | ok b =>
    cases b with
    | false => exact fun W1 e Q q => h' W1 e _ fun W2 e2 => q W2 e2
    | true =>
      show SatR (n) _ _
      cases n with
      | no => trivial
      | ex e => exact fun W1 e1 Q q => h' W1 e1 _ fun W2 e2 => h2' W2 (e1.trans e2) _ fun cls d W3 e3 z => q cls d W3 (e2.trans e3) z
      | ok b => exact fun W1 e Q q => h' W1 e _ fun W2 e2 => h2' W2 (e.trans e2) Q fun W3 e3 => q W3 (e2.trans e3)
/-! and, or, not, if as values -/
theorem r_andV {ta tb : TE} {m n : R Bool} (h : Exr c W0 X ta As m fun b => kFr c.K b) (h2 : Exr c W0 X tb As n fun b => kFr c.K b) : Exr c W0 X (tAndV ta tb) As (m.and n) fun b => kFr c.K b := fun σ W a => by
  have h' := h σ W a
  have h2' := h2 σ W a
  cases m with
  | no => trivial
  | ex e => exact fun W1 e1 Q q => h' W1 e1 _ q
  | ok b =>
    cases b with
    | false => exact fun W1 e Q q => h' W1 e _ fun v W2 e2 p => ⟨false, p, q _ W2 e2 rfl⟩
    | true =>
      show SatR (n) _ _
      cases n with
      | no => trivial
      | ex e => exact fun W1 e1 Q q => h' W1 e1 _ fun v W2 e2 p => ⟨true, p, h2' W2 (e1.trans e2) _ fun cls d W3 e3 z => q cls d W3 (e2.trans e3) z⟩
      | ok b => exact fun W1 e Q q => h' W1 e _ fun v W2 e2 p => ⟨true, p, h2' W2 (e.trans e2) Q fun w W3 e3 p3 => q w W3 (e2.trans e3) p3⟩
end
end Fw

namespace Fw
open PySem L2
inductive Out (S J ρ : Type) where
  | nx (s : S)
  | rt (r : ρ)
  | bk (j : J)
  | ct (j : J)
  | ex (e : Exc)
  | no
namespace Out
variable {S T J ρ α : Type}
def bind (m : Out S J ρ) (k : S → Out T J ρ) : Out T J ρ := match m with
  | .nx s => k s
  | .rt r => .rt r
  | .bk j => .bk j
  | .ct j => .ct j
  | .ex e => .ex e
  | .no => .no
@[simp] theorem bind_nx (s : S) (k : S → Out T J ρ) : (Out.nx s : Out S J ρ).bind k = k s := rfl
@[simp] theorem bind_rt (r : ρ) (k : S → Out T J ρ) : (Out.rt r : Out S J ρ).bind k = .rt r := rfl
@[simp] theorem bind_bk (r : J) (k : S → Out T J ρ) : (Out.bk r : Out S J ρ).bind k = .bk r := rfl
@[simp] theorem bind_ct (r : J) (k : S → Out T J ρ) : (Out.ct r : Out S J ρ).bind k = .ct r := rfl
@[simp] theorem bind_ex (r : Exc) (k : S → Out T J ρ) : (Out.ex r : Out S J ρ).bind k = .ex r := rfl
@[simp] theorem bind_no (k : S → Out T J ρ) : (Out.no : Out S J ρ).bind k = .no := rfl
end Out
/-- go on with what was reckoned -/
def R.to {α S J ρ : Type} (m : R α) (k : α → Out S J ρ) : Out S J ρ := match m with
  | .ok x => k x
  | .ex e => .ex e
  | .no => .no
section
variable {α S J ρ : Type}
@[simp] theorem R.to_ok (x : α) (k : α → Out S J ρ) : (R.ok x).to k = k x := rfl
@[simp] theorem R.to_no (k : α → Out S J ρ) : (R.no : R α).to k = .no := rfl
@[simp] theorem R.to_ex (e : Exc) (k : α → Out S J ρ) : (R.ex e : R α).to k = .ex e := rfl
/-- a def all of whose ways return -/
def Out.run (m : Out Unit Unit ρ) : R ρ := match m with
  | .rt r => .ok r
  | _ => .no
/-- .. and that may raise -/
def Out.runX (m : Out Unit Unit ρ) : R ρ := match m with
  | .rt r => .ok r
  | .ex e => .ex e
  | _ => .no
@[simp] theorem Out.run_rt (r : ρ) : (Out.rt r : Out Unit Unit ρ).run = .ok r := rfl
@[simp] theorem Out.run_ex (e : Exc) : (Out.ex e : Out Unit Unit ρ).run = .no := rfl
@[simp] theorem Out.run_no : (Out.no : Out Unit Unit ρ).run = .no := rfl
def lt {β : Type} (x : α) (k : α → β) : β := k x
def lt2 {β γ : Type} (x : α × β) (k : α → β → γ) : γ := k x.1 x.2
def R.to2 {β : Type} (m : R (α × β)) (k : α → β → Out S J ρ) : Out S J ρ := m.to fun z => k z.1 z.2
def R.toS {β : Type} (m : R (β × α)) (k : α → Out S J ρ) : Out S J ρ := m.to fun z => k z.2
@[simp] theorem R.to2_ok {β : Type} (x : α × β) (k : α → β → Out S J ρ) : (R.ok x).to2 k = k x.1 x.2 := rfl
@[simp] theorem R.toS_ok {β : Type} (x : β × α) (k : α → Out S J ρ) : (R.ok x).toS k = k x.2 := rfl
def forL : List α → S → (S → α → Out S S ρ) → Out S J ρ
  | [], s, _ => .nx s
  | x :: xs, s, f => match f s x with
    | .nx s' => forL xs s' f
    | .ct s' => forL xs s' f
    | .bk s' => .nx s'
    | .rt r => .rt r
    | .ex e => .ex e
    | .no => .no
end
/-- the grounds of a block: its own, the def's, that of what is raised -/
structure Bd where
  W0 : Wd
  Wo : Wd
  We : Wd
  le : Le Wo W0
  lx : Le We W0
def Bd.re (B : Bd) (W1 : Wd) (e : Le B.W0 W1) : Bd := ⟨W1, B.Wo, B.We, B.le.trans e, B.lx.trans e⟩
section
variable {J S T U ρ α β γ : Type} {c : Cn} {X : WX} {kr : ρ → Kd} {Ls : List Sl} {Js : J → List Sl} {B : Bd} {As Bs' : List Sl} {Bs : S → List Sl} {Cs : T → List Sl}
def Fin (c : Cn) (X : WX) (kr : ρ → Kd) (Ls : List Sl) (Js : J → List Sl) (B : Bd) (Bs : S → List Sl) (D : Ends) (m : Out S J ρ) : Prop := match m with
  | .nx s => ∀ σ W, At c.K B.W0 (Bs s) σ W → D.nx σ W.H
  | .rt r => ∀ v W, Le B.W0 W → (kr r).p B.Wo v W → D.rt v W.H
  | .bk j => ∀ σ W, At c.K B.W0 (Js j) σ W → D.bk σ W.H
  | .ct j => ∀ σ W, At c.K B.W0 (Js j) σ W → D.ct σ W.H
  | .ex e => ∀ cls d σ W, At c.K B.We Ls σ W → ExAt c.M e cls d W → X cls d σ W.H
  | .no => False
def Den (c : Cn) (X : WX) (kr : ρ → Kd) (Ls : List Sl) (Js : J → List Sl) (B : Bd) (t : TS) (As : List Sl) (m : Out S J ρ) (Bs : S → List Sl) : Prop := ∀ D σ W, At c.K B.W0 As σ W → Fin c X kr Ls Js B Bs D m → t D σ W.H
/-- what may leave the block where the slots are so -/
abbrev Lx (Ls : List Sl) (As : List Sl) : Prop := Wk As Ls
theorem lx_at {K : Frag} {W : Wd} {σ : St} (h : Lx Ls As) (a : At K B.W0 As σ W) : At K B.We Ls σ W := (a.wk h).re B.lx
theorem At.setF [Rp α] {K : Frag} {W0 W : Wd} {σ : St} {x : α} {v : V} {i : Nat} (h : At K W0 As σ W) (r : Rp.rep K x v W.G) : At K W0 (As.set i (.fr x)) (σ.set i (some v)) W := h.set ⟨v, rfl, r⟩
theorem d_seq {t u : TS} {m : Out S J ρ} {k : S → Out T J ρ} (h : Den c X kr Ls Js B t As m Bs) (hk : ∀ s, Den c X kr Ls Js B u (Bs s) (k s) Cs) : Den c X kr Ls Js B (tSeq t u) As (m.bind k) Cs := fun D σ W a f => by
  refine h { D with nx := u D } σ W a ?_
  cases m with
  | nx s => exact fun σ' W' a' => hk s D σ' W' a' f
  | _ => exact f
theorem d_nx {s : S} (w : Wk As (Bs s)) : Den c X kr Ls Js B tNext As (.nx s) Bs := fun D σ W a f => f σ W (a.wk w)
theorem d_fz [Fz α] {pin : Option V} {t : TS} {m : Out S J ρ} {x : α} (i : Nat) (hi : As[i]? = some (.ow pin x)) (h : Den c X kr Ls Js B t (As.set i (.fr x)) m Bs) : Den c X kr Ls Js B t As m Bs := fun D σ W a f => by
  obtain ⟨W', e, a'⟩ := a.fz hi
  rw [← e]
  exact h D σ W' a' f
/-- x = e -/
theorem d_let [Rp α] {te : TE} {u : TS} {x : α} {k : α → Out S J ρ} (i : Nat) (h : Exp c B.W0 te As (kFr c.K x)) (hk : ∀ y, Den c X kr Ls Js B u (As.set i (.fr y)) (k y) Bs) : Den c X kr Ls Js B (tSeq (tAsg te (gName i)) u) As (lt x k) Bs := fun D σ W a f =>
  h σ W a W (Le.refl _) _ fun v W2 e p => hk x D _ W2 ((a.mono e).setF p) f
theorem d_get [Rp α] {te : TE} {u : TS} {m : R α} {k : α → Out S J ρ} (i : Nat) (lx : Lx Ls As) (h : Exr c B.W0 X te As m fun x => kFr c.K x) (hk : ∀ y, Den c X kr Ls Js B u (As.set i (.fr y)) (k y) Bs) : Den c X kr Ls Js B (tSeq (tAsg te (gName i)) u) As (m.to k) Bs := fun D σ W a f => by
  have h' := h σ W a
  cases m with
  | no => exact False.elim f
  | ex e => exact h' W (Le.refl _) _ fun cls d W2 e2 z => f cls d σ W2 (lx_at lx (a.mono e2)) z
  | ok x => exact h' W (Le.refl _) _ fun v W2 e p => hk x D _ W2 ((a.mono e).setF p) f
theorem d_letN [Ob α] {te : TE} {u : TS} {x : α} {k : α → Out S J ρ} (i : Nat) (h : Exp c B.W0 te As (kNw c.K x)) (hk : ∀ y, Den c X kr Ls Js B u (As.set i (.ow none y)) (k y) Bs) : Den c X kr Ls Js B (tSeq (tAsg te (gName i)) u) As (lt x k) Bs := fun D σ W a f =>
  h σ W a W (Le.refl _) _ fun v W2 e ⟨fp, o, n⟩ => hk x D _ W2 (a.setO e o n) f
theorem d_getN [Ob α] {te : TE} {u : TS} {m : R α} {k : α → Out S J ρ} (i : Nat) (lx : Lx Ls As) (h : Exr c B.W0 X te As m fun x => kNw c.K x) (hk : ∀ y, Den c X kr Ls Js B u (As.set i (.ow none y)) (k y) Bs) : Den c X kr Ls Js B (tSeq (tAsg te (gName i)) u) As (m.to k) Bs := fun D σ W a f => by
  have h' := h σ W a
  cases m with
  | no => exact False.elim f
  | ex e => exact h' W (Le.refl _) _ fun cls d W2 e2 z => f cls d σ W2 (lx_at lx (a.mono e2)) z
  | ok x => exact h' W (Le.refl _) _ fun v W2 e ⟨fp, o, n⟩ => hk x D _ W2 (a.setO e o n) f
/-- a, b = e -/
theorem d_let2 [Rp α] [Rp β] {te : TE} {u : TS} {x : α × β} {k : α → β → Out S J ρ} (i j : Nat) (h : Exp c B.W0 te As (kFr c.K x)) (hk : ∀ y z, Den c X kr Ls Js B u ((As.set i (.fr y)).set j (.fr z)) (k y z) Bs) :
    Den c X kr Ls Js B (tSeq (tAsg te (gTup c.K 2 (gCons (gName i) (gCons (gName j) gNil)))) u) As (lt2 x k) Bs := fun D σ W a f =>
  h σ W a W (Le.refl _) _ fun v W2 e ⟨p, va, vb, ev, hp, r1, r2⟩ => ⟨p, [va, vb], ev, W2.sub.sqt hp, rfl, va, [vb], rfl, vb, [], rfl, rfl, hk x.1 x.2 D _ W2 (((a.mono e).setF r1).setF r2) f⟩
/-- return e -/
theorem kr_ok {r : ρ} {v : V} {A W : Wd} (e : Le B.W0 A) (h : (kr r).p A v W) : (kr r).p B.Wo v W := (kr r).dn (B.le.trans e) h
theorem d_ret {te : TE} {u : TS} {r : ρ} (h : Exp c B.W0 te As (kr r)) : Den c X kr Ls Js B (tSeq (tRet te) u) As (.rt r) Bs := fun D σ W a f =>
  h σ W a W (Le.refl _) _ fun v W2 e p => f v W2 (a.le.trans e) (kr_ok a.le p)
theorem d_retR {te : TE} {u : TS} {m : R ρ} (lx : Lx Ls As) (h : Exr c B.W0 X te As m kr) : Den c X kr Ls Js B (tSeq (tRet te) u) As (m.to .rt) Bs := fun D σ W a f => by
  have h' := h σ W a
  cases m with
  | no => exact False.elim f
  | ex e => exact h' W (Le.refl _) _ fun cls d W2 e2 z => f cls d σ W2 (lx_at lx (a.mono e2)) z
  | ok x => exact h' W (Le.refl _) _ fun v W2 e p => f v W2 (a.le.trans e) (kr_ok a.le p)
/-- return x, x an owned thing of this def -/
theorem d_retO [Ob ρ] {pin : Option V} {u : TS} {r : ρ} (i : Nat) (hi : As[i]? = some (.ow pin r)) (hr : kr = fun x => kNw c.K x) : Den c X kr Ls Js B (tSeq (tRet (tVar i)) u) As (.rt r) Bs := fun D σ W a f => by
  obtain ⟨v, fp, hv, o, n, _⟩ := a.chg (β := ρ) (y := r) hi
  refine ⟨v, hv, f v W a.le ?_⟩
  rw [hr]
  exact ⟨fp, o, fun b hb => B.le.h.nope (n b hb)⟩
theorem d_ifp {tc : TT} {t u v : TS} {z : Bool} {a b : Out S J ρ} {k : S → Out T J ρ} (hc : Txp c B.W0 tc As z) (h1 : Den c X kr Ls Js B t As a Bs) (h2 : Den c X kr Ls Js B u As b Bs) (hk : ∀ s, Den c X kr Ls Js B v (Bs s) (k s) Cs) :
    Den c X kr Ls Js B (tSeq (tIfS tc t u) v) As ((if z then a else b).bind k) Cs := fun D σ W at_ f => by
  refine hc σ W at_ W (Le.refl _) _ fun W2 e2 => ?_
  cases z with
  | true => exact d_seq h1 hk D σ W2 (at_.mono e2) f
  | false => exact d_seq h2 hk D σ W2 (at_.mono e2) f
/-- a block that never goes on: its state is of the type Empty -/
def Out.abs (m : Out Empty J ρ) : Out S J ρ := m.bind fun e => nomatch e
@[simp] theorem Out.abs_rt (r : ρ) : (Out.rt r : Out Empty J ρ).abs = (Out.rt r : Out S J ρ) := rfl
@[simp] theorem Out.abs_bk (r : J) : (Out.bk r : Out Empty J ρ).abs = (Out.bk r : Out S J ρ) := rfl
@[simp] theorem Out.abs_ct (r : J) : (Out.ct r : Out Empty J ρ).abs = (Out.ct r : Out S J ρ) := rfl
@[simp] theorem Out.abs_ex (r : Exc) : (Out.ex r : Out Empty J ρ).abs = (Out.ex r : Out S J ρ) := rfl
@[simp] theorem Out.abs_no : (Out.no : Out Empty J ρ).abs = (Out.no : Out S J ρ) := rfl
def noSl : Empty → List Sl := fun e => nomatch e
/-- if c: a block that never goes on -/
theorem d_abs {t v : TS} {a : Out Empty J ρ} (h : Den c X kr Ls Js B t As a noSl) (D : Ends) : ∀ σ W, At c.K B.W0 As σ W → Fin c X kr Ls Js B Cs D a.abs → t { D with nx := v D } σ W.H := fun σ W at_ f => by
  refine h { D with nx := v D } σ W at_ ?_
  cases a with
  | nx s => exact s.elim
  | _ => exact f
theorem d_ifa {tc : TT} {t v : TS} {m : R Bool} {a : Out Empty J ρ} {k : Out T J ρ} (lx : Lx Ls As) (hc : Txr c B.W0 X tc As m) (h1 : Den c X kr Ls Js B t As a noSl) (hk : Den c X kr Ls Js B v As k Cs) :
    Den c X kr Ls Js B (tSeq (tIfS tc t tNext) v) As (m.to fun z => if z then a.abs else k) Cs := fun D σ W at_ f => by
  have h' := hc σ W at_
  cases m with
  | no => exact False.elim f
  | ex e => exact h' W (Le.refl _) _ fun cls d W2 e2 z => f cls d σ W2 (lx_at lx (at_.mono e2)) z
  | ok z =>
    refine h' W (Le.refl _) _ fun W2 e2 => ?_
    cases z with
    | true => exact d_abs (v := v) h1 D σ W2 (at_.mono e2) f
    | false => exact hk D σ W2 (at_.mono e2) f
theorem d_ifap {tc : TT} {t v : TS} {z : Bool} {a : Out Empty J ρ} {k : Out T J ρ} (hc : Txp c B.W0 tc As z) (h1 : Den c X kr Ls Js B t As a noSl) (hk : Den c X kr Ls Js B v As k Cs) :
    Den c X kr Ls Js B (tSeq (tIfS tc t tNext) v) As (if z then a.abs else k) Cs := fun D σ W at_ f => by
  refine hc σ W at_ W (Le.refl _) _ fun W2 e2 => ?_
  cases z with
  | true => exact d_abs (v := v) h1 D σ W2 (at_.mono e2) f
  | false => exact hk D σ W2 (at_.mono e2) f
/-- e alone -/
theorem d_drop {te : TE} {u : TS} {m : R α} {k : Out S J ρ} {kd : α → Kd} (lx : Lx Ls As) (h : Exr c B.W0 X te As m kd) (hk : Den c X kr Ls Js B u As k Bs) : Den c X kr Ls Js B (tSeq (tDrop te) u) As (m.to fun _ => k) Bs := fun D σ W a f => by
  have h' := h σ W a
  cases m with
  | no => exact False.elim f
  | ex e => exact h' W (Le.refl _) _ fun cls d W2 e2 z => f cls d σ W2 (lx_at lx (a.mono e2)) z
  | ok x => exact h' W (Le.refl _) _ fun v W2 e p => hk D _ W2 (a.mono e) f
/-- xs.append(e) -/
@[irreducible] def R.app (xs : List α) (x : α) : R (List α) := if xs.length < sizeLine then .ok (xs ++ [x]) else .no
@[irreducible] def R.ext (xs ys : List α) : R (List α) := if xs.length + ys.length ≤ sizeLine then .ok (xs ++ ys) else .no
theorem al_mono {K : Frag} [Rp α] {xs : List α} {vs : List V} {G H : Hp} (h : Al (fun x v => Rp.rep K x v G) xs vs) (s : Inc G H) : Al (fun x v => Rp.rep K x v H) xs vs := h.imp fun _ _ r => Rp.mono s r
theorem mut_keep {W : Wd} {p : Addr} {o : HO} (g : W.G p = none) {hi : imm o = false} (a : Addr) (h : a ∉ [p]) (n : W.H a ≠ none) : (W.mt p o g hi).H a = W.H a := upd_ne (fun q => h (List.mem_singleton.mpr q))
theorem d_app [Rp α] {pin : Option V} {te : TE} {u : TS} {xs : List α} {m : R α} {k : List α → Out S J ρ} (i : Nat) (hi : As[i]? = some (.ow pin xs)) (lx : Lx Ls As) (h : Exr c B.W0 X te As m fun x => kFr c.K x) (hk : ∀ ys : List α, Den c X kr Ls Js B u (As.set i (.ow pin ys)) (k ys) Bs) :
    Den c X kr Ls Js B (tSeq (tDrop (tBM c.K "list" rAppend (tVar i) (tCons te tNil))) u) As (m.to fun y => (R.app xs y).to k) Bs := fun D σ W a f => by
  have h' := h σ W a
  obtain ⟨w, fp, hw, rw_, n0, chg⟩ := a.chg (β := List α) (y := xs) hi
  obtain ⟨p, vs, ew, ef, g, hh, al, l⟩ := rw_
  subst ew ef
  refine ⟨_, hw, .inl ⟨rfl, vs, .inl (.inl hh)⟩, ?_⟩
  cases m with
  | no => exact False.elim f
  | ex e => exact h' W (Le.refl _) _ fun cls d W2 e2 z => f cls d σ W2 (lx_at lx (a.mono e2)) z
  | ok y =>
    refine h' W (Le.refl _) _ fun v W2 e r => ?_
    have f' : Fin c X kr Ls Js B Bs D (R.to (if xs.length < sizeLine then R.ok (xs ++ [y]) else R.no) k) := by
      have f2 : Fin c X kr Ls Js B Bs D ((R.app xs y).to k) := f
      unfold R.app at f2
      exact f2
    have g2 : W2.G p = none := e.o p g (by rw [hh]; exact fun z => nomatch z)
    by_cases cz : xs.length < sizeLine
    · rw [if_pos cz] at f'
      refine ⟨p, vs, v, rfl, rfl, e.h _ _ hh, al.1 ▸ cz, ?_⟩
      obtain ⟨w', fp', hw', rw', n0', chg'⟩ := (a.mono e).chg (β := List α) (y := xs ++ [y]) hi
      rw [hw] at hw'
      cases hw'
      obtain ⟨p', vs', ep, ef', g', hh', al', l'⟩ := rw'
      cases ep
      subst ef'
      have a3 := chg' (W2.mt p (.lst (vs ++ [v])) g2) [p] (Inc.refl _) (fun b _ hb _ => hb) (fun b hb n => mut_keep g2 b hb n) ⟨p, _, rfl, rfl, g2, upd_same, (al_mono al e.g).app (Al.one r), by simp; omega⟩ (fun b hb => .inl hb)
      exact hk _ D _ _ a3 f'
    · rw [if_neg cz] at f'
      exact False.elim f'
/-- xs[i] = e -/
@[irreducible] def R.set (xs : List α) (i : Int) (y : α) : R (List α) := match ixN xs.length i with
  | some j => .ok (xs.set j y)
  | none => .no
theorem d_setL [Rp α] {pin : Option V} {te ti : TE} {u : TS} {xs : List α} {m : R α} {n : R Int} {k : List α → Out S J ρ} (i : Nat) (hi : As[i]? = some (.ow pin xs)) (lx : Lx Ls As) (h : Exr c B.W0 X te As m fun x => kFr c.K x) (hn : Exr c B.W0 X ti As n fun x => kFr c.K x)
    (hk : ∀ ys : List α, Den c X kr Ls Js B u (As.set i (.ow pin ys)) (k ys) Bs) :
    Den c X kr Ls Js B (tSeq (tAsg te (gSub (tVar i) ti rSetL)) u) As (m.to fun y => n.to fun j => (R.set xs j y).to k) Bs := fun D σ W a f => by
  have h' := h σ W a
  have hn' := hn σ W a
  cases m with
  | no => exact False.elim f
  | ex e => exact h' W (Le.refl _) _ fun cls d W2 e2 z => f cls d σ W2 (lx_at lx (a.mono e2)) z
  | ok y =>
    refine h' W (Le.refl _) _ fun v W1 e1 r => ?_
    obtain ⟨w, fp, hw, rw_, _⟩ := (a.mono e1).chg (β := List α) (y := xs) hi
    refine ⟨w, hw, ?_⟩
    cases n with
    | no => exact False.elim f
    | ex e => exact hn' W1 e1 _ fun cls d W2 e2 z => f cls d σ W2 (lx_at lx (a.mono (e1.trans e2))) z
    | ok j =>
      refine hn' W1 e1 _ fun jv W2 e2 rj => ?_
      have rj' : jv = .int j := rj
      subst rj'
      obtain ⟨w', fp', hw', rw', n0', chg'⟩ := (a.mono (e1.trans e2)).chg (β := List α) (y := (match ixN xs.length j with | some q => xs.set q y | none => xs)) hi
      rw [hw] at hw'
      cases hw'
      obtain ⟨p, vs, ep, ef, g, hh, al, l⟩ := rw'
      subst ep ef
      have f' : Fin c X kr Ls Js B Bs D (R.to (match ixN xs.length j with | some q => .ok (xs.set q y) | none => .no) k) := by
        have f2 : Fin c X kr Ls Js B Bs D ((R.set xs j y).to k) := f
        unfold R.set at f2
        exact f2
      cases q : ixN xs.length j with
      | none => rw [q] at f'; exact False.elim f'
      | some z =>
        rw [q] at f' chg'
        refine ⟨p, vs, j, z, rfl, rfl, hh, al.1 ▸ q, ?_⟩
        have a3 := chg' (W2.mt p (.lst (vs.set z v)) g) [p] (Inc.refl _) (fun b _ hb _ => hb) (fun b hb n => mut_keep g b hb n) ⟨p, _, rfl, rfl, g, upd_same, al.set (Rp.mono e2.g r) z, by simp; omega⟩ (fun b hb => .inl hb)
        exact hk _ D _ _ a3 f'
/-- xs.extend(a list that stands in the heap) -/
def kLs (K : Frag) [Rp α] (xs : List α) : Kd := ⟨fun _ v W => ∃ p vs, v = .ref p ∧ W.H p = some (.lst vs) ∧ Al (fun x v => Rp.rep K x v W.G) xs vs ∧ xs.length ≤ sizeLine,
  fun ⟨p, vs, e, h, a, l⟩ q => ⟨p, vs, e, q.h _ _ h, al_mono a q.g, l⟩, fun _ h => h⟩
theorem fr_ls [Rp α] {K : Frag} {x : List α} {v : V} {W A : Wd} (h : (kFr K x).p A v W) : (kLs K x).p A v W := by
  obtain ⟨p, vs, e, hh, a, l⟩ := h
  exact ⟨p, vs, e, W.sub _ _ hh, a, l⟩
theorem own_ls [Rp α] {K : Frag} {x : List α} {v : V} {f : List Addr} {W A : Wd} (h : Ob.own K x v f W) : (kLs K x).p A v W := by
  obtain ⟨p, vs, e, ef, g, hh, a, l⟩ := h
  exact ⟨p, vs, e, hh, a, l⟩
theorem nw_ls [Rp α] {K : Frag} {x : List α} {v : V} {W A : Wd} (h : (kNw K x).p A v W) : (kLs K x).p A v W := by
  obtain ⟨f, o, _⟩ := h
  exact own_ls o
theorem e_lsF {W0 : Wd} [Rp α] {te : TE} {x : List α} (h : Exp c W0 te As (kFr c.K x)) : Exp c W0 te As (kLs c.K x) := exp_w h fun _ _ _ => fr_ls
theorem e_lsN {W0 : Wd} [Rp α] {te : TE} {x : List α} (h : Exp c W0 te As (kNw c.K x)) : Exp c W0 te As (kLs c.K x) := exp_w h fun _ _ _ => nw_ls
theorem r_lsN {W0 : Wd} [Rp α] {te : TE} {m : R (List α)} (h : Exr c W0 X te As m fun x => kNw c.K x) : Exr c W0 X te As m fun x => kLs c.K x := exr_w h fun _ _ _ _ => nw_ls
/-! ### what is walked -/
def Gives (J : It) (G1 : Hp) (xs : List α) (k : α → Kd) : Prop := ∀ (i : Nat) (W : Wd), Inc G1 W.G → (xs.length ≤ i → J.stop i W.H) ∧ ∀ x, xs[i]? = some x → J.go i W.H ∧ ∀ v H', J.yld i W.H v H' → ∃ W', W'.H = H' ∧ Le W W' ∧ (k x).p W v W'
def Ixr (c : Cn) (W0 : Wd) (X : WX) (wi : TI) (As : List Sl) (m : R (List α)) (k : α → Kd) : Prop := ∀ σ W, At c.K W0 As σ W →
  SatR m (fun xs => ∀ W1, Le W W1 → ∀ Q : It → Hp → Prop, (∀ J W2, Le W1 W2 → Gives J W2.G xs k → Q J W2.H) → wi σ W1.H Q) (fun e => ∀ W1, Le W W1 → ∀ Q, (∀ cls d W2, Le W1 W2 → ExAt c.M e cls d W2 → X cls d σ W2.H) → wi σ W1.H Q)
def Tg (c : Cn) (W0 : Wd) (g : TG) (As : List Sl) (k : α → Kd) (Bs : α → List Sl) : Prop := ∀ x σ W A v, At c.K W0 As σ W → (k x).p A v W → ∀ Q : St → Hp → Prop, (∀ σ', At c.K W0 (Bs x) σ' W → Q σ' W.H) → g v σ W.H Q
theorem g_name {W0 : Wd} [Rp α] (i : Nat) : Tg c W0 (gName i) As (fun x : α => kFr c.K x) (fun x => As.set i (.fr x)) := fun x σ W A v a r Q q => q _ (a.setF r)
theorem g_tup2 {W0 : Wd} [Rp α] [Rp β] (i j : Nat) : Tg c W0 (gTup c.K 2 (gCons (gName i) (gCons (gName j) gNil))) As (fun x : α × β => kFr c.K x) (fun x => (As.set i (.fr x.1)).set j (.fr x.2)) := fun x σ W A v a ⟨p, va, vb, ev, hp, r1, r2⟩ Q q =>
  ⟨p, [va, vb], ev, W.sub.sqt hp, rfl, va, [vb], rfl, vb, [], rfl, rfl, q _ ((a.setF r1).setF r2)⟩
theorem drop_cons {l : List α} {i : Nat} {x : α} (h : l[i]? = some x) : l.drop i = x :: l.drop (i + 1) := by
  obtain ⟨hi, e⟩ := List.getElem?_eq_some_iff.mp h
  rw [← e]
  exact List.drop_eq_getElem_cons hi
/-- for -/
theorem d_for {wi : TI} {g : TG} {tb u : TS} {m : R (List α)} {k : α → Kd} {s0 : S} {Ts : S → α → List Sl} {f : S → α → Out S S ρ} {kk : S → Out T J ρ} (lx : Lx Ls As) (hi : Ixr c B.W0 X wi As m k) (w : Wk As (Bs s0)) (hg : ∀ s (W1 : Wd), Tg c W1 g (Bs s) k (Ts s))
    (hb : ∀ s x B', Den c X kr Ls Bs B' tb (Ts s x) (f s x) Bs) (hk : ∀ s, Den c X kr Ls Js B u (Bs s) (kk s) Cs) : Den c X kr Ls Js B (tSeq (tFor wi g tb) u) As (m.to fun xs => (forL xs s0 f).bind kk) Cs := fun D σ W a fn => by
  have h' := hi σ W a
  cases m with
  | no => exact False.elim fn
  | ex e => exact h' W (Le.refl _) _ fun cls d W2 e2 z => fn cls d σ W2 (lx_at lx (a.mono e2)) z
  | ok xs =>
    refine h' W (Le.refl _) _ fun Jt W2 e2 gv => ?_
    have a2 : At c.K B.W0 (Bs s0) σ W2 := (a.mono e2).wk w
    let Wb := B.W0.rb W2 a2.le
    have eb : Le B.W0 Wb := Le.rb0 a2.le
    have fin0 : Fin c X kr Ls Js B Bs { D with nx := u D } (forL xs s0 f) := by
      have fn' : Fin c X kr Ls Js B Cs D ((forL xs s0 f).bind kk) := fn
      revert fn'
      generalize (forL xs s0 f : Out S J ρ) = o
      intro fn'
      cases o with
      | nx s => exact fun σ' W' a' => hk s D σ' W' a' fn'
      | _ => exact fn'
    refine ⟨fun i n σ H => ∃ (Wd' : Wd) (s : S), H = Wd'.H ∧ At c.K Wb (Bs s) σ Wd' ∧ n = xs.length - i ∧ i ≤ xs.length ∧ Fin c X kr Ls Js B Bs { D with nx := u D } (forL (xs.drop i) s f), ⟨xs.length, W2, s0, rfl, a2.rb, by simp, Nat.zero_le _, fin0⟩, ?_⟩
    rintro i n σ H ⟨Wi, s, rfl, ai, rfl, il, fi⟩
    have gi : Inc W2.G Wi.G := ai.le.g
    obtain ⟨g1, g2⟩ := gv i Wi gi
    by_cases ci : i = xs.length
    · refine .inl ⟨g1 (by omega), ?_⟩
      rw [ci, List.drop_length] at fi
      exact fi σ Wi (ai.re eb)
    · have hx : xs[i]? = some (xs[i]'(by omega)) := List.getElem?_eq_getElem (by omega)
      obtain ⟨go, yl⟩ := g2 _ hx
      rw [drop_cons hx] at fi
      refine .inr ⟨go, fun σ' H' => ∃ (Wd' : Wd) (s : S), H' = Wd'.H ∧ At c.K Wb (Bs s) σ' Wd' ∧ Fin c X kr Ls Js B Bs { D with nx := u D } (forL (xs.drop (i + 1)) s f), fun σ' H' ⟨W', s', e1, e2', e3⟩ => ⟨xs.length - (i + 1), by omega, W', s', e1, e2', rfl, by omega, e3⟩, fun v H' hy => ?_⟩
      obtain ⟨W', eh, le', kp⟩ := yl v H' hy
      subst eh
      refine hg s Wb _ σ W' Wi v (ai.mono le') kp _ fun σ2 a2' => ?_
      refine hb s _ (B.re Wb eb) _ σ2 W' a2' ?_
      have fi' : Fin c X kr Ls Js B Bs { D with nx := u D } (match f s (xs[i]'(by omega)) with
        | .nx s' => forL (xs.drop (i + 1)) s' f
        | .ct s' => forL (xs.drop (i + 1)) s' f
        | .bk s' => .nx s'
        | .rt r => .rt r
        | .ex e => .ex e
        | .no => .no) := fi
      revert fi'
      generalize f s (xs[i]'(by omega)) = o
      intro fi'
      cases o with
      | nx s' => exact fun σ3 W3 a3 => ⟨W3, s', rfl, a3, fi'⟩
      | ct s' => exact fun σ3 W3 a3 => ⟨W3, s', rfl, a3, fi'⟩
      | bk s' => exact fun σ3 W3 a3 => fi' σ3 W3 (a3.re eb)
      | rt r => exact fun v W3 l p => fi' v W3 (eb.trans l) p
      | ex e => exact fi'
      | no => exact fi'
end
end Fw

namespace Fw
open PySem L2
/-! ### what is walked -/
section
variable {c : Cn} {W0 : Wd} {X : WX} {As Bs : List Sl} {α β γ δ τ ρ : Type}
theorem i_list [Rp α] {te : TE} {m : R (List α)} (h : Exr c W0 X te As m fun x => kFr c.K x) : Ixr c W0 X (iList c.K te) As m fun x => kFr c.K x := fun σ W a => by
  have h' := h σ W a
  cases m with
  | no => trivial
  | ex e => exact fun W1 e1 Q q => h' W1 e1 _ q
  | ok xs =>
    refine fun W1 e1 Q q => h' W1 e1 _ fun v W2 e2 ⟨p, vs, ev, hp, al, l⟩ => ⟨p, ev, ⟨vs, .inl (.inl (W2.sub _ _ hp))⟩, q _ W2 e2 fun i W g => ?_⟩
    have hs : SqL c.K W.H p vs := .inl (.inl (W.sub _ _ (g _ _ hp)))
    refine ⟨fun hi => ⟨vs, hs, al.1 ▸ hi⟩, fun x hx => ?_⟩
    obtain ⟨u, hu, r⟩ := al.get hx
    refine ⟨⟨vs, u, hs, hu⟩, fun v H' ⟨eh, k⟩ => ⟨W, eh.symm, Le.refl _, ?_⟩⟩
    have := k vs hs
    rw [hu] at this
    cases this
    exact Rp.mono g r
theorem i_tup [Rp α] {te : TE} {m : R (Tup α)} (h : Exr c W0 X te As m fun x => kFr c.K x) : Ixr c W0 X (iTup c.K te) As (m.bind fun x => .ok x.l) fun x => kFr c.K x := fun σ W a => by
  have h' := h σ W a
  cases m with
  | no => trivial
  | ex e => exact fun W1 e1 Q q => h' W1 e1 _ q
  | ok xs =>
    refine fun W1 e1 Q q => h' W1 e1 _ fun v W2 e2 ⟨p, vs, ev, hp, al, l⟩ => ⟨p, ev, ⟨vs, W2.sub.sqt hp⟩, q _ W2 e2 fun i W g => ?_⟩
    have hs : SqT c.K W.H p vs := W.sub.sqt (g.sqt hp)
    refine ⟨fun hi => ⟨vs, hs, al.1 ▸ hi⟩, fun x hx => ?_⟩
    obtain ⟨u, hu, r⟩ := al.get hx
    refine ⟨⟨vs, u, hs, hu⟩, fun v H' ⟨eh, k⟩ => ⟨W, eh.symm, Le.refl _, ?_⟩⟩
    have := k vs hs
    rw [hu] at this
    cases this
    exact Rp.mono g r
/-- range -/
def rng (lo hi : Int) : List Int := (List.range (hi - lo).toNat).map fun i => lo + (i : Nat)
@[irreducible] def R.rng (lo hi : Int) : R (List Int) := if -16777216 ≤ lo ∧ lo ≤ 16777216 ∧ -16777216 ≤ hi ∧ hi ≤ 16777216 then .ok (Fw.rng lo hi) else .no
theorem rng_len (lo hi : Int) : (rng lo hi).length = (hi - lo).toNat := by simp [rng]
theorem rng_get {lo hi : Int} {i : Nat} {x : Int} (h : (rng lo hi)[i]? = some x) : i < (hi - lo).toNat ∧ x = lo + (i : Nat) := by
  unfold rng at h
  rw [List.getElem?_map] at h
  by_cases c : i < (hi - lo).toNat
  · rw [List.getElem?_range c] at h
    exact ⟨c, (Option.some.inj h).symm⟩
  · rw [List.getElem?_eq_none (by simp; omega)] at h
    cases h
theorem gives_rng (lo hi : Int) (G : Hp) : Gives (Itr lo (hi - lo).toNat) G (rng lo hi) fun x => kFr c.K x := fun i W g => by
  refine ⟨fun hi' => by rw [rng_len] at hi'; exact hi', fun x hx => ?_⟩
  obtain ⟨h1, h2⟩ := rng_get hx
  refine ⟨h1, fun v H' ⟨eh, ev⟩ => ⟨W, eh.symm, Le.refl _, ?_⟩⟩
  rw [h2]
  exact ev
theorem i_rng1 {te : TE} {m : R Int} (h : Exr c W0 X te As m fun x => kFr c.K x) : Ixr c W0 X (iRng1 (tCons te tNil)) As (m.bind fun n => R.rng 0 n) fun x => kFr c.K x := fun σ W a => by
  have h' := h σ W a
  cases m with
  | no => trivial
  | ex e => exact fun W1 e1 Q q => h' W1 e1 _ q
  | ok n =>
    show SatR (R.rng 0 n) _ _
    unfold R.rng
    split
    · rename_i z
      refine fun W1 e1 Q q => h' W1 e1 _ fun v W2 e2 r => ⟨n, by rw [show v = .int n from r], by omega, by omega, ?_⟩
      have g := gives_rng (c := c) 0 n W2.G
      rw [Int.sub_zero] at g
      exact q _ W2 e2 g
    · trivial
/-- enumerate of a list -/
def enum (xs : List α) : List (Int × α) := (List.range xs.length).zipWith (fun i x => ((i : Nat), x)) xs
theorem enum_len (xs : List α) : (enum xs).length = xs.length := by simp [enum]
theorem enum_get {xs : List α} {i : Nat} {x : Int × α} (h : (enum xs)[i]? = some x) : x.1 = (i : Nat) ∧ xs[i]? = some x.2 := by
  unfold enum at h
  rw [List.getElem?_zipWith] at h
  by_cases q : i < xs.length
  · rw [List.getElem?_range q, List.getElem?_eq_getElem q] at h
    cases h
    exact ⟨rfl, List.getElem?_eq_getElem q⟩
  · rw [List.getElem?_eq_none (l := List.range xs.length) (by simp; omega)] at h
    cases h
theorem i_enum [Rp α] {te : TE} {m : R (List α)} (h : Exr c W0 X te As m fun x => kFr c.K x) : Ixr c W0 X (iEnum c.K (tCons te tNil)) As (m.bind fun xs => .ok (enum xs)) fun x => kFr c.K x := fun σ W a => by
  have h' := h σ W a
  cases m with
  | no => trivial
  | ex e => exact fun W1 e1 Q q => h' W1 e1 _ q
  | ok xs =>
    refine fun W1 e1 Q q => h' W1 e1 _ fun v W2 e2 ⟨p, vs, ev, hp, al, l⟩ => ⟨p, vs, by rw [ev], .inl (.inl (W2.sub _ _ hp)), q _ W2 e2 fun i W g => ?_⟩
    have hs : SqL c.K W.H p vs := .inl (.inl (W.sub _ _ (g _ _ hp)))
    refine ⟨fun hi => ⟨vs, hs, by rw [enum_len] at hi; exact al.1 ▸ hi⟩, fun x hx => ?_⟩
    obtain ⟨x1, x2⟩ := enum_get hx
    obtain ⟨u, hu, r⟩ := al.get x2
    refine ⟨⟨vs, u, hs, hu⟩, fun v H' ⟨T, y, ev, nT, eh, k⟩ => ⟨W.nf T _, eh.symm, Le.nf nT, ?_⟩⟩
    have := k vs hs
    rw [hu] at this
    cases this
    exact ⟨T, _, _, ev, .inl (.inl upd_same), by rw [x1]; rfl, Rp.mono (Le.nf nT).g (Rp.mono g r)⟩
/-- the signs of a text -/
def signs (s : Str) : List Str := s.cps.toList.map fun x => ⟨#[x]⟩
theorem i_str {te : TE} {m : R Str} (h : Exr c W0 X te As m fun x => kFr c.K x) : Ixr c W0 X (iStr te) As (m.bind fun s => .ok (signs s)) fun x => kFr c.K x := fun σ W a => by
  have h' := h σ W a
  cases m with
  | no => trivial
  | ex e => exact fun W1 e1 Q q => h' W1 e1 _ q
  | ok s =>
    refine fun W1 e1 Q q => h' W1 e1 _ fun v W2 e2 ⟨ev, so⟩ => ⟨s, ev, q _ W2 e2 fun i W g => ?_⟩
    refine ⟨fun hi => by
      have hi' : s.cps.size ≤ i := by simpa [signs] using hi
      exact hi', fun x hx => ?_⟩
    have hi : i < s.cps.size := by have := (List.getElem?_eq_some_iff.mp hx).1; simpa [signs] using this
    refine ⟨hi, fun v H' ⟨eh, cd, hc, ev⟩ => ⟨W, eh.symm, Le.refl _, ?_⟩⟩
    unfold signs at hx
    rw [List.getElem?_map, Array.getElem?_toList, hc] at hx
    cases hx
    refine ⟨ev, (by decide : (1 : Nat) ≤ sizeLine), ?_⟩
    have h2 := so.2
    rw [Array.all_eq_true] at h2
    have := h2 i hi
    obtain ⟨_, e3⟩ := Array.getElem?_eq_some_iff.mp hc
    rw [e3] at this
    simpa using this
/-! ### comprehensions -/
def lcGo : List α → (α → R Bool) → (α → R β) → R (List β)
  | [], _, _ => .ok []
  | x :: xs, p, f => match p x with
    | .ok true => match f x with
      | .ok y => match lcGo xs p f with
        | .ok ys => .ok (y :: ys)
        | _ => .no
      | _ => .no
    | .ok false => lcGo xs p f
    | _ => .no
@[irreducible] def R.lc (xs : List α) (p : α → R Bool) (f : α → R β) : R (List β) := if xs.length ≤ sizeLine then lcGo xs p f else .no
theorem lcGo_ok (p : α → Bool) (f : α → β) : ∀ xs : List α, lcGo xs (fun x => .ok (p x)) (fun x => .ok (f x)) = .ok ((xs.filter p).map f)
  | [] => rfl
  | x :: xs => by
    unfold lcGo
    rw [lcGo_ok p f xs]
    cases h : p x with
    | true => simp [List.filter_cons, h]
    | false => simp [List.filter_cons, h]
def wipeS (As : List Sl) : List Nat → List Sl
  | [] => As
  | v :: vs => (wipeS As vs).set v .un
theorem At.wipe {K : Frag} {W : Wd} {σ : St} (h : At K W0 As σ W) : ∀ vs, At K W0 (wipeS As vs) (wipe σ vs) W
  | [] => h
  | v :: vs => (At.wipe h vs).set trivial
/-- what stands outside some slots is as it was -/
def Same (is : List Nat) (σ σ' : St) : Prop := σ'.length = σ.length ∧ ∀ j, j ∉ is → σ'[j]? = σ[j]?
theorem wipe_get {σ : St} {j : Nat} : ∀ {vs : List Nat}, (L2.wipe σ vs)[j]? = if j ∈ vs then (if j < σ.length then some none else none) else σ[j]?
  | [] => by simp [L2.wipe]
  | v :: vs => by
    show ((L2.wipe σ vs).set v none)[j]? = _
    rw [List.getElem?_set]
    by_cases q : v = j
    · subst q
      simp [wipe_length]
    · rw [if_neg q, wipe_get (vs := vs)]
      by_cases z : j ∈ vs
      · rw [if_pos z, if_pos (List.mem_cons_of_mem _ z)]
      · rw [if_neg z, if_neg (fun m => (List.mem_cons.mp m).elim (fun w => q w.symm) z)]
theorem wipe_same {σ σ2 : St} {vs : List Nat} (h : Same vs (L2.wipe σ vs) σ2) : L2.wipe σ2 vs = L2.wipe σ vs := by
  apply List.ext_getElem?
  intro j
  rw [wipe_get]
  by_cases z : j ∈ vs
  · rw [if_pos z, wipe_get, if_pos z, h.1, wipe_length]
  · rw [if_neg z]
    exact h.2 j z
/-- a target that touches some slots alone -/
def TgS (c : Cn) (g : TG) (is : List Nat) (As : List Sl) (k : α → Kd) (Bs : α → List Sl) : Prop := ∀ W0 x σ W A v, At c.K W0 As σ W → (k x).p A v W → ∀ Q : St → Hp → Prop, (∀ σ', Same is σ σ' → At c.K W0 (Bs x) σ' W → Q σ' W.H) → g v σ W.H Q
theorem same_set {σ : St} {i : Nat} {o : Option V} {is : List Nat} (h : i ∈ is) : Same is σ (σ.set i o) := ⟨by simp, fun j hj => by
  rw [List.getElem?_set, if_neg]
  intro q
  subst q
  exact hj h⟩
theorem Same.trans {is : List Nat} {a b d : St} (h : Same is a b) (k : Same is b d) : Same is a d := ⟨k.1.trans h.1, fun j hj => (k.2 j hj).trans (h.2 j hj)⟩
theorem gs_name [Rp α] (i : Nat) : TgS c (gName i) [i] As (fun x : α => kFr c.K x) (fun x => As.set i (.fr x)) := fun W0 x σ W A v a r Q q => q _ (same_set (by simp)) (a.setF r)
theorem gs_tup2 [Rp α] [Rp β] (i j : Nat) : TgS c (gTup c.K 2 (gCons (gName i) (gCons (gName j) gNil))) [i, j] As (fun x : α × β => kFr c.K x) (fun x => (As.set i (.fr x.1)).set j (.fr x.2)) := fun W0 x σ W A v a ⟨p, va, vb, ev, hp, r1, r2⟩ Q q =>
  ⟨p, [va, vb], ev, W.sub.sqt hp, rfl, va, [vb], rfl, vb, [], rfl, rfl, q _ ((same_set (by simp)).trans (same_set (by simp))) ((a.setF r1).setF r2)⟩
def xF : WX := fun _ _ _ _ => False
theorem t_yes : Txp c W0 tYes As true := fun σ W a W1 e Q q => q W1 (Le.refl _)
/-- what a comprehension walks: owned things too stay as they are meanwhile -/
def GivesH (J : It) (W1 : Wd) (xs : List α) (k : α → Kd) : Prop := ∀ (i : Nat) (W : Wd), Le W1 W → (xs.length ≤ i → J.stop i W.H) ∧ ∀ x, xs[i]? = some x → J.go i W.H ∧ ∀ v H', J.yld i W.H v H' → ∃ W', W'.H = H' ∧ Le W W' ∧ (k x).p W v W'
def IxH (c : Cn) (W0 : Wd) (X : WX) (wi : TI) (As : List Sl) (m : R (List α)) (k : α → Kd) : Prop := ∀ σ W, At c.K W0 As σ W →
  SatR m (fun xs => ∀ W1, Le W W1 → ∀ Q : It → Hp → Prop, (∀ J W2, Le W1 W2 → GivesH J W2 xs k → Q J W2.H) → wi σ W1.H Q) (fun e => ∀ W1, Le W W1 → ∀ Q, (∀ cls d W2, Le W1 W2 → ExAt c.M e cls d W2 → X cls d σ W2.H) → wi σ W1.H Q)
theorem ixh {wi : TI} {m : R (List α)} {k : α → Kd} (h : Ixr c W0 X wi As m k) : IxH c W0 X wi As m k := fun σ W a => by
  have h' := h σ W a
  cases m with
  | no => trivial
  | ex e => exact h'
  | ok xs => exact fun W1 e1 Q q => h' W1 e1 Q fun J W2 e2 g => q J W2 e2 fun i W e => g i W e.g
/-- [e for x in xs if t] -/
theorem r_lcG [Rp β] {wi : TI} {g : TG} {tt : TT} {te : TE} {vs : List Nat} {m : R (List α)} {k : α → Kd} {Ts : α → List Sl} {p : α → R Bool} {f : α → R β} (hi : IxH c W0 X wi As m k) (hg : TgS c g vs (wipeS As vs) k Ts)
    (ht : ∀ x, Txr c W0 xF tt (Ts x) (p x)) (he : ∀ x, Exr c W0 xF te (Ts x) (f x) fun y => kFr c.K y) : Exr c W0 X (tLc wi g tt te vs) As (m.bind fun xs => R.lc xs p f) fun ys => kNw c.K ys := fun σ W a => by
  have h' := hi σ W a
  cases m with
  | no => trivial
  | ex e => exact fun W1 e1 Q q => h' W1 e1 _ q
  | ok xs =>
    show SatR (R.lc xs p f) _ _
    unfold R.lc
    by_cases hl : xs.length ≤ sizeLine
    · rw [if_pos hl]
      cases hz : lcGo xs p f with
      | no => trivial
      | ex e =>
        exfalso
        revert hz
        clear hi h' ht he hl a
        induction xs with
        | nil => intro z; cases z
        | cons x xs ih =>
          unfold lcGo
          intro z
          split at z
          · split at z
            · split at z <;> cases z
            · cases z
          · exact ih z
          · cases z
      | ok zs =>
        refine fun W1 e1 Q q => h' W1 e1 _ fun Jt W2 e2 gv Dl hD => ?_
        refine ⟨fun i n H => ∃ (Wd' : Wd) (ys ws : List _) (ls : List V), H = Wd'.H ∧ Le W2 Wd' ∧ Wd'.G Dl = none ∧ Wd'.H Dl = some (.lst ls) ∧ Al (fun x v => Rp.rep c.K x v Wd'.G) ys ls ∧ ys.length ≤ i ∧ lcGo (xs.drop i) p f = .ok ws ∧ zs = ys ++ ws ∧ n = xs.length - i ∧ i ≤ xs.length,
          ⟨xs.length, W2.no Dl _ hD, [], zs, [], rfl, Le.no hD, W2.sub.nope hD, upd_same, Al.nil, Nat.zero_le _, hz, rfl, rfl, Nat.zero_le _⟩, ?_⟩
        rintro i n H ⟨Wi, ys, ws, ls, rfl, ei, gD, hDl, al, yl, hw, ez, rfl, il⟩
        obtain ⟨g1, g2⟩ := gv i Wi ei
        by_cases ci : i = xs.length
        · refine .inl ⟨g1 (by omega), ?_⟩
          rw [ci, List.drop_length] at hw
          cases hw
          rw [List.append_nil] at ez
          subst ez
          exact q _ Wi (e2.trans ei) ⟨[Dl], ⟨Dl, ls, rfl, rfl, gD, hDl, al, by omega⟩, fun b hb => by rw [List.mem_singleton.mp hb]; exact e2.fr hD⟩
        · have hx : xs[i]? = some (xs[i]'(by omega)) := List.getElem?_eq_getElem (by omega)
          obtain ⟨go, yld⟩ := g2 _ hx
          rw [drop_cons hx] at hw
          refine .inr ⟨go, fun H' => ∃ (Wd' : Wd) (ys ws : List _) (ls : List V), H' = Wd'.H ∧ Le W2 Wd' ∧ Wd'.G Dl = none ∧ Wd'.H Dl = some (.lst ls) ∧ Al (fun x v => Rp.rep c.K x v Wd'.G) ys ls ∧ ys.length ≤ i + 1 ∧ lcGo (xs.drop (i + 1)) p f = .ok ws ∧ zs = ys ++ ws,
            fun H' ⟨W', ys', ws', ls', a1, a2, a3, a4, a5, a6, a7, a8⟩ => ⟨xs.length - (i + 1), by omega, W', ys', ws', ls', a1, a2, a3, a4, a5, a6, a7, a8, rfl, by omega⟩, fun v H' hy => ?_⟩
          obtain ⟨W', eh, le', kp⟩ := yld v H' hy
          subst eh
          have aW : At c.K W0 As σ W' := a.mono ((e1.trans e2).trans (ei.trans le'))
          refine hg W0 _ _ W' Wi v (aW.wipe vs) kp _ fun σ2 sm a2 => ⟨wipe_same sm, ?_⟩
          have d3 : W'.H Dl = some (.lst ls) := le'.h _ _ hDl
          have ht' := ht (xs[i]'(by omega)) σ2 W' a2
          have he' := he (xs[i]'(by omega)) σ2
          unfold lcGo at hw
          revert hw ht' he'
          generalize p (xs[i]'(by omega)) = pb
          generalize f (xs[i]'(by omega)) = fb
          intro ht' he' hw
          cases pb with
          | no => cases hw
          | ex e => cases hw
          | ok b =>
            refine ht' W' (Le.refl _) _ fun W3 e3 => ?_
            cases b with
            | false =>
              rw [if_neg (by decide)]
              exact ⟨W3, ys, ws, ls, rfl, (ei.trans le').trans e3, e3.o _ (le'.o _ gD (by rw [hDl]; exact fun z => nomatch z)) (by rw [d3]; exact fun z => nomatch z), e3.h _ _ d3, al_mono al (le'.g.trans e3.g), by omega, hw, ez⟩
            | true =>
              rw [if_pos rfl]
              cases fb with
              | no => cases hw
              | ex e => cases hw
              | ok y =>
                refine he' W3 (a2.mono e3) W3 (Le.refl _) _ fun u W4 e4 r => ?_
                have gD4 : W4.G Dl = none := (le'.trans (e3.trans e4)).o _ gD (by rw [hDl]; exact fun z => nomatch z)
                have d4 : W4.H Dl = some (.lst ls) := e4.h _ _ (e3.h _ _ d3)
                dsimp only at hw
                cases hr : lcGo (xs.drop (i + 1)) p f with
                | no => rw [hr] at hw; cases hw
                | ex e => rw [hr] at hw; cases hw
                | ok ws' =>
                  rw [hr] at hw
                  cases hw
                  refine ⟨ls, d4, by have := al.1; omega, W4.mt Dl _ gD4, ys ++ [y], ws', ls ++ [u], rfl, (ei.trans (le'.trans (e3.trans e4))).mt gD4 hD, gD4, upd_same, (al_mono al (le'.trans (e3.trans e4)).g).app (Al.one r), by simp; omega, rfl, by rw [ez]; simp⟩
    · rw [if_neg hl]
      trivial
@[irreducible] def R.lcT (xs : List α) (p : α → Bool) (f : α → β) : R (List β) := if xs.length ≤ sizeLine then .ok ((xs.filter p).map f) else .no
@[irreducible] def R.lcM (xs : List α) (f : α → β) : R (List β) := if xs.length ≤ sizeLine then .ok (xs.map f) else .no
theorem lcT_eq (xs : List α) (p : α → Bool) (f : α → β) : R.lc xs (fun x => .ok (p x)) (fun x => .ok (f x)) = R.lcT xs p f := by
  unfold R.lc R.lcT
  rw [lcGo_ok]
theorem lcM_eq (xs : List α) (f : α → β) : R.lc xs (fun _ => .ok true) (fun x => .ok (f x)) = R.lcM xs f := by
  have h := lcT_eq xs (fun _ => true) f
  rw [h]
  unfold R.lcT R.lcM
  rw [List.filter_eq_self.mpr (by simp)]
theorem r_lcT [Rp β] {wi : TI} {g : TG} {tt : TT} {te : TE} {vs : List Nat} {m : R (List α)} {k : α → Kd} {Ts : α → List Sl} {p : α → Bool} {f : α → β} (hi : IxH c W0 X wi As m k) (hg : TgS c g vs (wipeS As vs) k Ts)
    (ht : ∀ x, Txp c W0 tt (Ts x) (p x)) (he : ∀ x, Exp c W0 te (Ts x) (kFr c.K (f x))) : Exr c W0 X (tLc wi g tt te vs) As (m.bind fun xs => R.lcT xs p f) fun ys => kNw c.K ys := by
  have h := r_lcG hi hg (fun x => txr_p (ht x)) (fun x => exr_p (k := fun y => kFr c.K y) (he x))
  rw [show (fun xs => R.lc xs (fun x => R.ok (p x)) fun x => R.ok (f x)) = fun xs => R.lcT xs p f from funext fun xs => lcT_eq xs p f] at h
  exact h
theorem r_lcM [Rp β] {wi : TI} {g : TG} {te : TE} {vs : List Nat} {m : R (List α)} {k : α → Kd} {Ts : α → List Sl} {f : α → β} (hi : IxH c W0 X wi As m k) (hg : TgS c g vs (wipeS As vs) k Ts)
    (he : ∀ x, Exp c W0 te (Ts x) (kFr c.K (f x))) : Exr c W0 X (tLc wi g tYes te vs) As (m.bind fun xs => R.lcM xs f) fun ys => kNw c.K ys := by
  have h := r_lcG hi hg (fun x => txr_p t_yes) (fun x => exr_p (k := fun y => kFr c.K y) (he x))
  rw [show (fun xs => R.lc xs (fun x => R.ok true) fun x => R.ok (f x)) = fun xs => R.lcM xs f from funext fun xs => lcM_eq xs f] at h
  exact h
/-! ### defs -/
def noOw : List Sl → Prop
  | [] => True
  | .un :: r => noOw r
  | @Sl.fr _ _ _ :: r => noOw r
  | @Sl.ow _ _ _ _ :: _ => False
theorem noOw_get {K : Frag} {o : Option V} {W : Wd} {f f' : List Addr} {A : Sl} : ∀ {As : List Sl} {i : Nat}, noOw As → As[i]? = some A → Hd K A o W f → Hd K A o W f' := by
  intro As
  induction As with
  | nil => intro i _ h; simp at h
  | cons B r ih =>
    intro i n h hd
    cases B with
    | un =>
      cases i with
      | zero => cases h; trivial
      | succ i => exact ih (i := i) n h hd
    | fr x =>
      cases i with
      | zero => cases h; exact hd
      | succ i => exact ih (i := i) n h hd
    | ow pin x => exact False.elim n
theorem noOw_uns : ∀ n, noOw (List.replicate n .un) := by
  intro n
  induction n with
  | zero => exact True.intro
  | succ n ih => exact ih
class Args (τ : Type) where
  reps : Frag → τ → List V → Hp → Prop
  mono : ∀ {K : Frag} {x : τ} {vs : List V} {G H : Hp}, Inc G H → reps K x vs G → reps K x vs H
  sl : τ → List Sl
  num : Nat
  len : ∀ {K : Frag} {x : τ} {vs : List V} {G : Hp}, reps K x vs G → vs.length = num
  no : ∀ (x : τ) (r : List Sl), noOw r → noOw (sl x ++ r)
  at_ : ∀ {K : Frag} {W0 W : Wd} {x : τ} {vs : List V} {rest : List Sl} {σ : St}, reps K x vs W.G → At K W0 rest σ W → At K W0 (sl x ++ rest) (vs.map some ++ σ) W
instance : Args Unit := ⟨fun _ _ vs _ => vs = [], fun _ h => h, fun _ => [], 0, fun h => by rw [h]; rfl, fun _ _ h => h, fun h a => by rw [h]; exact a⟩
theorem At.cons {K : Frag} {W0 W : Wd} {A : Sl} {o : Option V} {σ : St} (h : At K W0 As σ W) (hA : Hd K A o W []) : At K W0 (A :: As) (o :: σ) W := by
  obtain ⟨l, le, F, h1, h2, h3⟩ := h
  refine ⟨by simp [l], le, fun j => match j with | 0 => [] | j + 1 => F j, fun j B p a b => ?_, fun j k a n ha hb => ?_, fun j a ha => ?_⟩
  · cases j with
    | zero => cases a; cases b; exact hA
    | succ j => exact h1 j B p a b
  · cases j with
    | zero => cases ha
    | succ j =>
      cases k with
      | zero => cases hb
      | succ k => exact h2 j k a (fun q => n (congrArg _ q)) ha hb
  · cases j with
    | zero => cases ha
    | succ j => exact h3 j a ha
instance [Rp α] [Args τ] : Args (α × τ) where
  reps K x vs G := ∃ v r, vs = v :: r ∧ Rp.rep K x.1 v G ∧ Args.reps K x.2 r G
  mono s := fun ⟨v, r, e, a, b⟩ => ⟨v, r, e, Rp.mono s a, Args.mono s b⟩
  sl x := .fr x.1 :: Args.sl x.2
  num := Args.num τ + 1
  len := fun ⟨v, r, e, a, b⟩ => by rw [e, List.length_cons, Args.len b]
  no x r h := Args.no x.2 r h
  at_ := fun ⟨v, r, e, a, b⟩ h => by
    subst e
    exact (Args.at_ b h).cons ⟨v, rfl, a⟩
/-- the promise of a def: it hands back, or raises, what the mirror says -/
def spF (c : Cn) [Args τ] (f : τ → R ρ) (kr : ρ → Kd) : Sp := fun vs H Q E => ∃ (W : Wd) (x : τ), W.H = H ∧ Args.reps c.K x vs W.G ∧ match f x with
  | .ok r => ∀ v W', Le W W' → (kr r).p W v W' → Q v W'.H
  | .ex e => ∀ cls d W', Le W W' → ExAt c.M e cls d W' → E cls d W'.H
  | .no => False
theorem spF_len [Args τ] {f : τ → R ρ} {kr : ρ → Kd} (vs : List V) (H : Hp) (Q : VK) (E : XK) (h : spF c f kr vs H Q E) : vs.length = Args.num τ := by
  obtain ⟨W, x, _, r, _⟩ := h
  exact Args.len r
def uns (n : Nat) : List Sl := List.replicate n .un
theorem at_uns {K : Frag} {W : Wd} : ∀ n, At K W (uns n) (List.replicate n none) W
  | 0 => ⟨rfl, Le.refl _, fun _ => [], fun i A o a => by simp [uns] at a, fun i j a _ h => (List.not_mem_nil h).elim, fun i a h => (List.not_mem_nil h).elim⟩
  | n + 1 => (at_uns n).cons (A := .un) (o := none) trivial
theorem wk_uns : ∀ {As : List Sl} {n : Nat}, As.length = n → Wk As (uns n)
  | [], _, h => by subst h; exact Wk.nil
  | A :: As, _, h => by subst h; exact Wk.drop (wk_uns rfl)
/-- a def's ground at its start -/
def bd0 (W : Wd) : Bd := ⟨W, W, W, Le.refl _, Le.refl _⟩
abbrev x0 (E : XK) : WX := fun cls d _ H => E cls d H
/-- a body whose ways all return keeps the promise -/
theorem fn_run [Args τ] {f : τ → R ρ} {m : τ → Out Unit Unit ρ} {kr : ρ → Kd} {N : List Str} {n : Nat} {t : TS} {vs : List V} {H : Hp} {Q : VK} {E : XK} {Bs : Unit → List Sl} (h : spF c f kr vs H Q E) (hN : N.length = Args.num τ + n) (hm : ∀ x, f x = (m x).run)
    (hd : ∀ (W : Wd) x, Den c (x0 E) kr (uns N.length) (fun _ : Unit => []) (bd0 W) t (Args.sl x ++ uns n) (m x) Bs) : t { nx := fun _ H' => Q .non H', rt := Q } (start N vs) H := by
  obtain ⟨W, x, eh, r, k⟩ := h
  subst eh
  have hl := Args.len r
  have a0 : At c.K W (Args.sl x ++ uns n) (start N vs) W := by
    unfold L2.start
    rw [hl, hN, Nat.add_sub_cancel_left]
    exact Args.at_ r (at_uns n)
  refine hd W x _ _ W a0 ?_
  rw [hm x] at k
  revert k
  generalize m x = o
  intro k
  cases o with
  | nx s => exact k.elim
  | rt r => exact fun v W' l p => k v W' l p
  | bk j => exact k.elim
  | ct j => exact k.elim
  | ex e => exact k.elim
  | no => exact k.elim
/-- arguments of a def, all frozen -/
def kAs (K : Frag) [Args τ] (x : τ) : KdA := ⟨fun _ vs W => Args.reps K x vs W.G, fun h e => Args.mono e.g h, fun _ h => h⟩
theorem aa_nil : Axp c W0 tNil As (kAs c.K ()) := fun σ W a W1 e Q q => q [] W1 (Le.refl _) rfl
theorem aa_cons [Rp α] [Args τ] {te : TE} {ta : TA} {x : α} {y : τ} (h : Exp c W0 te As (kFr c.K x)) (hr : Axp c W0 ta As (kAs c.K y)) : Axp c W0 (tCons te ta) As (kAs c.K (x, y)) := fun σ W a W1 e Q q =>
  h σ W a W1 e _ fun v W2 e2 p => hr σ W a W2 (e.trans e2) _ fun vs W3 e3 ps => q _ W3 (e2.trans e3) ⟨v, vs, rfl, Rp.mono e3.g p, ps⟩
theorem aar_nil : Axr c W0 X tNil As (.ok ()) (fun x => kAs c.K x) := axr_p (k := fun x => kAs c.K x) aa_nil
theorem aar_cons [Rp α] [Args τ] {te : TE} {ta : TA} {m : R α} {n : R τ} (h : Exr c W0 X te As m fun x => kFr c.K x) (hr : Axr c W0 X ta As n fun x => kAs c.K x) :
    Axr c W0 X (tCons te ta) As (m.bind fun x => n.bind fun y => .ok (x, y)) (fun z => kAs c.K z) := fun σ W a => by
  have h' := h σ W a
  have hr' := hr σ W a
  cases m with
  | no => trivial
  | ex e => exact fun W1 e1 Q q => h' W1 e1 _ q
  | ok x =>
    cases n with
    | no => trivial
    | ex e => exact fun W1 e1 Q q => h' W1 e1 _ fun v W2 e2 p => hr' W2 (e1.trans e2) _ fun cls d W3 e3 z => q cls d W3 (e2.trans e3) z
    | ok y => exact fun W1 e Q q => h' W1 e _ fun v W2 e2 p => hr' W2 (e.trans e2) _ fun vs W3 e3 ps => q _ W3 (e2.trans e3) ⟨v, vs, rfl, Rp.mono e3.g p, ps⟩
/-- a call of a def -/
theorem r_call [Args τ] {f : τ → R ρ} {kr : ρ → Kd} {ta : TA} {m : R τ} (h : Axr c W0 X ta As m fun x => kAs c.K x) : Exr c W0 X (tCallS (spF c f kr) (WE X) ta) As (m.bind f) kr := fun σ W a => by
  have h' := h σ W a
  cases m with
  | no => trivial
  | ex e => exact fun W1 e1 Q q => h' W1 e1 _ q
  | ok x =>
    show SatR (f x) _ _
    cases hf : f x with
    | no => trivial
    | ex e => exact fun W1 e1 Q q => h' W1 e1 _ fun vs W2 e2 r => ⟨W2, x, rfl, r, by rw [hf]; exact fun cls d W3 e3 z => q cls d W3 (e2.trans e3) z⟩
    | ok y => exact fun W1 e1 Q q => h' W1 e1 _ fun vs W2 e2 r => ⟨W2, x, rfl, r, by rw [hf]; exact fun v W3 e3 p => q v W3 (e2.trans e3) ((kr y).dn e2 p)⟩
theorem r_call1 [Args τ] {f : τ → R ρ} {kr : ρ → Kd} {ta : TA} {x : τ} (h : Axp c W0 ta As (kAs c.K x)) {m : R ρ} (hk : f x = m) : Exr c W0 X (tCallS (spF c f kr) (WE X) ta) As m kr := hk ▸ r_call (m := .ok x) h
end
end Fw

namespace Fw
open PySem L2
section
variable {c : Cn} {W0 : Wd} {X : WX} {As Bs : List Sl} {α β γ δ τ ρ : Type} {K : Frag}
/-! ### ints -/
theorem o_int (g : Int → Int → Int) : Op2 (rI0 fun i j => .int (g i j)) (fun x : Int => kFr K x) (fun x : Int => kFr K x) (fun x y => .ok (g x y)) (fun z : Int => kFr K z) := fun x y W0 W v w hv hw Q q => ⟨x, y, hv, hw, q _ W (Le.refl _) rfl⟩
theorem o_cmp (g : Int → Int → Bool) : Op2 (rI0 fun i j => .bl (g i j)) (fun x : Int => kFr K x) (fun x : Int => kFr K x) (fun x y => .ok (g x y)) (fun z : Bool => kFr K z) := fun x y W0 W v w hv hw Q q => ⟨x, y, hv, hw, q _ W (Le.refl _) rfl⟩
def R.cI (C : Int → Int → Prop) [DecidableRel C] (g : Int → Int → Int) (x y : Int) : R Int := if C x y then .ok (g x y) else .no
theorem o_chk {C : Int → Int → Prop} [DecidableRel C] (g : Int → Int → Int) : Op2 (rI C fun i j => .int (g i j)) (fun x : Int => kFr K x) (fun x : Int => kFr K x) (R.cI C g) (fun z : Int => kFr K z) := fun x y => by
  unfold R.cI
  split
  · rename_i z e
    by_cases h : C x y
    · rw [if_pos h] at e
      cases e
      exact fun W0 W v w hv hw Q q => ⟨x, y, hv, hw, h, q _ W (Le.refl _) rfl⟩
    · rw [if_neg h] at e; cases e
  · rename_i e z
    split at z <;> cases z
  · trivial
@[irreducible] def R.mod (x y : Int) : R Int := if 0 < y then .ok (x % y) else .no
@[irreducible] def R.fdiv (x y : Int) : R Int := if 0 < y ∧ y < 1073741824 then .ok (x / y) else .no
@[irreducible] def R.mul (x y : Int) : R Int := if (-(2 ^ 64) < x ∧ x < 2 ^ 64) ∨ (-(2 ^ 64) < y ∧ y < 2 ^ 64) then .ok (x * y) else .no
@[irreducible] def R.shl (x y : Int) : R Int := if 0 ≤ y ∧ y ≤ 1000000 ∧ x.natAbs < 2 ^ 64 then .ok (x * 2 ^ y.toNat) else .no
@[irreducible] def R.shr (x y : Int) : R Int := if 0 ≤ y then .ok (x / 2 ^ y.toNat) else .no
theorem o_of {C : Int → Int → Prop} [DecidableRel C] {g : Int → Int → Int} {f : Int → Int → R Int} (h : ∀ x y, f x y = if C x y then .ok (g x y) else .no) : Op2 (rI C fun i j => .int (g i j)) (fun x : Int => kFr K x) (fun x : Int => kFr K x) f (fun z : Int => kFr K z) := by
  have e : f = R.cI C g := funext fun x => funext fun y => h x y
  rw [e]
  exact o_chk g
instance : DecidableRel CDiv := fun i j => inferInstanceAs (Decidable (_ ∧ _))
instance : DecidableRel CPow := fun i j => inferInstanceAs (Decidable (_ ∧ _ ∧ _))
instance : DecidableRel CMul := fun i j => inferInstanceAs (Decidable (_ ∨ _))
theorem o_mod : Op2 (rI (fun _ j => 0 < j) fun i j => .int (i % j)) (fun x : Int => kFr K x) (fun x : Int => kFr K x) R.mod (fun z : Int => kFr K z) := o_of fun x y => by unfold R.mod; rfl
theorem o_fdiv : Op2 (rI CDiv fun i j => .int (i / j)) (fun x : Int => kFr K x) (fun x : Int => kFr K x) R.fdiv (fun z : Int => kFr K z) := o_of fun x y => by unfold R.fdiv; rfl
theorem o_mul : Op2 (rI CMul fun i j => .int (i * j)) (fun x : Int => kFr K x) (fun x : Int => kFr K x) R.mul (fun z : Int => kFr K z) := o_of fun x y => by unfold R.mul; rfl
theorem o_shl : Op2 (rI CPow fun i j => .int (i * 2 ^ j.toNat)) (fun x : Int => kFr K x) (fun x : Int => kFr K x) R.shl (fun z : Int => kFr K z) := o_of fun x y => by unfold R.shl; rfl
theorem o_shr : Op2 (rI (fun _ j => 0 ≤ j) fun i j => .int (i / 2 ^ j.toNat)) (fun x : Int => kFr K x) (fun x : Int => kFr K x) R.shr (fun z : Int => kFr K z) := o_of fun x y => by unfold R.shr; rfl
/-- the right one, or the left one, is written: nothing is left to be asked -/
theorem e_cr {C : Int → Int → Prop} {g : Int → Int → Int} {ta tb : TE} {x y : Int} (h : ∀ x, C x y) (ha : Exp c W0 ta As (kFr c.K x)) (hb : Exp c W0 tb As (kFr c.K y)) {k : Kd} (hk : kFr c.K (g x y) = k) : Exp c W0 (tOp (rI C fun i j => .int (g i j)) ta tb) As k := hk ▸ fun σ W a W1 e Q q =>
  ha σ W a W1 e _ fun v W2 e2 p => hb σ W a W2 (e.trans e2) _ fun w W3 e3 p3 => ⟨x, y, p, p3, h x, q _ W3 (e2.trans e3) rfl⟩
theorem r_cr {C : Int → Int → Prop} {g : Int → Int → Int} {ta tb : TE} {m : R Int} {y : Int} (h : ∀ x, C x y) (ha : Exr c W0 X ta As m fun x => kFr c.K x) (hb : Exp c W0 tb As (kFr c.K y)) : Exr c W0 X (tOp (rI C fun i j => .int (g i j)) ta tb) As (m.bind fun x => .ok (g x y)) fun z => kFr c.K z := fun σ W a => by
  have ha' := ha σ W a
  cases m with
  | no => trivial
  | ex e => exact fun W1 e1 Q q => ha' W1 e1 _ q
  | ok x => exact fun W1 e Q q => ha' W1 e _ fun v W2 e2 p => hb σ W a W2 (e.trans e2) _ fun w W3 e3 p3 => ⟨x, y, p, p3, h x, q _ W3 (e2.trans e3) rfl⟩
theorem e_cl {C : Int → Int → Prop} {g : Int → Int → Int} {ta tb : TE} {x y : Int} (h : ∀ y, C x y) (ha : Exp c W0 ta As (kFr c.K x)) (hb : Exp c W0 tb As (kFr c.K y)) {k : Kd} (hk : kFr c.K (g x y) = k) : Exp c W0 (tOp (rI C fun i j => .int (g i j)) ta tb) As k := hk ▸ fun σ W a W1 e Q q =>
  ha σ W a W1 e _ fun v W2 e2 p => hb σ W a W2 (e.trans e2) _ fun w W3 e3 p3 => ⟨x, y, p, p3, h y, q _ W3 (e2.trans e3) rfl⟩
/-! ### == of things without a heap -/
class Eqs (α : Type) [Rp α] where
  v : α → V
  rv : ∀ {K : Frag} {x : α} {u : V} {G : Hp}, Rp.rep K x u G → u = v x
  inj : ∀ {x y : α}, v x = v y → x = y
  sc : ∀ x y : α, scal (v x) (v y) = true
instance : Eqs Int := ⟨.int, fun h => h, fun h => by cases h; rfl, fun _ _ => rfl⟩
instance : Eqs Bool := ⟨.bl, fun h => h, fun h => by cases h; rfl, fun _ _ => rfl⟩
instance : Eqs Str := ⟨.str, fun h => h.1, fun h => by cases h; rfl, fun _ _ => rfl⟩
theorem eqs_dec [Rp α] [DecidableEq α] [Eqs α] (x y : α) : decide (Eqs.v x = Eqs.v y) = decide (x = y) := by
  by_cases h : x = y
  · subst h; simp
  · rw [decide_eq_false h, decide_eq_false (fun q => h (Eqs.inj q))]
theorem o_eq [Rp α] [DecidableEq α] [Eqs α] : Op2 rEq (fun x : α => kFr K x) (fun x : α => kFr K x) (fun x y => .ok (decide (x = y))) (fun z : Bool => kFr K z) := fun x y W0 W v w hv hw Q q => by
  have h1 : v = Eqs.v x := Eqs.rv hv
  have h2 : w = Eqs.v y := Eqs.rv hw
  subst h1 h2
  exact ⟨Eqs.sc x y, q _ W (Le.refl _) (by rw [eqs_dec]; rfl)⟩
theorem o_ne [Rp α] [DecidableEq α] [Eqs α] : Op2 rNe (fun x : α => kFr K x) (fun x : α => kFr K x) (fun x y => .ok (!decide (x = y))) (fun z : Bool => kFr K z) := fun x y W0 W v w hv hw Q q => by
  have h1 : v = Eqs.v x := Eqs.rv hv
  have h2 : w = Eqs.v y := Eqs.rv hw
  subst h1 h2
  exact ⟨Eqs.sc x y, q _ W (Le.refl _) (by rw [eqs_dec]; rfl)⟩
/-! ### the places of lists, tuples, texts -/
theorem ixN_at {xs : List α} {i : Int} : atI xs i = (ixN xs.length i).bind fun j => xs[j]? := rfl
theorem al_at [Rp α] {G : Hp} {xs : List α} {vs : List V} {i : Int} {x : α} (h : Al (fun x v => Rp.rep K x v G) xs vs) (hx : atI xs i = some x) : ∃ v, atI vs i = some v ∧ Rp.rep K x v G := by
  rw [ixN_at] at hx
  cases q : ixN xs.length i with
  | none => rw [q] at hx; cases hx
  | some j =>
    rw [q] at hx
    obtain ⟨v, hv, r⟩ := h.get hx
    exact ⟨v, by rw [ixN_at, ← h.1, q]; exact hv, r⟩
@[irreducible] def R.ix (xs : List α) (i : Int) : R α := .opt (atI xs i)
theorem opt_ok {o : Option α} {x : α} (h : R.opt o = .ok x) : o = some x := by
  cases o with
  | none => cases h
  | some y => cases h; rfl
theorem opt_ex {o : Option α} {e : Exc} (h : R.opt o = .ex e) : False := by
  cases o with
  | none => cases h
  | some y => cases h
theorem o_ixL [Rp α] : Op2 (rIxL K) (fun xs : List α => kSh K xs) (fun i : Int => kFr K i) R.ix (fun x : α => kFr K x) := fun xs i => by
  unfold R.ix
  split
  · rename_i z e
    intro W0 W v w ⟨p, vs, ev, hs, al, l⟩ hw Q q
    obtain ⟨u, hu, r⟩ := al_at al (opt_ok e)
    exact ⟨p, vs, i, u, ev, hw, hs, hu, q u W (Le.refl _) r⟩
  · rename_i e h; exact opt_ex h
  · trivial
theorem sign_ok {s : Str} {j : Nat} {d : Nat} (h : SOk s) (e : s.cps.toList[j]? = some d) : SOk ⟨#[d]⟩ := by
  refine ⟨(by decide : (1 : Nat) ≤ sizeLine), ?_⟩
  have h2 := h.2
  rw [Array.all_eq_true] at h2
  rw [Array.getElem?_toList] at e
  obtain ⟨hi, e3⟩ := Array.getElem?_eq_some_iff.mp e
  have := h2 j hi
  rw [e3] at this
  simpa using this
@[irreducible] def R.ixS (s : Str) (i : Int) : R Str := .opt ((atI s.cps.toList i).map fun d => ⟨#[d]⟩)
theorem o_ixS : Op2 rIxS (fun s : Str => kFr K s) (fun i : Int => kFr K i) R.ixS (fun x : Str => kFr K x) := fun s i => by
  unfold R.ixS
  split
  · rename_i z e
    intro W0 W v w ⟨ev, so⟩ hw Q q
    have e' := opt_ok e
    cases hd : atI s.cps.toList i with
    | none => rw [hd] at e'; cases e'
    | some d =>
      rw [hd] at e'
      cases e'
      refine ⟨s, i, d, ev, hw, so.1, hd, q _ W (Le.refl _) ⟨rfl, ?_⟩⟩
      rw [ixN_at] at hd
      cases hj : ixN s.cps.toList.length i with
      | none => rw [hj] at hd; cases hd
      | some j => rw [hj] at hd; exact sign_ok so hd
  · rename_i e h; exact opt_ex h
  · trivial
/-- t[0], t[1] of a pair and t[0] .. of three, four: the place is written -/
def AtC (r : R2) (k1 : α → Kd) (i : Int) (f : α → γ) (k3 : γ → Kd) : Prop := ∀ x (W0 W : Wd) v, (k1 x).p W0 v W → ∀ Q : VK, (∀ u W', Le W W' → (k3 (f x)).p W u W' → Q u W'.H) → r v (.int i) W.H Q
theorem e_ixc {r : R2} {ta tb : TE} {k1 : α → Kd} {k3 : γ → Kd} {i : Int} {f : α → γ} {x : α} (h : AtC r k1 i f k3) (ha : Exp c W0 ta As (k1 x)) (hb : Exp c W0 tb As (kFr c.K i)) {k : Kd} (hk : k3 (f x) = k) : Exp c W0 (tOp r ta tb) As k := hk ▸ fun σ W a W1 e Q q =>
  ha σ W a W1 e _ fun v W2 e2 p => hb σ W a W2 (e.trans e2) _ fun w W3 e3 p3 => by
    have hw : w = .int i := p3
    subst hw
    exact h x W1 W3 v ((k1 x).up p e3) Q fun u W4 e4 p4 => q u W4 (e2.trans (e3.trans e4)) ((k3 (f x)).dn (e2.trans e3) p4)
theorem r_ixc {r : R2} {ta tb : TE} {k1 : α → Kd} {k3 : γ → Kd} {i : Int} {f : α → γ} {m : R α} (h : AtC r k1 i f k3) (ha : Exr c W0 X ta As m k1) (hb : Exp c W0 tb As (kFr c.K i)) : Exr c W0 X (tOp r ta tb) As (m.bind fun x => .ok (f x)) k3 := fun σ W a => by
  have ha' := ha σ W a
  cases m with
  | no => trivial
  | ex e => exact fun W1 e1 Q q => ha' W1 e1 _ q
  | ok x =>
    refine fun W1 e Q q => ha' W1 e _ fun v W2 e2 p => hb σ W a W2 (e.trans e2) _ fun w W3 e3 p3 => ?_
    · have hw : w = .int i := p3
      subst hw
      exact h x W1 W3 v ((k1 x).up p e3) Q fun u W4 e4 p4 => q u W4 (e2.trans (e3.trans e4)) ((k3 (f x)).dn (e2.trans e3) p4)
section
variable [Rp α] [Rp β] [Rp γ] [Rp δ]
theorem p_0 : AtC (rIxT K) (fun x : α × β => kFr K x) 0 (fun x => x.1) (fun x : α => kFr K x) := fun x W0 W v ⟨p, a, b, ev, hs, r1, r2⟩ Q q => ⟨p, [a, b], 0, a, ev, rfl, W.sub.sqt hs, rfl, q a W (Le.refl _) r1⟩
theorem p_1 : AtC (rIxT K) (fun x : α × β => kFr K x) 1 (fun x => x.2) (fun x : β => kFr K x) := fun x W0 W v ⟨p, a, b, ev, hs, r1, r2⟩ Q q => ⟨p, [a, b], 1, b, ev, rfl, W.sub.sqt hs, rfl, q b W (Le.refl _) r2⟩
theorem p3_0 : AtC (rIxT K) (fun x : T3 α β γ => kFr K x) 0 (fun x => x.a) (fun x : α => kFr K x) := fun x W0 W v ⟨p, a, b, d, ev, hs, r1, r2, r3⟩ Q q => ⟨p, [a, b, d], 0, a, ev, rfl, W.sub.sqt hs, rfl, q a W (Le.refl _) r1⟩
theorem p3_2 : AtC (rIxT K) (fun x : T3 α β γ => kFr K x) 2 (fun x => x.c) (fun x : γ => kFr K x) := fun x W0 W v ⟨p, a, b, d, ev, hs, r1, r2, r3⟩ Q q => ⟨p, [a, b, d], 2, d, ev, rfl, W.sub.sqt hs, rfl, q d W (Le.refl _) r3⟩
end
/-! ### built-ins of one, two arguments -/
def rLen (K : Frag) : List V → Hp → VK → Prop := fun xs H Q => ∃ p ys, xs = [.ref p] ∧ (SqL K H p ys ∨ SqT K H p ys) ∧ Q (.int ys.length) H
theorem o_lenL [Rp α] : OpA (rLen K) (fun z : List α × Unit => aCons (kSh K z.1) aNil) (fun z => .ok (z.1.length : Int)) (fun n : Int => kFr K n) := fun z W0 W vs ⟨v, r, e, ⟨p, ls, ev, hs, al, l⟩, en⟩ Q q => by
  subst e en ev
  exact ⟨p, ls, rfl, .inl hs, q _ W (Le.refl _) (by rw [← al.1]; rfl)⟩
theorem o_lenS : OpA (fun xs H Q => ∃ z : Str, xs = [.str z] ∧ z.length ≤ sizeLine ∧ Q (.int z.length) H) (fun z : Str × Unit => aCons (kFr K z.1) aNil) (fun z => .ok (z.1.length : Int)) (fun n : Int => kFr K n) := fun z W0 W vs ⟨v, r, e, ⟨ev, so⟩, en⟩ Q q => by
  subst e en ev
  exact ⟨_, rfl, so.1, q _ W (Le.refl _) rfl⟩
/-- list(xs) -/
theorem o_list [Rp α] : OpA (fun xs H Q => ∃ p ys, xs = [.ref p] ∧ (SqL K H p ys ∨ SqT K H p ys) ∧ ∀ l, H l = none → Q (.ref l) (upd H l (.lst ys))) (fun z : List α × Unit => aCons (kSh K z.1) aNil) (fun z => .ok z.1) (fun n : List α => kNw K n) :=
  fun z W0 W vs ⟨v, r, e, ⟨p, ls, ev, hs, al, l⟩, en⟩ Q q => by
  subst e en ev
  exact ⟨p, ls, rfl, .inl hs, fun b hb => q _ (W.no b _ hb) (Le.no hb) ⟨[b], ⟨b, ls, rfl, rfl, W.sub.nope hb, upd_same, al, l⟩, fun a ha => by rw [List.mem_singleton.mp ha]; exact hb⟩⟩
/-! ### slices -/
def sl (xs : List α) (lo hi : Option Int) : List α := (xs.drop (HT.sIx xs.length 0 lo)).take (HT.sIx xs.length xs.length hi - HT.sIx xs.length 0 lo)
theorem sl_len (xs : List α) (lo hi : Option Int) : (sl xs lo hi).length ≤ xs.length := by
  unfold sl
  rw [List.length_take, List.length_drop]
  omega
def Opo (c : Cn) (W0 : Wd) (X : WX) (to : TO) (As : List Sl) (m : R (Option Int)) : Prop := ∀ σ W, At c.K W0 As σ W → SatR m (fun o => ∀ W1, Le W W1 → ∀ Q : Option Int → Hp → Prop, (∀ W2, Le W1 W2 → Q o W2.H) → to σ W1.H Q)
  (fun e => ∀ W1, Le W W1 → ∀ Q, (∀ cls d W2, Le W1 W2 → ExAt c.M e cls d W2 → X cls d σ W2.H) → to σ W1.H Q)
theorem po_none' : Opo c W0 X tNoPart As (.ok none) := fun σ W a W1 e Q q => q W1 (Le.refl _)
theorem po_some' {te : TE} {m : R Int} (h : Exr c W0 X te As m fun x => kFr c.K x) : Opo c W0 X (tPart te) As (m.bind fun x => .ok (some x)) := fun σ W a => by
  have h' := h σ W a
  cases m with
  | no => trivial
  | ex e => exact fun W1 e1 Q q => h' W1 e1 _ q
  | ok x => exact fun W1 e1 Q q => h' W1 e1 _ fun v W2 e2 p => ⟨x, p, q W2 e2⟩
theorem r_slL [Rp α] {te : TE} {tl th : TO} {m : R (List α)} {a b : R (Option Int)} (h : Exr c W0 X te As m fun x => kSh c.K x) (ha : Opo c W0 X tl As a) (hb : Opo c W0 X th As b) :
    Exr c W0 X (tSl (rSlL c.K) te tl th) As (m.bind fun xs => a.bind fun lo => b.bind fun hi => .ok (sl xs lo hi)) fun ys => kNw c.K ys := fun σ W at_ => by
  have h' := h σ W at_
  have ha' := ha σ W at_
  have hb' := hb σ W at_
  cases m with
  | no => trivial
  | ex e => exact fun W1 e1 Q q => h' W1 e1 _ q
  | ok xs =>
    cases a with
    | no => trivial
    | ex e => exact fun W1 e1 Q q => h' W1 e1 _ fun v W2 e2 p => ha' W2 (e1.trans e2) _ fun cls d W3 e3 z => q cls d W3 (e2.trans e3) z
    | ok lo =>
      cases b with
      | no => trivial
      | ex e => exact fun W1 e1 Q q => h' W1 e1 _ fun v W2 e2 p => ha' W2 (e1.trans e2) _ fun W3 e3 => hb' W3 (e1.trans (e2.trans e3)) _ fun cls d W4 e4 z => q cls d W4 (e2.trans (e3.trans e4)) z
      | ok hi =>
        refine fun W1 e1 Q q => h' W1 e1 _ fun v W2 e2 ⟨p, vs, ev, hs, al, l⟩ => ha' W2 (e1.trans e2) _ fun W3 e3 => hb' W3 (e1.trans (e2.trans e3)) _ fun W4 e4 => ⟨p, vs, ev, (e3.trans e4).h.sql hs, fun b hb => ?_⟩
        refine q _ (W4.no b _ hb) ((e2.trans (e3.trans e4)).trans (Le.no hb)) ⟨[b], ⟨b, _, rfl, rfl, W4.sub.nope hb, upd_same, ?_, Nat.le_trans (sl_len xs lo hi) l⟩, fun a ha => by rw [List.mem_singleton.mp ha]; exact (e2.trans (e3.trans e4)).fr hb⟩
        unfold sl cutV
        rw [← al.1]
        exact ((al_mono al (e3.trans e4).g).drop _).take _
/-! ### texts -/
@[irreducible] def R.addS (x y : Str) : R Str := if x.length + y.length ≤ sizeLine then .ok (x ++ y) else .no
theorem o_addS : Op2 (fun x y H Q => ∃ i j, x = .str i ∧ y = .str j ∧ i.length + j.length ≤ sizeLine ∧ Q (.str (i ++ j)) H) (fun x : Str => kFr K x) (fun x : Str => kFr K x) R.addS (fun z : Str => kFr K z) := fun x y => by
  unfold R.addS
  split
  · rename_i z e
    split at e
    · rename_i h
      cases e
      exact fun W0 W v w hv hw Q q => ⟨x, y, hv.1, hw.1, h, q _ W (Le.refl _) ⟨rfl, by show (x.cps ++ y.cps).size ≤ sizeLine; rw [Array.size_append]; exact h, by
        show (x.cps ++ y.cps).all _ = true
        rw [Array.all_append, hv.2.2, hw.2.2]; rfl⟩⟩
    · cases e
  · rename_i e h
    split at h <;> cases h
  · trivial
/-- whether a text lies in one -/
def inS (x y : Str) : Bool := !(Builtin.Str.occurrences y x 0 y.length 1).isEmpty
theorem o_ninS : Op2 (fun x y H Q => ∃ i j, x = .str i ∧ y = .str j ∧ Q (.bl (!(!(Builtin.Str.occurrences j i 0 j.length 1).isEmpty))) H) (fun x : Str => kFr K x) (fun x : Str => kFr K x) (fun x y => .ok (!inS x y)) (fun z : Bool => kFr K z) := fun x y W0 W v w hv hw Q q => ⟨x, y, hv.1, hw.1, q _ W (Le.refl _) rfl⟩
theorem r_slS {te : TE} {tl th : TO} {m : R Str} {a b : R (Option Int)} (h : Exr c W0 X te As m fun x => kFr c.K x) (ha : Opo c W0 X tl As a) (hb : Opo c W0 X th As b) (hk : ∀ z : Str, ∀ lo hi, SOk z → SOk (cutS z lo hi)) :
    Exr c W0 X (tSl rSlS te tl th) As (m.bind fun xs => a.bind fun lo => b.bind fun hi => .ok (cutS xs lo hi)) fun ys => kFr c.K ys := fun σ W at_ => by
  have h' := h σ W at_
  have ha' := ha σ W at_
  have hb' := hb σ W at_
  cases m with
  | no => trivial
  | ex e => exact fun W1 e1 Q q => h' W1 e1 _ q
  | ok xs =>
    cases a with
    | no => trivial
    | ex e => exact fun W1 e1 Q q => h' W1 e1 _ fun v W2 e2 p => ha' W2 (e1.trans e2) _ fun cls d W3 e3 z => q cls d W3 (e2.trans e3) z
    | ok lo =>
      cases b with
      | no => trivial
      | ex e => exact fun W1 e1 Q q => h' W1 e1 _ fun v W2 e2 p => ha' W2 (e1.trans e2) _ fun W3 e3 => hb' W3 (e1.trans (e2.trans e3)) _ fun cls d W4 e4 z => q cls d W4 (e2.trans (e3.trans e4)) z
      | ok hi => exact fun W1 e1 Q q => h' W1 e1 _ fun v W2 e2 ⟨ev, so⟩ => ha' W2 (e1.trans e2) _ fun W3 e3 => hb' W3 (e1.trans (e2.trans e3)) _ fun W4 e4 => ⟨xs, ev, so.1, q _ W4 (e2.trans (e3.trans e4)) ⟨rfl, hk xs lo hi so⟩⟩
end
end Fw

namespace Fw
open PySem L2
section
variable {c : Cn} {W0 : Wd} {X : WX} {As Bs : List Sl} {α β γ δ τ ρ : Type} {K : Frag}
/-! ### texts made of texts -/
def allOk (l : List Nat) : Bool := l.all (· < 0x110000)
theorem sok_iff {s : Str} : SOk s ↔ s.length ≤ sizeLine ∧ allOk s.cps.toList = true := by
  unfold SOk allOk
  rw [Array.all_toList]
theorem allOk_sub {a b : List Nat} (h : allOk b = true) (s : ∀ x ∈ a, x ∈ b) : allOk a = true := by
  unfold allOk at h ⊢
  rw [List.all_eq_true] at h ⊢
  exact fun x hx => h x (s x hx)
theorem sok_cut (z : Str) (lo hi : Option Int) (h : SOk z) : SOk (cutS z lo hi) := by
  rw [sok_iff] at h ⊢
  constructor
  · show (List.toArray _).size ≤ sizeLine
    rw [List.size_toArray, List.length_take, List.length_drop]
    have : z.cps.toList.length = z.length := rfl
    omega
  · refine allOk_sub h.2 fun x hx => ?_
    have hx' : x ∈ ((z.cps.toList.drop (HT.sIx z.length 0 lo)).take (HT.sIx z.length z.length hi - HT.sIx z.length 0 lo)) := by simpa [cutS] using hx
    exact List.mem_of_mem_drop (List.mem_of_mem_take hx')
theorem r_slT {te : TE} {tl th : TO} {m : R Str} {a b : R (Option Int)} (h : Exr c W0 X te As m fun x => kFr c.K x) (ha : Opo c W0 X tl As a) (hb : Opo c W0 X th As b) :
    Exr c W0 X (tSl rSlS te tl th) As (m.bind fun xs => a.bind fun lo => b.bind fun hi => .ok (cutS xs lo hi)) fun ys => kFr c.K ys := r_slS h ha hb fun z lo hi => sok_cut z lo hi
/-! ### isinstance of what is known -/
class Pt (α : Type) [Rp α] where
  ty : String
  is : ∀ {K : Frag} {x : α} {v : V} {G : Hp}, Rp.rep K x v G → TyX K G v (.type ty)
instance : Pt Int := ⟨"int", fun h => by cases h; exact .base (.int _)⟩
instance : Pt Bool := ⟨"bool", fun h => by cases h; exact .base (.bl _)⟩
instance : Pt Str := ⟨"str", fun h => by cases h.1; exact .base (.str _)⟩
instance : Pt Unit := ⟨"NoneType", fun h => by cases h; exact .base .non⟩
instance [Rp α] : Pt (List α) := ⟨"list", fun ⟨p, vs, e, h, _⟩ => by subst e; exact .base (.lst h)⟩
theorem sqt_ty {G : Hp} {p : Addr} {vs : List V} (h : SqT K G p vs) : TyX K G (.ref p) (.type "tuple") := by
  rcases h with (h | ⟨o, h⟩) | ⟨o, its, n, l, e, _⟩
  · exact .base (.tup h)
  · exact .fTuple h
  · exact .kTuple l e
instance [Rp α] [Rp β] : Pt (α × β) := ⟨"tuple", fun ⟨p, a, b, e, h, _⟩ => by subst e; exact sqt_ty h⟩
instance [Rp α] : Pt (Tup α) := ⟨"tuple", fun ⟨p, vs, e, h, _⟩ => by subst e; exact sqt_ty h⟩
instance [Rp α] [Rp β] [Rp γ] : Pt (T3 α β γ) := ⟨"tuple", fun ⟨p, a, b, d, e, h, _⟩ => by subst e; exact sqt_ty h⟩
instance [Rp α] [Rp β] [Rp γ] [Rp δ] : Pt (T4 α β γ δ) := ⟨"tuple", fun ⟨p, a, b, d, f, e, h, _⟩ => by subst e; exact sqt_ty h⟩
theorem e_ty (n : String) : Exp c W0 (tC (.ty n)) As (kV (.ty n)) := fun σ W a W1 e Q q => q _ W1 (Le.refl _) rfl
/-! ### defs that change one thing handed in -/
structure LeX (W : Wd) (fp : List Addr) (W' : Wd) : Prop where
  g : Inc W.G W'.G
  o : ∀ a, a ∉ fp → W.G a = none → W.H a ≠ none → W'.G a = none
  h : ∀ a, a ∉ fp → W.H a ≠ none → W'.H a = W.H a
/-- the ground without what is handed in to be changed -/
def Wd.wo (W : Wd) (fp : List Addr) (h : ∀ a ∈ fp, W.G a = none) : Wd := ⟨W.G, fun a => if a ∈ fp then none else W.H a, fun a o e => by
  by_cases q : a ∈ fp
  · rw [h a q] at e; cases e
  · dsimp only; rw [if_neg q]; exact W.sub a o e, fun a u h i => by
  have h' : (if a ∈ fp then none else W.H a) = some u := h
  by_cases q : a ∈ fp
  · rw [if_pos q] at h'; cases h'
  · rw [if_neg q] at h'; exact W.im a u h' i⟩
theorem wo_ni {W : Wd} {fp : List Addr} {h : ∀ a ∈ fp, W.G a = none} {a : Addr} (n : a ∉ fp) : (W.wo fp h).H a = W.H a := if_neg n
theorem wo_in {W : Wd} {fp : List Addr} {h : ∀ a ∈ fp, W.G a = none} {a : Addr} (n : a ∈ fp) : (W.wo fp h).H a = none := if_pos n
theorem Le.wo {W : Wd} {fp : List Addr} {h : ∀ a ∈ fp, W.G a = none} : Le (W.wo fp h) W := ⟨Inc.refl _, fun a o e => by
  by_cases q : a ∈ fp
  · rw [wo_in q] at e; cases e
  · rw [wo_ni q] at e; exact e, fun a g _ => g⟩
theorem LeX.of {W W' : Wd} {fp : List Addr} {h : ∀ a ∈ fp, W.G a = none} (e : Le (W.wo fp h) W') : LeX W fp W' := ⟨e.g, fun a q g m => e.o a g (by rw [wo_ni q]; exact m), fun a q m => by
  cases z : W.H a with
  | none => exact absurd z m
  | some o => exact e.h a o (by rw [wo_ni q]; exact z)⟩
/-- what it hands back, and what the changed thing is then -/
def krIO (K : Frag) [Ob α] (kr : ρ → Kd) (v : V) (z : ρ × α) : Kd := ⟨fun A u W => (kr z.1).p A u W ∧ ∃ f, Ob.own K z.2 v f W ∧ ∀ a ∈ f, A.H a = none, fun ⟨p, f, o, n⟩ e => ⟨(kr z.1).up p e, f, own_up o e, n⟩, fun e ⟨p, f, o, n⟩ => ⟨(kr z.1).dn e p, f, o, fun a ha => e.h.nope (n a ha)⟩⟩
def spIO (c : Cn) {τ' : Type} [Args τ] [Ob α] [Args τ'] (f : τ → α → τ' → R (ρ × α)) (kr : ρ → Kd) : Sp := fun vs H Q E => ∃ (W : Wd) (x : τ) (y : α) (z : τ') (vs1 : List V) (v : V) (vs2 : List V) (fp : List Addr),
  W.H = H ∧ vs = vs1 ++ v :: vs2 ∧ Args.reps c.K x vs1 W.G ∧ Ob.own c.K y v fp W ∧ Args.reps c.K z vs2 W.G ∧ match f x y z with
    | .ok r => ∀ u (W' : Wd) fp', LeX W fp W' → (kr r.1).p W u W' → Ob.own c.K r.2 v fp' W' → (∀ a ∈ fp', a ∈ fp ∨ W.H a = none) → Q u W'.H
    | _ => False
theorem spIO_len {τ' : Type} [Args τ] [Ob α] [Args τ'] {f : τ → α → τ' → R (ρ × α)} {kr : ρ → Kd} (vs : List V) (H : Hp) (Q : VK) (E : XK) (h : spIO c f kr vs H Q E) : vs.length = Args.num τ + (Args.num τ' + 1) := by
  obtain ⟨W, x, y, z, vs1, v, vs2, fp, e, ev, r1, o, r2, _⟩ := h
  rw [ev, List.length_append, List.length_cons, Args.len r1, Args.len r2]
/-- the kinds of results that do not ask how the ground was -/
def Plain (kr : ρ → Kd) : Prop := ∀ r (A B : Wd) v W, (kr r).p A v W → (kr r).p B v W
theorem plain_fr [Rp ρ] : Plain (fun x : ρ => kFr K x) := fun r A B v W h => h
theorem At.consO {K : Frag} {W0 W : Wd} {σ : St} [Ob α] {y : α} {v : V} {fp : List Addr} (h : At K W0 As σ W) (no : noOw As) (o : Ob.own K y v fp W) (n : ∀ a ∈ fp, W0.H a = none) : At K W0 (.ow (some v) y :: As) (some v :: σ) W := by
  obtain ⟨l, le, F, h1, h2, h3⟩ := h
  refine ⟨by simp [l], le, fun j => match j with | 0 => fp | j + 1 => [], fun j B p a b => ?_, fun j k a n ha hb => ?_, fun j a ha => ?_⟩
  · cases j with
    | zero => cases a; cases b; exact ⟨v, rfl, o, fun u e => Option.some.inj e⟩
    | succ j => exact noOw_get no a (h1 j B p a b)
  · cases j with
    | zero => cases k with
      | zero => exact n rfl
      | succ k => cases hb
    | succ j => cases ha
  · cases j with
    | zero => exact ⟨(Ob.foot o a ha).1, (Ob.foot o a ha).2, n a ha⟩
    | succ j => cases ha
def ioR (o : Out Empty Unit (ρ × α)) : R (ρ × α) := match o with
  | .rt r => .ok r
  | _ => .no
section
variable {τ' : Type} [Args τ] [Ob α] [Args τ'] {N : List Str} {n : Nat} {t : TS} {vs : List V} {H : Hp} {Q : VK} {E : XK}
theorem io_start {W : Wd} {x : τ} {y : α} {z : τ'} {vs1 vs2 : List V} {v : V} {fp : List Addr} (hN : N.length = Args.num τ + (Args.num τ' + 1 + n)) (r1 : Args.reps c.K x vs1 W.G) (o : Ob.own c.K y v fp W) (r2 : Args.reps c.K z vs2 W.G) :
    At c.K (W.wo fp fun a h => (Ob.foot o a h).1) (Args.sl x ++ (.ow (some v) y :: (Args.sl z ++ uns n))) (L2.start N (vs1 ++ v :: vs2)) W := by
  have e : L2.start N (vs1 ++ v :: vs2) = vs1.map some ++ (some v :: (vs2.map some ++ List.replicate n none)) := by
    unfold L2.start
    have h : N.length - (vs1 ++ v :: vs2).length = n := by
      rw [hN, List.length_append, List.length_cons, Args.len r1, Args.len r2]
      omega
    rw [h]
    simp
  rw [e]
  have a0 : At c.K (W.wo fp fun a h => (Ob.foot o a h).1) (uns n) (List.replicate n none) W := (at_uns n).re Le.wo
  exact Args.at_ r1 ((Args.at_ r2 a0).consO (Args.no z _ (noOw_uns n)) o fun a ha => wo_in ha)
theorem io_done {W W' : Wd} {y y' : α} {v : V} {fp f : List Addr} (o : Ob.own c.K y v fp W) (e : Le (W.wo fp fun a h => (Ob.foot o a h).1) W') (o' : Ob.own c.K y' v f W') (hf : ∀ a ∈ f, (W.wo fp fun a h => (Ob.foot o a h).1).H a = none) : LeX W fp W' ∧ ∀ a ∈ f, a ∈ fp ∨ W.H a = none := by
  refine ⟨LeX.of e, fun a ha => ?_⟩
  by_cases q : a ∈ fp
  · exact .inl q
  · exact .inr (by have := hf a ha; rw [wo_ni q] at this; exact this)
theorem fn_ioR {f : τ → α → τ' → R (ρ × α)} {m : τ → α → τ' → Out Empty Unit (ρ × α)} {kr : ρ → Kd} (pl : Plain kr) (h : spIO c f kr vs H Q E) (hN : N.length = Args.num τ + (Args.num τ' + 1 + n)) (hm : ∀ x y z, f x y z = ioR (m x y z))
    (hd : ∀ (W : Wd) x y z v, Den c (x0 E) (krIO c.K kr v) (uns N.length) (fun _ : Unit => []) (bd0 W) t (Args.sl x ++ (.ow (some v) y :: (Args.sl z ++ uns n))) (m x y z) noSl) :
    t { nx := fun _ H' => Q .non H', rt := Q } (L2.start N vs) H := by
  obtain ⟨W, x, y, z, vs1, v, vs2, fp, eh, ev, r1, o, r2, k⟩ := h
  subst eh ev
  refine hd (W.wo fp fun a h => (Ob.foot o a h).1) x y z v _ _ W (io_start hN r1 o r2) ?_
  rw [hm] at k
  revert k
  generalize m x y z = q
  intro k
  cases q with
  | nx y' => exact y'.elim
  | rt r =>
    refine fun u W' l ⟨p, f', o', n0⟩ => ?_
    obtain ⟨lx, hf⟩ := io_done o l o' n0
    exact k u W' f' lx (pl _ _ _ _ _ p) o' hf
  | bk j => exact k.elim
  | ct j => exact k.elim
  | ex e => exact k.elim
  | no => exact k.elim
end
/-- return e, where a thing handed in was changed -/
theorem d_retIO {J : Type} {Ls : List Sl} {Js : J → List Sl} {B : Bd} [Ob α] {kr : ρ → Kd} {v : V} {te : TE} {u : TS} {m : R ρ} {y : α} {S : Type} {Bs : S → List Sl} (j : Nat) (hj : As[j]? = some (.ow (some v) y)) (lx : Lx Ls As) (h : Exr c B.W0 X te As m kr) :
    Den c X (krIO c.K kr v) Ls Js B (tSeq (tRet te) u) As (m.to fun r => .rt (r, y)) Bs := fun D σ W a f => by
  have h' := h σ W a
  cases m with
  | no => exact False.elim f
  | ex e => exact h' W (Le.refl _) _ fun cls d W2 e2 z => f cls d σ W2 (lx_at lx (a.mono e2)) z
  | ok x =>
    refine h' W (Le.refl _) _ fun w W2 e p => f w W2 (a.le.trans e) ?_
    obtain ⟨u, f', hu, o', pn, n0⟩ := (a.mono e).varO hj
    have eu := pn v rfl
    subst eu
    exact ⟨(kr x).dn (B.le.trans a.le) p, f', o', fun b hb => B.le.h.nope (n0 b hb)⟩
/-- arguments, one of them a thing to be changed -/
def kIO (K : Frag) {τ' : Type} [Args τ] [Args τ'] (a : τ) (w : V) (b : τ') : KdA := ⟨fun _ vs W => ∃ vs1 vs2, vs = vs1 ++ w :: vs2 ∧ Args.reps K a vs1 W.G ∧ Args.reps K b vs2 W.G,
  fun ⟨v1, v2, e, r1, r2⟩ q => ⟨v1, v2, e, Args.mono q.g r1, Args.mono q.g r2⟩, fun _ h => h⟩
def Axo (c : Cn) (W0 : Wd) (X : WX) {τ' : Type} [Args τ] [Args τ'] (ta : TA) (As : List Sl) (i : Nat) (m : R (τ × τ')) : Prop := ∀ σ W w, At c.K W0 As σ W → σ[i]? = some (some w) → SatR m (fun z => EvA ta σ W (kIO c.K z.1 w z.2)) (RzA c X ta σ W)
theorem axo_here {τ' : Type} [Args τ'] {ta : TA} {i : Nat} {n : R τ'} (h : Axr c W0 X ta As n fun x => kAs c.K x) : Axo (τ := Unit) c W0 X (tCons (tVar i) ta) As i (n.bind fun b => .ok ((), b)) := fun σ W w a hw => by
  have h' := h σ W a
  cases n with
  | no => trivial
  | ex e => exact fun W1 e1 Q q => ⟨w, hw, h' W1 e1 _ q⟩
  | ok b => exact fun W1 e1 Q q => ⟨w, hw, h' W1 e1 _ fun vs W2 e2 r => q _ W2 e2 ⟨[], vs, rfl, rfl, r⟩⟩
theorem e_cc {C : Int → Int → Prop} {g : Int → Int → Int} {ta tb : TE} {x y : Int} (h : C x y) (ha : Exp c W0 ta As (kFr c.K x)) (hb : Exp c W0 tb As (kFr c.K y)) {k : Kd} (hk : kFr c.K (g x y) = k) : Exp c W0 (tOp (rI C fun i j => .int (g i j)) ta tb) As k := hk ▸ fun σ W a W1 e Q q =>
  ha σ W a W1 e _ fun v W2 e2 p => hb σ W a W2 (e.trans e2) _ fun w W3 e3 p3 => ⟨x, y, p, p3, h, q _ W3 (e2.trans e3) rfl⟩
end
end Fw

namespace Fw
open PySem L2
section
variable {c : Cn} {W0 : Wd} {X : WX} {As Bs : List Sl} {α β γ δ τ ρ : Type} {K : Frag}
theorem e_chain {r r' : R2} {ta tb tc : TE} {k1 : α → Kd} {k2 : β → Kd} {k3 : γ → Kd} {g1 : α → β → Bool} {g2 : β → γ → Bool} {x : α} {y : β} {z : γ} (h1 : Op2 r k1 k2 (fun x y => .ok (g1 x y)) (fun b : Bool => kFr c.K b)) (h2 : Op2 r' k2 k3 (fun y z => .ok (g2 y z)) (fun b : Bool => kFr c.K b))
    (ha : Exp c W0 ta As (k1 x)) (hb : Exp c W0 tb As (k2 y)) (hc : Exp c W0 tc As (k3 z)) {k : Kd} (hk : kFr c.K (g1 x y && g2 y z) = k) : Exp c W0 (tChain r r' ta tb tc) As k := hk ▸ fun σ W a W1 e Q q =>
  ha σ W a W1 e _ fun v W2 e2 p => hb σ W a W2 (e.trans e2) _ fun w W3 e3 p3 => h1 x y W1 W3 v w ((k1 x).up p e3) ((k2 y).dn e2 p3) _ fun u W4 e4 p4 => ⟨g1 x y, p4, by
    cases hg : g1 x y with
    | false =>
      rw [if_neg (by decide)]
      refine q _ W4 (e2.trans (e3.trans e4)) ?_
      rw [hg]
      rfl
    | true =>
      rw [if_pos rfl]
      rw [hg] at q
      exact hc σ W a W4 (e.trans (e2.trans (e3.trans e4))) _ fun t W5 e5 p5 => h2 y z W2 W5 w t ((k2 y).up p3 (e4.trans e5)) ((k3 z).dn (e3.trans e4) p5) Q fun t' W6 e6 p6 => q _ W6 (e2.trans (e3.trans (e4.trans (e5.trans e6)))) p6⟩
/-- [x] * n -/
@[irreducible] def R.rep (xs : List α) (n : Int) : R (List α) := if n < 2 ^ 63 ∧ -(2 ^ 63) ≤ n ∧ xs.length * n.toNat ≤ sizeLine then .ok (List.replicate n.toNat xs).flatten else .no
theorem al_rep {P : α → V → Prop} {xs : List α} {vs : List V} (h : Al P xs vs) : ∀ n, Al P (List.replicate n xs).flatten (List.replicate n vs).flatten
  | 0 => Al.nil
  | n + 1 => by
    rw [List.replicate_succ, List.replicate_succ, List.flatten_cons, List.flatten_cons]
    exact h.app (al_rep h n)
theorem len_rep (xs : List α) (n : Nat) : (List.replicate n xs).flatten.length = xs.length * n := by
  simp [List.length_flatten, Nat.mul_comm]
theorem o_rep [Rp α] : Op2 rRep (fun xs : List α => kLs K xs) (fun i : Int => kFr K i) R.rep (fun x : List α => kNw K x) := fun xs n => by
  unfold R.rep
  split
  · rename_i z e
    by_cases h : n < 2 ^ 63 ∧ -(2 ^ 63) ≤ n ∧ xs.length * n.toNat ≤ sizeLine
    · rw [if_pos h] at e
      cases e
      intro W0 W v w ⟨p, vs, ev, hp, al, l⟩ hw Q q
      have hl : (List.replicate n.toNat xs).flatten.length ≤ sizeLine := by rw [len_rep]; exact h.2.2
      exact ⟨p, n, vs, ev, hw, hp, h.2.1, h.1, al.1 ▸ h.2.2, fun b hb => q _ (W.no b _ hb) (Le.no hb) ⟨[b], ⟨b, _, rfl, rfl, W.sub.nope hb, upd_same, al_rep al _, hl⟩, fun a ha => by rw [List.mem_singleton.mp ha]; exact hb⟩⟩
    · rw [if_neg h] at e; cases e
  · rename_i e h
    split at h <;> cases h
  · trivial
/-! ### == at any depth -/
class Pd (α : Type) [Rp α] where
  pd : α → PyData
  dp : ∀ {K : Frag} {x : α} {v : V} {G : Hp}, Rp.rep K x v G → Dp K G v (pd x)
  n : Nat
  dep : ∀ {K : Frag} {x : α} {v : V} {G : Hp}, Rp.rep K x v G → (pd x).depth ≤ n
  lay : ∀ {K : Frag} {x : α} {v : V} {G : Hp}, Rp.rep K x v G → (pd x).canLay0 = true
  eq : ∀ x y : α, PyData.eqv (pd x) (pd y) = true ↔ x = y
instance : Pd Int := ⟨.int, fun h => by cases h; exact .int _, 0, fun _ => by simp [PyData.depth], fun _ => by simp [PyData.canLay0], fun x y => by simp [PyData.eqv]⟩
instance : Pd Bool := ⟨.bool, fun h => by cases h; exact .bl _, 0, fun _ => by simp [PyData.depth], fun _ => by simp [PyData.canLay0], fun x y => by simp [PyData.eqv]⟩
instance : Pd Str := ⟨.str, fun h => by cases h.1; exact .str _, 0, fun _ => by simp [PyData.depth], fun h => by
  show PyData.canLay0 (.str _) = true
  unfold PyData.canLay0
  exact h.2.2, fun x y => by simp [PyData.eqv]⟩
instance : Pd Unit := ⟨fun _ => .none, fun h => by cases h; exact .non, 0, fun _ => by simp [PyData.depth], fun _ => by simp [PyData.canLay0], fun x y => by simp [PyData.eqv]⟩
section
variable [Rp α] [Pd α] [Rp β] [Pd β] [Rp γ] [Pd γ] [Rp δ] [Pd δ]
theorem dpAll {G : Hp} : ∀ {xs : List α} {vs : List V}, Al (fun x v => Rp.rep K x v G) xs vs → DpAll K G vs (xs.map Pd.pd)
  | [], [], _ => .nil
  | [], v :: vs, h => by have := h.1; simp at this
  | x :: xs, [], h => by have := h.1; simp at this
  | x :: xs, v :: vs, h => .cons (Pd.dp (h.2 0 x v rfl rfl)) (dpAll ⟨by have := h.1; simpa using this, fun i y w a b => h.2 (i + 1) y w a b⟩)
theorem depAll {G : Hp} : ∀ {xs : List α} {vs : List V}, Al (fun x v => Rp.rep K x v G) xs vs → PyData.depthAll (xs.map Pd.pd) ≤ Pd.n α
  | [], [], _ => by simp [PyData.depthAll]
  | [], v :: vs, h => by have := h.1; simp at this
  | x :: xs, [], h => by have := h.1; simp at this
  | x :: xs, v :: vs, h => by
    have h1 := Pd.dep (h.2 0 x v rfl rfl)
    have h2 := depAll (xs := xs) (vs := vs) ⟨by have := h.1; simpa using this, fun i y w a b => h.2 (i + 1) y w a b⟩
    simp only [List.map_cons, PyData.depthAll]
    omega
theorem layAll {G : Hp} : ∀ {xs : List α} {vs : List V}, Al (fun x v => Rp.rep K x v G) xs vs → PyData.canLayAll0 (xs.map Pd.pd) = true
  | [], [], _ => by simp [PyData.canLayAll0]
  | [], v :: vs, h => by have := h.1; simp at this
  | x :: xs, [], h => by have := h.1; simp at this
  | x :: xs, v :: vs, h => by
    have h1 := Pd.lay (h.2 0 x v rfl rfl)
    have h2 := layAll (xs := xs) (vs := vs) ⟨by have := h.1; simpa using this, fun i y w a b => h.2 (i + 1) y w a b⟩
    simp only [List.map_cons, PyData.canLayAll0, h1, h2, Bool.and_self]
theorem eqAll : ∀ xs ys : List α, PyData.eqvAll (xs.map Pd.pd) (ys.map Pd.pd) = true ↔ xs = ys
  | [], [] => by simp [PyData.eqvAll]
  | [], y :: ys => by simp [PyData.eqvAll]
  | x :: xs, [] => by simp [PyData.eqvAll]
  | x :: xs, y :: ys => by simp only [List.map_cons, PyData.eqvAll, Bool.and_eq_true, Pd.eq, eqAll xs ys, List.cons.injEq]
instance : Pd (List α) := ⟨fun xs => .list (xs.map Pd.pd), fun ⟨p, vs, e, h, al, l⟩ => by subst e; exact .lst (.inl (.inl h)) (dpAll al), Pd.n α + 1, fun ⟨p, vs, e, h, al, l⟩ => by
  simp only [PyData.depth]; have := depAll al; omega, fun ⟨p, vs, e, h, al, l⟩ => by simp only [PyData.canLay0]; exact layAll al, fun x y => by simp only [PyData.eqv]; exact eqAll x y⟩
instance : Pd (Tup α) := ⟨fun xs => .tuple (xs.l.map Pd.pd), fun ⟨p, vs, e, h, al, l⟩ => by subst e; exact .tup h (dpAll al), Pd.n α + 1, fun ⟨p, vs, e, h, al, l⟩ => by
  simp only [PyData.depth]; have := depAll al; omega, fun ⟨p, vs, e, h, al, l⟩ => by simp only [PyData.canLay0]; exact layAll al, fun x y => by
  simp only [PyData.eqv]; rw [eqAll]; cases x; cases y; simp⟩
instance : Pd (α × β) := ⟨fun x => .tuple [Pd.pd x.1, Pd.pd x.2], fun ⟨p, a, b, e, h, r1, r2⟩ => by subst e; exact .tup h (.cons (Pd.dp r1) (.cons (Pd.dp r2) .nil)), max (Pd.n α) (Pd.n β) + 1, fun ⟨p, a, b, e, h, r1, r2⟩ => by
  simp only [PyData.depth, PyData.depthAll]; have := Pd.dep r1; have := Pd.dep r2; omega, fun ⟨p, a, b, e, h, r1, r2⟩ => by simp only [PyData.canLay0, PyData.canLayAll0, Pd.lay r1, Pd.lay r2, Bool.and_self], fun x y => by
  simp only [PyData.eqv, PyData.eqvAll, Bool.and_eq_true, Pd.eq, and_true]; cases x; cases y; simp⟩
instance : Pd (T3 α β γ) := ⟨fun x => .tuple [Pd.pd x.a, Pd.pd x.b, Pd.pd x.c], fun ⟨p, a, b, d, e, h, r1, r2, r3⟩ => by subst e; exact .tup h (.cons (Pd.dp r1) (.cons (Pd.dp r2) (.cons (Pd.dp r3) .nil))), max (Pd.n α) (max (Pd.n β) (Pd.n γ)) + 1, fun ⟨p, a, b, d, e, h, r1, r2, r3⟩ => by
  simp only [PyData.depth, PyData.depthAll]; have := Pd.dep r1; have := Pd.dep r2; have := Pd.dep r3; omega, fun ⟨p, a, b, d, e, h, r1, r2, r3⟩ => by simp only [PyData.canLay0, PyData.canLayAll0, Pd.lay r1, Pd.lay r2, Pd.lay r3, Bool.and_self], fun x y => by
  simp only [PyData.eqv, PyData.eqvAll, Bool.and_eq_true, Pd.eq, and_true]; cases x; cases y; simp⟩
instance : Pd (T4 α β γ δ) := ⟨fun x => .tuple [Pd.pd x.a, Pd.pd x.b, Pd.pd x.c, Pd.pd x.d], fun ⟨p, a, b, d, f, e, h, r1, r2, r3, r4⟩ => by subst e; exact .tup h (.cons (Pd.dp r1) (.cons (Pd.dp r2) (.cons (Pd.dp r3) (.cons (Pd.dp r4) .nil)))), max (Pd.n α) (max (Pd.n β) (max (Pd.n γ) (Pd.n δ))) + 1, fun ⟨p, a, b, d, f, e, h, r1, r2, r3, r4⟩ => by
  simp only [PyData.depth, PyData.depthAll]; have := Pd.dep r1; have := Pd.dep r2; have := Pd.dep r3; have := Pd.dep r4; omega, fun ⟨p, a, b, d, f, e, h, r1, r2, r3, r4⟩ => by simp only [PyData.canLay0, PyData.canLayAll0, Pd.lay r1, Pd.lay r2, Pd.lay r3, Pd.lay r4, Bool.and_self], fun x y => by
  simp only [PyData.eqv, PyData.eqvAll, Bool.and_eq_true, Pd.eq, and_true]; cases x; cases y; simp⟩
end
mutual
theorem dp_mono {G H : Hp} (s : Inc G H) : ∀ {v : V} {d : PyData}, Dp K G v d → Dp K H v d
  | _, _, .non => .non
  | _, _, .bl b => .bl b
  | _, _, .int i => .int i
  | _, _, .str x => .str x
  | _, _, .lst h a => .lst (s.sql h) (dpAll_mono s a)
  | _, _, .tup h a => .tup (s.sqt h) (dpAll_mono s a)
theorem dpAll_mono {G H : Hp} (s : Inc G H) : ∀ {vs : List V} {ds : List PyData}, DpAll K G vs ds → DpAll K H vs ds
  | _, _, .nil => .nil
  | _, _, .cons h t => .cons (dp_mono s h) (dpAll_mono s t)
end
theorem shaped_of [Rp α] [Pd α] {x : α} {v : V} {G : Hp} (h : Rp.rep K x v G) (hn : Pd.n α ≤ 64) : SeqAt.shaped (Pd.pd x) = true := by
  unfold SeqAt.shaped
  rw [Bool.and_eq_true]
  exact ⟨Pd.lay h, decide_eq_true (Nat.le_trans (Pd.dep h) hn)⟩
theorem pd_dec [Rp α] [DecidableEq α] [Pd α] (x y : α) : PyData.eqv (Pd.pd x) (Pd.pd y) = decide (x = y) := by
  by_cases h : x = y
  · rw [decide_eq_true h]; exact (Pd.eq x y).mpr h
  · rw [decide_eq_false h]
    cases e : PyData.eqv (Pd.pd x) (Pd.pd y) with
    | false => rfl
    | true => exact absurd ((Pd.eq x y).mp e) h
end
theorem hu64 {A : Around} {k : Nat} (hr : Room k A) : A.units + 64 < cLine := by have := hr.un; omega
/-- the end of a law: it says True of every script -/
theorem law_end {K : Frag} {M : Str → Value} {f : Sq Int → R Bool} (H : ∀ ns : List Int, ns.length ≤ 63 → f ⟨ns⟩ = .ok true) (Hh : Hp) (a : Addr) (ns : List Int) (hl : ns.length ≤ 63) (hS : SqL K Hh a (ns.map V.int)) :
    spF ⟨K, M⟩ (fun x : Sq Int × Unit => f x.1) (fun x : Bool => kFr K x) [.ref a] Hh (fun v _ => v = .bl true) fun _ _ _ => False := by
  refine ⟨.all Hh, (⟨ns⟩, ()), rfl, ⟨.ref a, [], rfl, ⟨a, _, rfl, hS, ⟨by simp, fun i x v h1 h2 => ?_⟩, Nat.le_trans hl (by decide)⟩, rfl⟩, ?_⟩
  · rw [List.getElem?_map] at h2
    have h1' : ns[i]? = some x := h1
    rw [h1'] at h2
    exact (Option.some.inj h2).symm
  · dsimp only
    rw [H ns hl]
    exact fun v W' _ p => p
theorem cx_never {P : Program} {w : World} {outer : List Env} {H : Hp} {s : Shared} {e : Value} {s' : Shared} (h : L2.CX P w outer H s (fun _ _ _ => False) e s') : False := by
  obtain ⟨_, _, _, _, _, _, _, _, _, _, _, _, z⟩ := h
  exact z
end Fw

namespace Fw
open PySem L2
/-! ### xs[a:b:c], c written, above 0 -/
section
open PySem.Spec PyProof.Rows
variable {X : Cx}
end
section
variable {c : Cn} {W0 : Wd} {X : WX} {As Bs : List Sl} {α β γ δ τ ρ : Type} {K : Frag}
/-! ### all looked at as frozen, and back again -/
def Wd.bk (W W3 : Wd) (e : Le (.all W.H) W3) : Wd := ⟨fun a => match W.H a with
  | some _ => W.G a
  | none => W3.G a, W3.H, fun a o h => by
    dsimp only at h
    cases q : W.H a with
    | none => rw [q] at h; exact W3.sub a o h
    | some u => rw [q] at h; exact e.h a o (W.sub a o h), fun a u h i => by
    show (match W.H a with | some _ => W.G a | none => W3.G a) = some u
    cases q : W.H a with
    | none => exact W3.im a u h i
    | some o =>
      have h1 : W3.H a = some o := e.h a o q
      rw [h] at h1
      cases h1
      exact W.im a _ q i⟩
theorem bk_old {W W3 : Wd} {e : Le (.all W.H) W3} {a : Addr} {o : HO} (h : W.H a = some o) : (W.bk W3 e).G a = W.G a := by
  show (match W.H a with | some _ => W.G a | none => W3.G a) = W.G a
  rw [h]
theorem bk_new {W W3 : Wd} {e : Le (.all W.H) W3} {a : Addr} (h : W.H a = none) : (W.bk W3 e).G a = W3.G a := by
  show (match W.H a with | some _ => W.G a | none => W3.G a) = W3.G a
  rw [h]
theorem bk_le {W W3 : Wd} {e : Le (.all W.H) W3} : Le W (W.bk W3 e) := ⟨fun a o h => by rw [bk_old (W.sub a o h)]; exact h, e.h, fun a g n => by
  cases h : W.H a with
  | none => exact absurd h n
  | some u => rw [bk_old h]; exact g⟩
/-- what can't change is kept from the one to the other -/
def Tk (G G' : Hp) : Prop := ∀ p u, imm u = true → G p = some u → G' p = some u
theorem bk_tk {W W3 : Wd} {e : Le (.all W.H) W3} : Tk W3.G (W.bk W3 e).G := fun p u i h => (W.bk W3 e).im p u (W3.sub p u h) i
/-! ### borrowed -/
def kBw (K : Frag) [Rp α] (x : α) : Kd := ⟨fun _ v W => Rp.rep K x v W.H, fun h e => Rp.mono e.h h, fun _ h => h⟩
theorem fr_bw [Rp α] {x : α} {v : V} {A W : Wd} (h : (kFr K x).p A v W) : (kBw K x).p A v W := Rp.mono W.sub h
theorem own_bw [Fz α] {x : α} {v : V} {f : List Addr} {A W : Wd} (h : Ob.own K x v f W) : (kBw K x).p A v W := by
  have r : Rp.rep K x v (W.fz f).G := Fz.fz h
  exact Rp.mono (W.fz f).sub r
theorem nw_bw [Fz α] {x : α} {v : V} {A W : Wd} (h : (kNw K x).p A v W) : (kBw K x).p A v W := by
  obtain ⟨f, o, _⟩ := h
  exact own_bw (A := A) o
theorem e_varB [Fz α] {x : α} {pin : Option V} (i : Nat) (h : As[i]? = some (.ow pin x) := by rfl) : Exp c W0 (tVar i) As (kBw c.K x) := fun σ W a W1 e Q q => by
  obtain ⟨v, f, hv, r, _⟩ := a.varO h
  exact ⟨v, hv, q v W1 (Le.refl _) (own_bw (A := W1) (own_up r e))⟩
theorem e_bw [Rp α] {te : TE} {x : α} (h : Exp c W0 te As (kFr c.K x)) : Exp c W0 te As (kBw c.K x) := exp_w h fun _ _ _ => fr_bw
theorem e_bwN [Fz α] {te : TE} {x : α} (h : Exp c W0 te As (kNw c.K x)) : Exp c W0 te As (kBw c.K x) := exp_w h fun _ _ _ => nw_bw
theorem r_bwN [Fz α] {te : TE} {m : R α} (h : Exr c W0 X te As m fun x => kNw c.K x) : Exr c W0 X te As m fun x => kBw c.K x := exr_w h fun _ _ _ _ => nw_bw
/-! ### ==, in, isinstance of what is only read -/
def memB [DecidableEq α] (x : α) (xs : List α) : Bool := decide (x ∈ xs)
theorem o_eqB [Rp α] [DecidableEq α] [Pd α] (hn : Pd.n α ≤ 64 := by decide) : Op2 (rEqD K) (fun x : α => kBw K x) (fun x : α => kBw K x) (fun x y => .ok (decide (x = y))) (fun z : Bool => kFr K z) := fun x y W0 W v w hv hw Q q =>
  ⟨Pd.pd x, Pd.pd y, Pd.dp hv, Pd.dp hw, shaped_of hv hn, shaped_of hw hn, q _ W (Le.refl _) (by rw [pd_dec]; rfl)⟩
theorem o_neB [Rp α] [DecidableEq α] [Pd α] (hn : Pd.n α ≤ 64 := by decide) : Op2 (rNeD K) (fun x : α => kBw K x) (fun x : α => kBw K x) (fun x y => .ok (!decide (x = y))) (fun z : Bool => kFr K z) := fun x y W0 W v w hv hw Q q =>
  ⟨Pd.pd x, Pd.pd y, Pd.dp hv, Pd.dp hw, shaped_of hv hn, shaped_of hw hn, q _ W (Le.refl _) (by rw [pd_dec]; rfl)⟩
theorem any_pd [Rp α] [DecidableEq α] [Pd α] (x : α) : ∀ ys : List α, ((ys.map Pd.pd).any fun z => PyData.eqv z (Pd.pd x)) = decide (x ∈ ys)
  | [] => by simp
  | y :: ys => by
    rw [List.map_cons, List.any_cons, any_pd x ys, pd_dec]
    by_cases h : x = y
    · subst h; simp
    · rw [decide_eq_false (fun e => h e.symm)]
      simp [h]
theorem o_ninD [Rp α] [DecidableEq α] [Pd α] (hn : Pd.n α < 64 := by decide) : Op2 (rNotInD K) (fun x : α => kBw K x) (fun x : List α => kBw K x) (fun x y => .ok (!memB x y)) (fun z : Bool => kFr K z) := fun x y W0 W v w hv hw Q q =>
  ⟨Pd.pd x, y.map Pd.pd, Pd.dp hv, Pd.dp (α := List α) hw, shaped_of hv (Nat.le_of_lt hn), shaped_of (α := List α) hw (show Pd.n α + 1 ≤ 64 from hn), q _ W (Le.refl _) (by rw [any_pd]; rfl)⟩
theorem hu65 {A : Around} {k : Nat} (hr : Room k A) : A.units + 65 < cLine := by have := hr.un; omega
theorem o_isiB [Rp α] [Pt α] {T : String} {b : Bool} (h : kitB (Pt.ty α) T = some b) : OpA (rIsi K) (fun z : α × Unit => aCons (kBw K z.1) (aCons (kV (.ty T)) aNil)) (fun _ => .ok b) (fun b : Bool => kFr K b) := fun z W0 W vs ⟨v, r, e, hv, w, r2, e2, ew, en⟩ Q q => by
  have ew' : w = .ty T := ew
  subst e e2 en ew'
  exact ⟨v, .ty T, .type (Pt.ty α), .type T, b, rfl, .ty T, Pt.is hv, kit_ty h, q _ W (Le.refl _) rfl⟩
/-! ### xs + ys -/
@[irreducible] def R.cat (xs ys : List α) : R (List α) := if xs.length + ys.length ≤ sizeLine then .ok (xs ++ ys) else .no
theorem o_cat [Rp α] : Op2 rCat (fun xs : List α => kLs K xs) (fun ys : List α => kLs K ys) R.cat (fun x : List α => kNw K x) := fun xs ys => by
  unfold R.cat
  split
  · rename_i z e
    by_cases h : xs.length + ys.length ≤ sizeLine
    · rw [if_pos h] at e
      cases e
      intro W0 W v w ⟨p, vs, ev, hp, al, l⟩ ⟨p2, vs2, ev2, hp2, al2, l2⟩ Q q
      exact ⟨p, p2, vs, vs2, ev, ev2, hp, hp2, al.1 ▸ al2.1 ▸ h, fun b hb => q _ (W.no b _ hb) (Le.no hb) ⟨[b], ⟨b, _, rfl, rfl, W.sub.nope hb, upd_same, al.app al2, by rw [List.length_append]; exact h⟩, fun a ha => by rw [List.mem_singleton.mp ha]; exact hb⟩⟩
    · rw [if_neg h] at e; cases e
  · rename_i e h
    split at h <;> cases h
  · trivial
/-! ### one of two -/
instance [Rp α] [Rp β] : Rp (α ⊕ β) := ⟨fun K x v G => match x with
  | .inl a => Rp.rep K a v G
  | .inr b => Rp.rep K b v G, fun {K x v G H} s h => by
    cases x with
    | inl a => exact Rp.mono (α := α) s h
    | inr b => exact Rp.mono (α := β) s h⟩
theorem e_inr [Rp α] [Rp β] {te : TE} {x : β} (h : Exp c W0 te As (kFr c.K x)) : Exp c W0 te As (kFr c.K (Sum.inr x : α ⊕ β)) := exp_w h fun _ _ _ p => p
theorem r_inl [Rp α] [Rp β] {te : TE} {m : R α} (h : Exr c W0 X te As m fun x => kFr c.K x) : Exr c W0 X te As (m.bind fun x => .ok (Sum.inl x : α ⊕ β)) fun x => kFr c.K x := fun σ W a => by
  have h' := h σ W a
  cases m with
  | ok x => exact h'
  | ex e => exact h'
  | no => trivial
theorem r_inr [Rp α] [Rp β] {te : TE} {m : R β} (h : Exr c W0 X te As m fun x => kFr c.K x) : Exr c W0 X te As (m.bind fun x => .ok (Sum.inr x : α ⊕ β)) fun x => kFr c.K x := fun σ W a => by
  have h' := h σ W a
  cases m with
  | ok x => exact h'
  | ex e => exact h'
  | no => trivial
def R.getL (x : α ⊕ β) : R α := match x with
  | .inl a => .ok a
  | .inr _ => .no
def R.getR (x : α ⊕ β) : R β := match x with
  | .inl _ => .no
  | .inr b => .ok b
theorem r_getL [Rp α] [Rp β] {te : TE} {m : R (α ⊕ β)} (h : Exr c W0 X te As m fun x => kFr c.K x) : Exr c W0 X te As (m.bind R.getL) fun x => kFr c.K x := fun σ W a => by
  have h' := h σ W a
  cases m with
  | ok x =>
    cases x with
    | inl a => exact h'
    | inr b => trivial
  | ex e => exact h'
  | no => trivial
theorem r_getR [Rp α] [Rp β] {te : TE} {m : R (α ⊕ β)} (h : Exr c W0 X te As m fun x => kFr c.K x) : Exr c W0 X te As (m.bind R.getR) fun x => kFr c.K x := fun σ W a => by
  have h' := h σ W a
  cases m with
  | ok x =>
    cases x with
    | inl a => trivial
    | inr b => exact h'
  | ex e => exact h'
  | no => trivial
class Apart (α β : Type) [Rp α] [Rp β] [Pd α] [Pd β] where
  l : ∀ (a : α) (b : β), PyData.eqv (Pd.pd a) (Pd.pd b) = false
  r : ∀ (a : α) (b : β), PyData.eqv (Pd.pd b) (Pd.pd a) = false
instance [Rp α] [Pd α] : Apart Str (Tup α) := ⟨fun _ _ => by simp [Pd.pd, PyData.eqv], fun _ _ => by simp [Pd.pd, PyData.eqv]⟩
instance [Rp α] [Pd α] [Rp β] [Pd β] [Rp γ] [Pd γ] [Rp δ] [Pd δ] : Apart Int (T4 α β γ δ) := ⟨fun _ _ => by simp [Pd.pd, PyData.eqv], fun _ _ => by simp [Pd.pd, PyData.eqv]⟩
instance [Rp α] [Rp β] [Pd α] [Pd β] [Apart α β] : Pd (α ⊕ β) where
  pd x := match x with
    | .inl a => Pd.pd a
    | .inr b => Pd.pd b
  dp := fun {K x v G} h => by
    cases x with
    | inl a => exact Pd.dp (α := α) h
    | inr b => exact Pd.dp (α := β) h
  n := max (Pd.n α) (Pd.n β)
  dep := fun {K x v G} h => by
    cases x with
    | inl a => have := Pd.dep (α := α) h; dsimp only; omega
    | inr b => have := Pd.dep (α := β) h; dsimp only; omega
  lay := fun {K x v G} h => by
    cases x with
    | inl a => exact Pd.lay (α := α) h
    | inr b => exact Pd.lay (α := β) h
  eq x y := by
    cases x with
    | inl a =>
      cases y with
      | inl b => simp [Pd.eq]
      | inr b => simp [Apart.l]
    | inr a =>
      cases y with
      | inl b => simp [Apart.r]
      | inr b => simp [Pd.eq]
/-! ### None or a thing -/
class NN (α : Type) [Rp α] where
  nn : ∀ {K : Frag} {x : α} {v : V} {G : Hp}, Rp.rep K x v G → v ≠ .non
instance : NN Int := ⟨fun h => by cases h; exact fun z => nomatch z⟩
instance : NN Bool := ⟨fun h => by cases h; exact fun z => nomatch z⟩
instance : NN Str := ⟨fun h => by cases h.1; exact fun z => nomatch z⟩
instance [Rp α] : NN (List α) := ⟨fun ⟨p, vs, e, _⟩ => by subst e; exact fun z => nomatch z⟩
instance [Rp α] : NN (Tup α) := ⟨fun ⟨p, vs, e, _⟩ => by subst e; exact fun z => nomatch z⟩
instance [Rp α] [Rp β] : NN (α × β) := ⟨fun ⟨p, a, b, e, _⟩ => by subst e; exact fun z => nomatch z⟩
instance [Rp α] [Rp β] [Rp γ] : NN (T3 α β γ) := ⟨fun ⟨p, a, b, d, e, _⟩ => by subst e; exact fun z => nomatch z⟩
instance [Rp α] [Rp β] [Rp γ] [Rp δ] : NN (T4 α β γ δ) := ⟨fun ⟨p, a, b, d, f, e, _⟩ => by subst e; exact fun z => nomatch z⟩
theorem e_none [Rp α] {te : TE} (h : Exp c W0 te As (kFr c.K ())) : Exp c W0 te As (kFr c.K (none : Option α)) := exp_w h fun _ _ _ p => p
theorem e_some [Rp α] [NN α] {te : TE} {x : α} (h : Exp c W0 te As (kFr c.K x)) : Exp c W0 te As (kFr c.K (some x)) := exp_w h fun _ _ _ p => ⟨NN.nn p, p⟩
theorem r_some [Rp α] [NN α] {te : TE} {m : R α} (h : Exr c W0 X te As m fun x => kFr c.K x) : Exr c W0 X te As (m.bind fun x => .ok (some x)) fun x => kFr c.K x := fun σ W a => by
  have h' := h σ W a
  cases m with
  | ok x => exact fun W1 e1 Q q => h' W1 e1 Q fun v W2 e2 p => q v W2 e2 ⟨NN.nn p, p⟩
  | ex e => exact h'
  | no => trivial
theorem r_get [Rp α] {te : TE} {m : R (Option α)} (h : Exr c W0 X te As m fun x => kFr c.K x) : Exr c W0 X te As (m.bind R.opt) fun x => kFr c.K x := fun σ W a => by
  have h' := h σ W a
  cases m with
  | ok x =>
    cases x with
    | none => trivial
    | some y => exact fun W1 e1 Q q => h' W1 e1 Q fun v W2 e2 p => q v W2 e2 p.2
  | ex e => exact h'
  | no => trivial
instance : Eqs (Option Int) := ⟨fun x => match x with | none => .non | some i => .int i, fun {K x u G} h => by
  cases x with
  | none => exact h
  | some i => exact h.2, fun {x y} h => by
  cases x <;> cases y <;> cases h <;> rfl, fun x y => by cases x <;> cases y <;> rfl⟩
end
end Fw

namespace Fw
open PySem L2
section
open PySem.Spec PyProof.Rows
variable {X : Cx}
/-! ### a slice whose step is worked out -/
end
section
variable {c : Cn} {W0 : Wd} {X : WX} {As Bs : List Sl} {α β γ δ τ ρ : Type} {K : Frag}
end
end Fw

namespace Fw
open PySem L2
section
variable {c : Cn} {W0 : Wd} {X : WX} {As : List Sl} {α β γ δ τ ρ S J : Type} {Bs : S → List Sl} {K : Frag}
variable {kr : ρ → Kd} {Ls : List Sl} {Js : J → List Sl} {B : Bd}
/-! ### built-ins over lists of ints, texts of ints -/
instance (x : Str) : Decidable (SOk x) := inferInstanceAs (Decidable (_ ∧ _))
/-! ### four at once -/
end
end Fw

namespace Fw
open PySem L2
section
variable {X : Cx} {K : Frag}
/-! ### text * int -/
/-! ### methods of a text with one argument -/
end
end Fw

namespace Fw
open PySem L2
/-! ### dict(t), t a tuple of pairs -/
section
open PySem.Spec PyProof.Rows
variable {prog : Program} {w : World} {A : Around} {E : Value → Shared → Prop}
end
end Fw

namespace Fw
open PySem L2
/-! ### what is never come to -/
section
variable {J S ρ : Type} {c : Cn} {X : WX} {kr : ρ → Kd} {Ls : List Sl} {Js : J → List Sl} {B : Bd} {As : List Sl} {Bs : S → List Sl} {Y : Cx} {K : Frag}
/-! ### text.index, text.split -/
def soks (l : List Str) : Bool := l.all fun s => decide (s.length ≤ sizeLine) && s.cps.all (· < 0x110000)
theorem soks_at {l : List Str} (h : soks l = true) {s : Str} (hs : s ∈ l) : SOk s := by
  have := List.all_eq_true.mp h s hs
  rw [Bool.and_eq_true] at this
  exact ⟨of_decide_eq_true this.1, this.2⟩
@[irreducible] def R.split (a b : Str) : R (List Str) := if (b.length == 0) = false ∧ a.length + 2 ≤ sizeLine ∧ (Txt.split a b).length ≤ sizeLine ∧ soks (Txt.split a b) = true then .ok (Txt.split a b) else .no
end
end Fw

namespace Fw
open PySem L2
/-! ### dicts -/
section
variable {κ κ' α : Type} [DecidableEq κ] [DecidableEq κ']
theorem valV_inj {f : κ → κ'} (hf : ∀ a b, f a = f b → a = b) (k : κ) : ∀ kvs : List (κ × V), valV (kvs.map fun p => (f p.1, p.2)) (f k) = valV kvs k
  | [] => rfl
  | p :: r => by
    rw [List.map_cons]
    by_cases e : p.1 = k
    · rw [valV_pos e, valV_pos (congrArg f e)]
    · rw [valV_neg e, valV_neg (fun z => e (hf _ _ z)), valV_inj hf k r]
theorem putK_inj {f : κ → κ'} (hf : ∀ a b, f a = f b → a = b) (k : κ) (v : V) (kvs : List (κ × V)) : putK (kvs.map fun p => (f p.1, p.2)) (f k) v = (putK kvs k v).map fun p => (f p.1, p.2) := by
  unfold putK
  rw [valV_any, valV_any, valV_inj hf]
  split
  · rw [List.map_map, List.map_map]
    refine List.map_congr_left fun p _ => ?_
    show (if f p.1 = f k then (f p.1, v) else (f p.1, p.2)) = _
    by_cases e : p.1 = k
    · rw [if_pos (congrArg f e)]
      show _ = (fun p : κ × V => (f p.1, p.2)) (if p.1 = k then (p.1, v) else p)
      rw [if_pos e]
    · rw [if_neg (fun z => e (hf _ _ z))]
      show _ = (fun p : κ × V => (f p.1, p.2)) (if p.1 = k then (p.1, v) else p)
      rw [if_neg e]
  · rw [List.map_append]
    rfl
/-- kinds of keys -/
class DKy (κ : Type) [DecidableEq κ] [Rp κ] where
  ho : List (κ × V) → HO
  get : ∀ {K : Frag} {G H : Hp} {k : κ} {y : V} {p : Addr} {kvs : List (κ × V)}, Rp.rep K k y G → Inc G H → Rd H p (ho kvs) → DGet H p y (valV kvs k)
  put : ∀ {K : Frag} {G H : Hp} {k : κ} {y v : V} {p : Addr} {kvs : List (κ × V)}, Rp.rep K k y G → Inc G H → H p = some (ho kvs) → kvs.length < sizeLine → DPut H p y v (upd H p (ho (putK kvs k v)))
  isD : ∀ {H : Hp} {p : Addr} {kvs : List (κ × V)}, Rd H p (ho kvs) → IsD H p
  mu : ∀ kvs : List (κ × V), Mut (some (ho kvs))
theorem ho_mut {κ : Type} [DecidableEq κ] [Rp κ] [DKy κ] (kvs : List (κ × V)) : imm (DKy.ho kvs) = false := by
  have h := DKy.mu kvs
  cases e : DKy.ho kvs with
  | tup x => rw [e] at h; exact h.elim
  | frz o u => rw [e] at h; exact h.elim
  | xd x => rw [e] at h; exact h.elim
  | own x => rw [e] at h; exact h.elim
  | _ => rfl
def kI (i : Int) : Key := .inl i
def kS (s : Str) : Key := .inr s
theorem kI_inj : ∀ a b, kI a = kI b → a = b := fun a b h => by cases h; rfl
theorem kS_inj : ∀ a b, kS a = kS b → a = b := fun a b h => by cases h; rfl
instance : DKy Int where
  ho kvs := .dK (kvs.map fun p => (kI p.1, p.2))
  get := fun {K G H k y p kvs} r _ e => by
    have r' : y = .int k := r
    subst r'
    rw [← valV_inj kI_inj k kvs]
    exact .inl ⟨_, kI k, e, rfl, rfl⟩
  put := fun {K G H k y v p kvs} r _ e l => by
    have r' : y = .int k := r
    subst r'
    rw [← putK_inj kI_inj k v kvs]
    exact DPut.k (k := kI k) e (by rw [List.length_map]; exact l)
  isD := fun e => .inl ⟨_, e⟩
  mu := fun _ => trivial
instance : DKy Str where
  ho kvs := .dK (kvs.map fun p => (kS p.1, p.2))
  get := fun {K G H k y p kvs} r _ e => by
    have r' : y = .str k := r.1
    subst r'
    rw [← valV_inj kS_inj k kvs]
    exact .inl ⟨_, kS k, e, rfl, rfl⟩
  put := fun {K G H k y v p kvs} r _ e l => by
    have r' : y = .str k := r.1
    subst r'
    rw [← putK_inj kS_inj k v kvs]
    exact DPut.k (k := kS k) e (by rw [List.length_map]; exact l)
  isD := fun e => .inl ⟨_, e⟩
  mu := fun _ => trivial
/-- a tuple of ints that is known to be just that -/
structure TK where
  l : List Int
deriving DecidableEq
def kT (x : TK) : List Key := x.l.map kI
theorem mapkI_inj : ∀ a b : List Int, a.map kI = b.map kI → a = b
  | [], [], _ => rfl
  | [], _ :: _, h => by simp at h
  | _ :: _, [], h => by simp at h
  | x :: a, y :: b, h => by
    rw [List.map_cons, List.map_cons] at h
    injection h with h1 h2
    rw [kI_inj _ _ h1, mapkI_inj a b h2]
theorem kT_inj : ∀ a b, kT a = kT b → a = b := fun a b h => by
  obtain ⟨a⟩ := a
  obtain ⟨b⟩ := b
  exact congrArg TK.mk (mapkI_inj a b h)
instance : Rp TK := ⟨fun K x v G => ∃ p, v = .ref p ∧ G p = some (.tup (x.l.map V.int)) ∧ x.l.length ≤ sizeLine, fun s ⟨p, e, h, l⟩ => ⟨p, e, s _ _ h, l⟩⟩
theorem kT_v (x : TK) : (kT x).map L2.kV = x.l.map V.int := by
  unfold kT
  rw [List.map_map]
  rfl
instance : DKy TK where
  ho kvs := .dT (kvs.map fun p => (kT p.1, p.2))
  get := fun {K G H k y p kvs} ⟨b, r, hb, _⟩ s e => by
    subst r
    rw [← valV_inj kT_inj k kvs]
    exact .inr ⟨_, kT k, b, e, rfl, by rw [kT_v]; exact s _ _ hb, rfl⟩
  put := fun {K G H k y v p kvs} ⟨b, r, hb, _⟩ s e l => by
    subst r
    rw [← putK_inj kT_inj k v kvs]
    exact DPut.t (k := kT k) e (by rw [kT_v]; exact s _ _ hb) (by rw [List.length_map]; exact l)
  isD := fun e => .inr ⟨_, e⟩
  mu := fun _ => trivial
/-- such a tuple is a tuple -/
theorem tk_tup {K : Frag} {x : TK} {v : V} {G : Hp} (h : Rp.rep K x v G) : Rp.rep K (Tup.mk x.l) v G := by
  obtain ⟨p, e, hp, l⟩ := h
  refine ⟨p, _, e, .inl (.inl hp), ⟨by simp, fun i y w h1 h2 => ?_⟩, l⟩
  rw [List.getElem?_map, h1] at h2
  cases h2
  rfl
end
section
variable {κ α : Type} [DecidableEq κ]
def dval (x : List (κ × α)) (k : κ) : Option α := match x with
  | [] => none
  | p :: ps => if p.1 = k then some p.2 else dval ps k
def dput (x : List (κ × α)) (k : κ) (a : α) : List (κ × α) := if (dval x k).isSome = true then x.map (fun p => if p.1 = k then (p.1, a) else p) else x ++ [(k, a)]
theorem dput_len (x : List (κ × α)) (k : κ) (y : α) : (dput x k y).length ≤ x.length + 1 := by
  unfold dput
  split
  · rw [List.length_map]; omega
  · simp
def DR (K : Frag) [Rp α] : List (κ × α) → List (κ × V) → Hp → Prop
  | [], [], _ => True
  | p :: ps, q :: qs, G => p.1 = q.1 ∧ Rp.rep K p.2 q.2 G ∧ DR K ps qs G
  | _, _, _ => False
variable [Rp α] {K : Frag}
theorem DR.mono {G G' : Hp} (s : Inc G G') : ∀ {x : List (κ × α)} {q : List (κ × V)}, DR K x q G → DR K x q G'
  | [], [], h => h
  | _ :: _, _ :: _, h => ⟨h.1, Rp.mono s h.2.1, DR.mono s h.2.2⟩
  | [], _ :: _, h => h.elim
  | _ :: _, [], h => h.elim
theorem DR.len {G : Hp} : ∀ {x : List (κ × α)} {q : List (κ × V)}, DR K x q G → x.length = q.length
  | [], [], h => rfl
  | _ :: _, _ :: _, h => by rw [List.length_cons, List.length_cons, DR.len h.2.2]
  | [], _ :: _, h => h.elim
  | _ :: _, [], h => h.elim
theorem DR.none {G : Hp} {k : κ} : ∀ {x : List (κ × α)} {q : List (κ × V)}, DR K x q G → dval x k = none → valV q k = none
  | [], [], h, _ => rfl
  | a :: x, b :: q, h, e => by
    unfold dval at e
    by_cases c : a.1 = k
    · rw [if_pos c] at e; cases e
    · rw [if_neg c] at e
      rw [valV_neg (h.1 ▸ c)]
      exact DR.none h.2.2 e
  | [], _ :: _, h, _ => h.elim
  | _ :: _, [], h, _ => h.elim
theorem DR.some {G : Hp} {k : κ} {y : α} : ∀ {x : List (κ × α)} {q : List (κ × V)}, DR K x q G → dval x k = some y → ∃ v, valV q k = some v ∧ Rp.rep K y v G
  | [], [], h, e => by cases e
  | a :: x, b :: q, h, e => by
    unfold dval at e
    by_cases c : a.1 = k
    · rw [if_pos c] at e
      cases e
      exact ⟨b.2, valV_pos (h.1 ▸ c), h.2.1⟩
    · rw [if_neg c] at e
      rw [valV_neg (h.1 ▸ c)]
      exact DR.some h.2.2 e
  | [], _ :: _, h, _ => h.elim
  | _ :: _, [], h, _ => h.elim
theorem DR.isSome {G : Hp} {k : κ} {x : List (κ × α)} {q : List (κ × V)} (h : DR K x q G) : (valV q k).isSome = (dval x k).isSome := by
  cases e : dval x k with
  | none => rw [h.none e]; rfl
  | some y => obtain ⟨v, ev, _⟩ := h.some e; rw [ev]; rfl
theorem DR.repl {G : Hp} {k : κ} {y : α} {v : V} (r : Rp.rep K y v G) : ∀ {x : List (κ × α)} {q : List (κ × V)}, DR K x q G → DR K (x.map fun p => if p.1 = k then (p.1, y) else p) (q.map fun p => if p.1 = k then (p.1, v) else p) G
  | [], [], h => h
  | a :: x, b :: q, h => by
    rw [List.map_cons, List.map_cons]
    refine ⟨?_, ?_, DR.repl r h.2.2⟩
    · by_cases c : a.1 = k
      · rw [if_pos c, if_pos (h.1 ▸ c)]; exact h.1
      · rw [if_neg c, if_neg (h.1 ▸ c)]; exact h.1
    · by_cases c : a.1 = k
      · rw [if_pos c, if_pos (h.1 ▸ c)]; exact r
      · rw [if_neg c, if_neg (h.1 ▸ c)]; exact h.2.1
  | [], _ :: _, h => h.elim
  | _ :: _, [], h => h.elim
theorem DR.snoc {G : Hp} {k : κ} {y : α} {v : V} (r : Rp.rep K y v G) : ∀ {x : List (κ × α)} {q : List (κ × V)}, DR K x q G → DR K (x ++ [(k, y)]) (q ++ [(k, v)]) G
  | [], [], h => ⟨rfl, r, trivial⟩
  | a :: x, b :: q, h => ⟨h.1, h.2.1, DR.snoc r h.2.2⟩
  | [], _ :: _, h => h.elim
  | _ :: _, [], h => h.elim
theorem DR.put {G : Hp} {k : κ} {y : α} {v : V} {x : List (κ × α)} {q : List (κ × V)} (h : DR K x q G) (r : Rp.rep K y v G) : DR K (dput x k y) (putK q k v) G := by
  unfold dput putK
  rw [valV_any, h.isSome]
  split
  · exact h.repl r
  · exact h.snoc r
end
/-- a dict: its keys and values, in order -/
structure Dk (κ α : Type) where
  l : List (κ × α)
deriving DecidableEq
section
variable {κ α : Type} [DecidableEq κ] [Rp κ] [DKy κ] [Rp α]
/-- frozen: locked for good -/
def repD (K : Frag) (x : Dk κ α) (v : V) (G : Hp) : Prop := ∃ p q o, v = .ref p ∧ G p = some (.frz o (DKy.ho q)) ∧ DR K x.l q G ∧ x.l.length ≤ sizeLine
instance : Rp (Dk κ α) := ⟨repD, fun s ⟨p, q, o, e, h, a, l⟩ => ⟨p, q, o, e, s _ _ h, a.mono s, l⟩⟩
def ownD (K : Frag) (x : Dk κ α) (v : V) (f : List Addr) (W : Wd) : Prop := ∃ p q, v = .ref p ∧ f = [p] ∧ W.G p = none ∧ W.H p = some (DKy.ho q) ∧ DR K x.l q W.G ∧ x.l.length ≤ sizeLine
instance : Ob (Dk κ α) where
  own := ownD
  keep := fun {K x v f W W'} ⟨p, q, e, ef, g, h, a, l⟩ s n k => by
    subst ef
    exact ⟨p, q, e, rfl, n p (List.mem_singleton.mpr rfl), (k p (List.mem_singleton.mpr rfl)).trans h, a.mono s, l⟩
  foot := fun {K x v f W} ⟨p, q, e, ef, g, h, a, l⟩ b hb => by
    subst ef
    obtain rfl := List.mem_singleton.mp hb
    exact ⟨g, by rw [h]; exact fun z => nomatch z⟩
theorem rd_inc {H H' : Hp} {a : Addr} {u : HO} (s : Inc H H') (h : Rd H a u) : Rd H' a u := h.imp (fun h => s _ _ h) fun ⟨o, h⟩ => ⟨o, s _ _ h⟩
/-- a dict that may be read -/
def kDs (K : Frag) (x : Dk κ α) : Kd := ⟨fun _ v W => ∃ p q, v = .ref p ∧ Rd W.H p (DKy.ho q) ∧ DR K x.l q W.G ∧ x.l.length ≤ sizeLine,
  fun ⟨p, q, e, h, a, l⟩ z => ⟨p, q, e, rd_inc z.h h, a.mono z.g, l⟩, fun _ h => h⟩
variable {c : Cn} {W0 : Wd} {X : WX} {As : List Sl}
theorem own_ds {K : Frag} {x : Dk κ α} {v : V} {f : List Addr} {W A : Wd} (h : Ob.own K x v f W) : (kDs K x).p A v W := by
  obtain ⟨p, q, e, ef, g, h, a, l⟩ := h
  exact ⟨p, q, e, .inl h, a, l⟩
theorem e_varD {x : Dk κ α} {pin : Option V} (i : Nat) (h : As[i]? = some (.ow pin x) := by rfl) : Exp c W0 (tVar i) As (kDs c.K x) := fun σ W a W1 e Q q => by
  obtain ⟨v, f, ev, o, _⟩ := (a.mono e).varO h
  exact ⟨v, ev, q v W1 (Le.refl _) (own_ds o)⟩
/-! {} -/
theorem e_dnew {te : TE} (ht : te = fun _ H Q => ∀ p, H p = none → Q (.ref p) (upd H p (DKy.ho ([] : List (κ × V))))) : Exp c W0 te As (kNw c.K (Dk.mk ([] : List (κ × α)))) := fun σ W a W1 e Q q => by
  subst ht
  exact fun p hp => q _ (W1.no p _ hp (ho_mut _)) (Le.no hp) ⟨[p], ⟨p, [], rfl, rfl, W1.sub.nope hp, upd_same, trivial, Nat.zero_le _⟩, fun a ha => by rw [List.mem_singleton.mp ha]; exact hp⟩
/-! d[k], k in d -/
def rDGet : R2 := fun x y H Q => ∃ a v, x = .ref a ∧ DGet H a y (some v) ∧ Q v H
def rDIn : R2 := fun y x H Q => ∃ a o, x = .ref a ∧ DGet H a y o ∧ Q (.bl o.isSome) H
def rDNi : R2 := fun y x H Q => ∃ a o, x = .ref a ∧ DGet H a y o ∧ Q (.bl (!o.isSome)) H
@[irreducible] def R.dget (x : Dk κ α) (k : κ) : R α := match dval x.l k with
  | some a => .ok a
  | none => .no
theorem o_dget : Op2 rDGet (fun x : Dk κ α => kDs K x) (fun k : κ => kFr K k) R.dget (fun a : α => kFr K a) := fun x k => by
  unfold R.dget
  cases h : dval x.l k with
  | none => trivial
  | some a =>
    intro W0 W v w ⟨p, q, ev, hp, d, l⟩ hw Q qq
    obtain ⟨u, eu, ru⟩ := d.some h
    refine ⟨p, u, ev, ?_, qq u W (Le.refl _) ru⟩
    have := DKy.get hw W.sub hp
    rw [eu] at this
    exact this
theorem o_din : Op2 rDIn (fun k : κ => kFr K k) (fun x : Dk κ α => kDs K x) (fun k x => .ok (dval x.l k).isSome) (fun b : Bool => kFr K b) := fun k x W0 W w v hw ⟨p, q, ev, hp, d, l⟩ Q qq =>
  ⟨p, _, ev, DKy.get hw W.sub hp, qq _ W (Le.refl _) (show V.bl _ = V.bl _ by rw [d.isSome])⟩
theorem o_dni : Op2 rDNi (fun k : κ => kFr K k) (fun x : Dk κ α => kDs K x) (fun k x => .ok (!(dval x.l k).isSome)) (fun b : Bool => kFr K b) := fun k x W0 W w v hw ⟨p, q, ev, hp, d, l⟩ Q qq =>
  ⟨p, _, ev, DKy.get hw W.sub hp, qq _ W (Le.refl _) (show V.bl _ = V.bl _ by rw [d.isSome])⟩
/-! d.get(k, x), d.get(k) -/
/-! d[k] = v -/
@[irreducible] def R.dput (x : Dk κ α) (k : κ) (a : α) : R (Dk κ α) := if x.l.length < sizeLine then .ok ⟨Fw.dput x.l k a⟩ else .no
variable {J S ρ : Type} {kr : ρ → Kd} {Ls : List Sl} {Js : J → List Sl} {B : Bd} {Bs : S → List Sl}
theorem d_dput {pin : Option V} {te ti : TE} {u : TS} {xs : Dk κ α} {m : R α} {n : R κ} {k : Dk κ α → Out S J ρ} (i : Nat) (hi : As[i]? = some (.ow pin xs)) (lx : Lx Ls As) (h : Exr c B.W0 X te As m fun x => kFr c.K x) (hn : Exr c B.W0 X ti As n fun x => kFr c.K x)
    (hk : ∀ ys : Dk κ α, Den c X kr Ls Js B u (As.set i (.ow pin ys)) (k ys) Bs) :
    Den c X kr Ls Js B (tSeq (sDPut (tVar i) ti te) u) As (m.to fun y => n.to fun j => (R.dput xs j y).to k) Bs := fun D σ W a f => by
  have h' := h σ W a
  have hn' := hn σ W a
  cases m with
  | no => exact False.elim f
  | ex e => exact h' W (Le.refl _) _ fun cls d W2 e2 z => f cls d σ W2 (lx_at lx (a.mono e2)) z
  | ok y =>
    refine h' W (Le.refl _) _ fun v W1 e1 r => ?_
    obtain ⟨w, fp, hw, rw_, _⟩ := (a.mono e1).chg (β := Dk κ α) (y := xs) hi
    refine ⟨w, hw, ?_⟩
    cases n with
    | no => exact False.elim f
    | ex e => exact hn' W1 e1 _ fun cls d W2 e2 z => f cls d σ W2 (lx_at lx (a.mono (e1.trans e2))) z
    | ok j =>
      refine hn' W1 e1 _ fun jv W2 e2 rj => ?_
      obtain ⟨w', fp', hw', rw', n0', chg'⟩ := (a.mono (e1.trans e2)).chg (β := Dk κ α) (y := ⟨Fw.dput xs.l j y⟩) hi
      rw [hw] at hw'
      cases hw'
      obtain ⟨p, q, ep, ef, g, hh, d, l⟩ := rw'
      subst ep ef
      have f' : Fin c X kr Ls Js B Bs D (R.to (if xs.l.length < sizeLine then R.ok ⟨Fw.dput xs.l j y⟩ else .no) k) := by
        have f2 : Fin c X kr Ls Js B Bs D ((R.dput xs j y).to k) := f
        unfold R.dput at f2
        exact f2
      by_cases cz : xs.l.length < sizeLine
      · rw [if_pos cz] at f'
        refine ⟨p, _, rfl, DKy.put (v := v) rj W2.sub hh (by rw [← d.len]; exact cz), ?_⟩
        have a3 := chg' (W2.mt p (DKy.ho (putK q j v)) g (ho_mut _)) [p] (Inc.refl _) (fun b _ hb _ => hb) (fun b hb n => mut_keep g b hb n) ⟨p, _, rfl, rfl, g, upd_same, d.put (Rp.mono e2.g r), Nat.le_trans (dput_len _ _ _) cz⟩ (fun b hb => .inl hb)
        exact hk _ D _ _ a3 f'
      · rw [if_neg cz] at f'
        exact False.elim f'
end
/-! ### tuples of ints for keys -/
section
variable {c : Cn} {W0 : Wd} {X : WX} {As : List Sl} {K : Frag}
theorem o_tupleK : OpA (fun xs H Q => ∃ p ys, xs = [.ref p] ∧ ((SqL K H p ys ∧ ∀ l, H l = none → Q (.ref l) (upd H l (.tup ys))) ∨ (SqT K H p ys ∧ Q (.ref p) H))) (fun z : List Int × Unit => aCons (kSh K z.1) aNil) (fun z => .ok (TK.mk z.1)) (fun x : TK => kFr K x) := fun z W0 W vs ⟨v, r, e, ⟨p, ls, ev, hs, al, l⟩, en⟩ Q q => by
  subst e ev en
  refine ⟨p, ls, rfl, .inl ⟨hs, fun b hb => ?_⟩⟩
  have el : ls = z.1.map V.int := by
    refine List.ext_getElem? fun i => ?_
    rw [List.getElem?_map]
    cases e1 : z.1[i]? with
    | none => rw [List.getElem?_eq_none (by rw [← al.1]; exact List.getElem?_eq_none_iff.mp e1)]; rfl
    | some x =>
      obtain ⟨w, ew, rw_⟩ := al.get e1
      rw [ew]
      exact congrArg some rw_
  exact q _ (W.nf b _) (Le.nf hb) ⟨b, rfl, by rw [← el]; exact upd_same, l⟩
theorem e_tk {te : TE} {x : TK} (h : Exp c W0 te As (kFr c.K x)) : Exp c W0 te As (kFr c.K (Tup.mk x.l)) := exp_w h fun _ _ _ => tk_tup
end
end Fw

namespace Fw
open PySem L2
section
open PySem.Spec PyProof.Rows
variable {prog : Program} {w : World} {A : Around} {E : Value → Shared → Prop}
end
section
open PySem.Spec PyProof.Rows
variable {X : Cx}
def rTupZ (K : Frag) : List V → Hp → VK → Prop := fun xs H Q => ∃ p ys, xs = [.ref p] ∧ SqL K H p ys ∧ ∀ l o, H l = none → o.cls = .type "tuple" → o.dict = none → Q (.ref l) (upd H l (.frz o (.tup ys)))
theorem call_tupleZ : CallR X (.type "tuple") (rTupZ X.K) := by
  intro pins s σ H xs us Q I r h
  obtain ⟨p, ys, rfl, hq, q⟩ := h
  obtain ⟨u, rfl, rx⟩ := vals1 r
  cases rx
  obtain ⟨its, r', pl, hz⟩ := I.list hq
  have hlen := r'.length
  refine call_tuple_list pl.isList (fun h' kp => ?_) (by simp only [List.size_toArray] <;> omega)
  have I1 : Inv X pins σ H { s with heap := h' } := I.kept (t' := s.toks) kp
  have I2 : Inv X pins σ (upd H h'.objs.size (.frz { cls := .type "tuple", data := .seq its.toArray } (.tup ys))) { s with heap := h'.push { cls := .type "tuple", data := .seq its.toArray } } :=
    I1.laid (t' := s.toks) (fun b o e => Heap.get?_push_of_some _ e) (Nat.le_refl _) (show ObjOk X.prog X.w _ _ _ (.frz _ (.tup ys)) from ⟨Heap.get?_push_size _ rfl, hz, its, r', IsTup.new _ _⟩)
  exact ⟨.ref h'.objs.size, _, I2, rfl, q _ _ (I1.hok.fresh (Nat.le_refl _)) rfl rfl⟩
end
/-! ### a tuple known to have no dict of its own -/
structure TZ (α : Type) where
  l : List α
deriving DecidableEq
section
variable {α : Type} [Rp α] {c : Cn} {W0 : Wd} {X : WX} {As : List Sl} {K : Frag}
instance : Rp (TZ α) := ⟨fun K x v G => ∃ p o vs, v = .ref p ∧ G p = some (.frz o (.tup vs)) ∧ o.cls = .type "tuple" ∧ o.dict = none ∧ Al (fun x v => Rp.rep K x v G) x.l vs ∧ x.l.length ≤ sizeLine, fun s ⟨p, o, vs, e, h, h1, h2, a, l⟩ => ⟨p, o, vs, e, s _ _ h, h1, h2, a.imp fun _ _ r => Rp.mono s r, l⟩⟩
theorem tz_tup {x : TZ α} {v : V} {G : Hp} (h : Rp.rep K x v G) : Rp.rep K (Tup.mk x.l) v G := by
  obtain ⟨p, o, vs, e, h, h1, h2, a, l⟩ := h
  exact ⟨p, vs, e, .inl (.inr ⟨o, h⟩), a, l⟩
theorem r_tz {te : TE} {m : R (TZ α)} (h : Exr c W0 X te As m fun x => kFr c.K x) : Exr c W0 X te As (m.bind fun x => .ok (Tup.mk x.l)) fun x => kFr c.K x := fun σ W a => by
  have h' := h σ W a
  cases m with
  | no => trivial
  | ex e => exact h'
  | ok x => exact fun W1 e Q q => h' W1 e Q fun v W2 e2 p => q v W2 e2 (tz_tup p)
theorem o_tupleZ : OpA (rTupZ K) (fun z : List α × Unit => aCons (kSh K z.1) aNil) (fun z => .ok (TZ.mk z.1)) (fun x : TZ α => kFr K x) := fun z W0 W vs ⟨v, r, e, ⟨p, ls, ev, hs, al, l⟩, en⟩ Q q => by
  subst e ev en
  exact ⟨p, ls, rfl, hs, fun b o hb h1 h2 => q _ (W.nf b _) (Le.nf hb) ⟨b, o, ls, rfl, upd_same, h1, h2, al_mono al (Le.nf hb).g, l⟩⟩
end
end Fw

namespace Fw
open PySem L2
section
variable {α : Type} [Rp α]
instance : Pt (TZ α) := ⟨"tuple", fun h => Pt.is (tz_tup h)⟩
instance [Pd α] : Pd (TZ α) := ⟨fun x => Pd.pd (Tup.mk x.l), fun h => Pd.dp (tz_tup h), Pd.n (Tup α), fun h => Pd.dep (tz_tup h), fun h => Pd.lay (tz_tup h), fun x y => by
  rw [Pd.eq]; cases x; cases y; simp⟩
instance : NN (TZ α) := ⟨fun h => NN.nn (tz_tup h)⟩
instance [Pd α] : Apart Str (TZ α) := ⟨fun _ _ => by simp [Pd.pd, PyData.eqv], fun _ _ => by simp [Pd.pd, PyData.eqv]⟩
instance : Pt TK := ⟨"tuple", fun h => Pt.is (tk_tup h)⟩
instance : Pd TK := ⟨fun x => Pd.pd (Tup.mk x.l), fun h => Pd.dp (tk_tup h), Pd.n (Tup Int), fun h => Pd.dep (tk_tup h), fun h => Pd.lay (tk_tup h), fun x y => by
  rw [Pd.eq]; cases x; cases y; simp⟩
instance : NN TK := ⟨fun h => NN.nn (tk_tup h)⟩
end
section
variable {X : Cx} {o i e f : Expr} {pos apos cpos : Pos} {td ty tx : TE}
theorem hu1 {A : Around} {k : Nat} (hr : Room k A) : A.units + 1 < cLine := by have := hr.un; omega
theorem pe_dgetO (hu : X.A.units + 1 < cLine) (ho : PE X o td) (hi : PE X i ty) (hs : NoSl i := by exact fun _ _ => rfl) : PE X (.Subscript o i pos) (tOp rDGet td ty) := pe_dget hu ho hi hs
theorem pc_dinO (hu : X.A.units + 1 < cLine) (hi : PE X i ty) (ho : PE X o td) : PC X .In i o (tOp rDIn ty td) := pc_din hu hi ho
theorem pc_dniO (hu : X.A.units + 1 < cLine) (hi : PE X i ty) (ho : PE X o td) : PC X .NotIn i o (tOp rDNi ty td) := pc_dnotin hu hi ho
end
end Fw

namespace Fw
open PySem L2
section
variable {α : Type} [Rp α] {c : Cn} {W0 : Wd} {X : WX} {As : List Sl} {K : Frag}
/-! ### a list none of whose items is None -/
/-! ### == of None or a thing -/
class AN (α : Type) [Rp α] [Pd α] where
  l : ∀ a : α, PyData.eqv .none (Pd.pd a) = false
  r : ∀ a : α, PyData.eqv (Pd.pd a) .none = false
instance : AN Int := ⟨fun _ => by simp [Pd.pd, PyData.eqv], fun _ => by simp [Pd.pd, PyData.eqv]⟩
instance : AN Str := ⟨fun _ => by simp [Pd.pd, PyData.eqv], fun _ => by simp [Pd.pd, PyData.eqv]⟩
instance : AN Bool := ⟨fun _ => by simp [Pd.pd, PyData.eqv], fun _ => by simp [Pd.pd, PyData.eqv]⟩
instance [Pd α] : AN (List α) := ⟨fun _ => by simp [Pd.pd, PyData.eqv], fun _ => by simp [Pd.pd, PyData.eqv]⟩
instance {β : Type} [Rp β] [Pd α] [Pd β] : AN (α × β) := ⟨fun _ => by simp [Pd.pd, PyData.eqv], fun _ => by simp [Pd.pd, PyData.eqv]⟩
instance {β γ : Type} [Rp β] [Rp γ] [Pd α] [Pd β] [Pd γ] : AN (T3 α β γ) := ⟨fun _ => by simp [Pd.pd, PyData.eqv], fun _ => by simp [Pd.pd, PyData.eqv]⟩
instance {β γ δ : Type} [Rp β] [Rp γ] [Rp δ] [Pd α] [Pd β] [Pd γ] [Pd δ] : AN (T4 α β γ δ) := ⟨fun _ => by simp [Pd.pd, PyData.eqv], fun _ => by simp [Pd.pd, PyData.eqv]⟩
instance [Pd α] [AN α] : Pd (Option α) where
  pd x := match x with
    | none => .none
    | some a => Pd.pd a
  dp := fun {K x v G} h => by
    cases x with
    | none => have h' : v = .non := h; subst h'; exact .non
    | some a => exact Pd.dp (α := α) h.2
  n := Pd.n α
  dep := fun {K x v G} h => by
    cases x with
    | none => simp [PyData.depth]
    | some a => exact Pd.dep (α := α) h.2
  lay := fun {K x v G} h => by
    cases x with
    | none => simp [PyData.canLay0]
    | some a => exact Pd.lay (α := α) h.2
  eq x y := by
    cases x with
    | none =>
      cases y with
      | none => simp [PyData.eqv]
      | some b => simp [AN.l]
    | some a =>
      cases y with
      | none => simp [AN.r]
      | some b => simp [Pd.eq]
/-! ### x in a tuple of flat things -/
class Fl (α : Type) [Rp α] extends Eqs α where
  fl : ∀ x : α, flatV (Eqs.v x) = true
  dec : [DecidableEq α] → ∀ x y : α, eqV (Eqs.v y) (Eqs.v x) = decide (x = y)
instance : Fl Str := ⟨fun _ => rfl, fun x y => by
  simp only [Eqs.v, eqV]
  rw [Bool.eq_iff_iff]
  exact ⟨fun h => decide_eq_true (eq_of_beq h).symm, fun h => by have e := of_decide_eq_true h; subst e; simp⟩⟩
instance : Fl Int := ⟨fun _ => rfl, fun x y => by
  simp only [Eqs.v, eqV]
  rw [Bool.eq_iff_iff]
  exact ⟨fun h => decide_eq_true (eq_of_beq h).symm, fun h => by have e := of_decide_eq_true h; subst e; simp⟩⟩
variable [DecidableEq α] [Fl α]
theorem inV_fl (x : α) : ∀ ys : List α, inV (Eqs.v x) (ys.map Eqs.v) = decide (x ∈ ys)
  | [] => by simp [inV]
  | y :: ys => by
    have ih := inV_fl x ys
    unfold inV at ih ⊢
    rw [List.map_cons, List.any_cons, ih, Fl.dec]
    by_cases h : x = y
    · subst h; simp
    · simp [h]
theorem al_eqs {G : Hp} {xs : List α} {vs : List V} (h : Al (fun x v => Rp.rep K x v G) xs vs) : vs = xs.map Eqs.v := by
  refine List.ext_getElem? fun i => ?_
  rw [List.getElem?_map]
  cases e1 : xs[i]? with
  | none => rw [List.getElem?_eq_none (by rw [← h.1]; exact List.getElem?_eq_none_iff.mp e1)]; rfl
  | some x =>
    obtain ⟨w, ew, rw_⟩ := h.get e1
    rw [ew]
    exact congrArg some (Eqs.rv rw_)
theorem fl_all (xs : List α) : (xs.map Eqs.v).all flatV = true := by
  rw [List.all_map]
  exact List.all_eq_true.mpr fun x _ => Fl.fl x
theorem o_inTup : Op2 (rIn K false) (fun x : α => kFr K x) (fun y : Tup α => kFr K y) (fun x y => .ok (memB x y.l)) (fun b : Bool => kFr K b) := fun x y W0 W v w hv ⟨p, vs, ew, hs, al, l⟩ Q q => by
  have h1 : v = Eqs.v x := Eqs.rv hv
  have h2 := al_eqs al
  subst h1 h2
  exact ⟨p, _, ew, .inr (W.sub.sqt hs), Fl.fl x, fl_all _, q _ W (Le.refl _) (by rw [if_neg (by decide), inV_fl]; rfl)⟩
end
end Fw

namespace Fw
open PySem L2
/-! ### what is owned, looked at as frozen, where only a scalar comes out -/
inductive FzW : List Sl → List Sl → Prop
  | nil : FzW [] []
  | un {As Bs : List Sl} : FzW As Bs → FzW (.un :: As) (.un :: Bs)
  | fr {α : Type} [Rp α] {x : α} {As Bs : List Sl} : FzW As Bs → FzW (.fr x :: As) (.fr x :: Bs)
  | ow {α : Type} [Fz α] {pin : Option V} {x : α} {As Bs : List Sl} : FzW As Bs → FzW (.ow pin x :: As) (.fr x :: Bs)
theorem FzW.len {As Bs : List Sl} (h : FzW As Bs) : As.length = Bs.length := by
  induction h with
  | nil => rfl
  | un _ ih => exact congrArg (· + 1) ih
  | fr _ ih => exact congrArg (· + 1) ih
  | ow _ ih => exact congrArg (· + 1) ih
theorem FzW.at {K : Frag} {W : Wd} {As Bs : List Sl} (h : FzW As Bs) : ∀ {σ : St}, (∀ (i : Nat) A o, As[i]? = some A → σ[i]? = some o → ∃ f, Hd K A o W f) → ∀ (i : Nat) B o, Bs[i]? = some B → σ[i]? = some o → Hd K B o (.all W.H) [] := by
  induction h with
  | nil => intro σ _ i B o e; simp at e
  | @un As Bs _ ih =>
    intro σ hh i B o e1 e2
    cases σ with
    | nil => simp at e2
    | cons s σ =>
      cases i with
      | zero => cases e1; trivial
      | succ i => exact ih (σ := σ) (fun j A o a b => hh (j + 1) A o a b) i B o e1 e2
  | @fr α _ x As Bs _ ih =>
    intro σ hh i B o e1 e2
    cases σ with
    | nil => simp at e2
    | cons s σ =>
      cases i with
      | zero =>
        cases e1
        obtain ⟨f, v, e, r⟩ := hh 0 _ o rfl e2
        exact ⟨v, e, Rp.mono W.sub r⟩
      | succ i => exact ih (σ := σ) (fun j A o a b => hh (j + 1) A o a b) i B o e1 e2
  | @ow α _ pin x As Bs _ ih =>
    intro σ hh i B o e1 e2
    cases σ with
    | nil => simp at e2
    | cons s σ =>
      cases i with
      | zero =>
        cases e1
        obtain ⟨f, v, e, r, _⟩ := hh 0 _ o rfl e2
        exact ⟨v, e, own_bw (A := W) r⟩
      | succ i => exact ih (σ := σ) (fun j A o a b => hh (j + 1) A o a b) i B o e1 e2
section
variable {c : Cn} {W0 : Wd} {X : WX} {As Bs : List Sl} {ρ : Type}
end
/-! ### a list of lists, all its own -/
structure DL (α : Type) where
  l : List (List α)
deriving DecidableEq
section
variable {α : Type} [Rp α] {K : Frag}
def DRow (K : Frag) (xs : List α) (q : Addr) (W : Wd) : Prop := W.G q = none ∧ ∃ vs, W.H q = some (.lst vs) ∧ Al (fun x v => Rp.rep K x v W.G) xs vs ∧ xs.length ≤ sizeLine
def DRows (K : Frag) : List (List α) → List Addr → Wd → Prop
  | [], [], _ => True
  | xs :: r, q :: qs, W => DRow K xs q W ∧ DRows K r qs W
  | _, _, _ => False
theorem DRow.keep {W W' : Wd} {xs : List α} {q : Addr} (h : DRow K xs q W) (s : Inc W.G W'.G) (n : W'.G q = none) (k : W'.H q = W.H q) : DRow K xs q W' := by
  obtain ⟨g, vs, hh, al, l⟩ := h
  exact ⟨n, vs, k.trans hh, al.imp fun _ _ r => Rp.mono s r, l⟩
theorem DRows.keep {W W' : Wd} : ∀ {xs : List (List α)} {qs : List Addr}, DRows K xs qs W → Inc W.G W'.G → (∀ q ∈ qs, W'.G q = none) → (∀ q ∈ qs, W'.H q = W.H q) → DRows K xs qs W'
  | [], [], _, _, _, _ => trivial
  | x :: xs, q :: qs, h, s, n, k => ⟨h.1.keep s (n q (by simp)) (k q (by simp)), DRows.keep h.2 s (fun b hb => n b (List.mem_cons_of_mem _ hb)) fun b hb => k b (List.mem_cons_of_mem _ hb)⟩
  | [], _ :: _, h, _, _, _ => h.elim
  | _ :: _, [], h, _, _, _ => h.elim
theorem DRows.len {W : Wd} : ∀ {xs : List (List α)} {qs : List Addr}, DRows K xs qs W → xs.length = qs.length
  | [], [], _ => rfl
  | x :: xs, q :: qs, h => by rw [List.length_cons, List.length_cons, h.2.len]
  | [], _ :: _, h => h.elim
  | _ :: _, [], h => h.elim
theorem DRows.foot {W : Wd} : ∀ {xs : List (List α)} {qs : List Addr}, DRows K xs qs W → ∀ q ∈ qs, W.G q = none ∧ W.H q ≠ none
  | [], [], _, q, hq => by cases hq
  | x :: xs, b :: qs, h, q, hq => by
    rcases List.mem_cons.mp hq with e | hq
    · subst e
      obtain ⟨g, vs, hh, _⟩ := h.1
      exact ⟨g, by rw [hh]; exact fun z => nomatch z⟩
    · exact h.2.foot q hq
  | [], _ :: _, h, _, _ => h.elim
  | _ :: _, [], h, _, _ => h.elim
theorem DRows.snoc {W : Wd} {y : List α} {b : Addr} (r : DRow K y b W) : ∀ {xs : List (List α)} {qs : List Addr}, DRows K xs qs W → DRows K (xs ++ [y]) (qs ++ [b]) W
  | [], [], _ => ⟨r, trivial⟩
  | x :: xs, q :: qs, h => ⟨h.1, DRows.snoc r h.2⟩
  | [], _ :: _, h => h.elim
  | _ :: _, [], h => h.elim
theorem DRows.get {W : Wd} : ∀ {xs : List (List α)} {qs : List Addr} {i : Nat} {x : List α}, DRows K xs qs W → xs[i]? = some x → ∃ q, qs[i]? = some q ∧ DRow K x q W
  | x :: xs, q :: qs, 0, y, h, e => by cases e; exact ⟨q, rfl, h.1⟩
  | x :: xs, q :: qs, i + 1, y, h, e => DRows.get (i := i) h.2 e
  | [], [], i, y, h, e => by simp at e
  | [], _ :: _, _, _, h, _ => h.elim
  | _ :: _, [], _, _, h, _ => h.elim
/-- one row is another one now, the others as they were -/
theorem DRows.put {W W' : Wd} {y : List α} {b : Addr} (r : DRow K y b W') (s : Inc W.G W'.G) (hk : ∀ q, q ≠ b → W.G q = none → W.H q ≠ none → W'.G q = none ∧ W'.H q = W.H q) : ∀ {xs : List (List α)} {qs : List Addr} {i : Nat}, DRows K xs qs W → qs[i]? = some b → qs.Nodup → DRows K (xs.set i y) qs W'
  | x :: xs, q :: qs, 0, h, e, nd => by
    cases e
    refine ⟨r, h.2.keep s (fun c hc => ?_) fun c hc => ?_⟩
    · exact (hk c (fun z => by rw [z] at hc; exact (List.nodup_cons.mp nd).1 hc) (h.2.foot c hc).1 (h.2.foot c hc).2).1
    · exact (hk c (fun z => by rw [z] at hc; exact (List.nodup_cons.mp nd).1 hc) (h.2.foot c hc).1 (h.2.foot c hc).2).2
  | x :: xs, q :: qs, i + 1, h, e, nd => by
    have hq : q ≠ b := fun z => by
      subst z
      exact (List.nodup_cons.mp nd).1 (List.mem_of_getElem? (i := i) e)
    have f : W.G q = none ∧ W.H q ≠ none := (show DRows K (x :: xs) (q :: qs) W from h).foot q (by simp)
    exact ⟨h.1.keep s (hk q hq f.1 f.2).1 (hk q hq f.1 f.2).2, DRows.put (i := i) r s hk h.2 e (List.nodup_cons.mp nd).2⟩
  | [], [], _, _, e, _ => by simp at e
  | [], _ :: _, _, h, _, _ => h.elim
  | _ :: _, [], _, h, _, _ => h.elim
theorem DRows.rep {W : Wd} {G : Hp} (s : Inc W.G G) : ∀ {xs : List (List α)} {qs : List Addr}, DRows K xs qs W → (∀ q ∈ qs, G q = W.H q) → Al (fun x v => Rp.rep K x v G) xs (qs.map V.ref)
  | [], [], _, _ => Al.nil
  | x :: xs, q :: qs, h, k => by
    obtain ⟨g, vs, hh, al, l⟩ := h.1
    exact (DRows.rep s h.2 fun b hb => k b (List.mem_cons_of_mem _ hb)).cons ⟨q, vs, rfl, (k q (by simp)).trans hh, al.imp fun _ _ r => Rp.mono s r, l⟩
  | [], _ :: _, h, _ => h.elim
  | _ :: _, [], h, _ => h.elim
instance : Rp (DL α) := ⟨fun K x v G => Rp.rep K x.l v G, fun s h => Rp.mono s h⟩
def ownDL (K : Frag) (x : DL α) (v : V) (f : List Addr) (W : Wd) : Prop := ∃ p qs, v = .ref p ∧ f = p :: qs ∧ (p :: qs).Nodup ∧ W.G p = none ∧ W.H p = some (.lst (qs.map V.ref)) ∧ DRows K x.l qs W ∧ x.l.length ≤ sizeLine
instance : Fz (DL α) where
  own := ownDL
  keep := fun {K x v f W W'} ⟨p, qs, e, ef, nd, g, h, r, l⟩ s n k => by
    subst ef
    exact ⟨p, qs, e, rfl, nd, n p (by simp), (k p (by simp)).trans h, r.keep s (fun q hq => n q (List.mem_cons_of_mem _ hq)) fun q hq => k q (List.mem_cons_of_mem _ hq), l⟩
  foot := fun {K x v f W} ⟨p, qs, e, ef, nd, g, h, r, l⟩ b hb => by
    subst ef
    rcases List.mem_cons.mp hb with z | hb
    · subst z
      exact ⟨g, by rw [h]; exact fun z => nomatch z⟩
    · exact r.foot b hb
  fz := fun {K x v f W} ⟨p, qs, e, ef, nd, g, h, r, l⟩ => by
    subst ef
    exact ⟨p, _, e, (Wd.fz_in (by simp)).trans h, r.rep Wd.fz_sub fun q hq => Wd.fz_in (List.mem_cons_of_mem _ hq), l⟩
variable {c : Cn} {W0 : Wd} {X : WX} {As : List Sl}
theorem r_dl {te : TE} {m : R (DL α)} (h : Exr c W0 X te As m fun x => kFr c.K x) : Exr c W0 X te As (m.bind fun x => .ok x.l) fun x => kFr c.K x := fun σ W a => by
  have h' := h σ W a
  cases m with
  | no => trivial
  | ex e => exact h'
  | ok x => exact fun W1 e Q q => h' W1 e Q fun v W2 e2 p => q v W2 e2 p
theorem e_nilD : Exp c W0 (tLst tNil) As (kNw c.K (DL.mk ([] : List (List α)))) := fun σ W a W1 e Q q =>
  ⟨Nat.zero_le _, fun p hp => q _ (W1.no p _ hp) (Le.no hp) ⟨[p], ⟨p, [], rfl, rfl, by simp, W1.sub.nope hp, upd_same, trivial, Nat.zero_le _⟩, fun a ha => by rw [List.mem_singleton.mp ha]; exact hp⟩⟩
@[irreducible] def R.appD (x : DL α) (y : List α) : R (DL α) := if x.l.length < sizeLine then .ok ⟨x.l ++ [y]⟩ else .no
variable {J S ρ : Type} {kr : ρ → Kd} {Ls : List Sl} {Js : J → List Sl} {B : Bd} {Bs : S → List Sl}
end
/-! ### an owned thing goes into another one -/
section
variable {K : Frag} {W0 W W' : Wd} {As : List Sl} {σ : St} {i j : Nat}
theorem At.mv {α β γ : Type} [Ob α] [Ob β] [Ob γ] {x : α} {y : β} {z : γ} {pin pin' : Option V} (h : At K W0 As σ W) (hi : As[i]? = some (.ow pin x)) (hj : As[j]? = some (.ow pin' y)) (ij : i ≠ j) :
    ∃ v f v' f', σ[i]? = some (some v) ∧ σ[j]? = some (some v') ∧ Ob.own K x v f W ∧ Ob.own K y v' f' W ∧ (∀ a ∈ f, a ∉ f') ∧ ∀ (W' : Wd) f'', Inc W.G W'.G → (∀ a, a ∉ f → a ∉ f' → W.G a = none → W.H a ≠ none → W'.G a = none) → (∀ a, a ∉ f → a ∉ f' → W.H a ≠ none → W'.H a = W.H a) →
      Ob.own K z v f'' W' → (∀ a ∈ f'', a ∈ f ∨ a ∈ f') → At K W0 ((As.set j .un).set i (.ow pin z)) σ W' := by
  obtain ⟨l, le, F, h1, h2, h3⟩ := h
  have hl : i < σ.length := l ▸ (List.getElem?_eq_some_iff.mp hi).1
  have hl' : j < σ.length := l ▸ (List.getElem?_eq_some_iff.mp hj).1
  obtain ⟨v, e, r, pn⟩ := h1 i _ _ hi (List.getElem?_eq_getElem hl)
  obtain ⟨v', e', r', _⟩ := h1 j _ _ hj (List.getElem?_eq_getElem hl')
  refine ⟨v, F i, v', F j, by rw [List.getElem?_eq_getElem hl, e], by rw [List.getElem?_eq_getElem hl', e'], r, r', fun a ha hb => h2 i j a ij ha hb, fun W' f'' sg so sh rz hf => ?_⟩
  have inF : ∀ a ∈ f'', ∃ m, (m = i ∨ m = j) ∧ a ∈ F m := fun a ha => by
    rcases hf a ha with q | q
    · exact ⟨i, .inl rfl, q⟩
    · exact ⟨j, .inr rfl, q⟩
  have z0 : ∀ a ∈ f'', W0.H a = none := fun a ha => by
    obtain ⟨m, _, q⟩ := inF a ha
    exact (h3 m a q).2.2
  have lw : Le W0 W' := ⟨le.g.trans sg, fun a o q => by
    have n0 : W0.H a ≠ none := by rw [q]; exact fun z => nomatch z
    have w := le.h a o q
    rw [sh a (fun ha => n0 ((h3 i a ha).2.2)) (fun ha => n0 ((h3 j a ha).2.2)) (by rw [w]; exact fun z => nomatch z)]
    exact w, fun a g n => so a (fun ha => n ((h3 i a ha).2.2)) (fun ha => n ((h3 j a ha).2.2)) (le.o a g n) (fun q => n (le.h.nope q))⟩
  refine ⟨by simp [l], lw, fun m => if m = i then f'' else if m = j then [] else F m, fun m B p a b => ?_, fun m k a n ha hb => ?_, fun m a ha => ?_⟩
  · by_cases q : i = m
    · subst q
      rw [get_set_eq a]
      rw [List.getElem?_eq_getElem hl, e] at b
      cases b
      simp only [if_true]
      exact ⟨v, rfl, rz, pn⟩
    · rw [get_set_ne q] at a
      by_cases q2 : j = m
      · subst q2
        rw [get_set_eq a]
        trivial
      · rw [get_set_ne q2] at a
        dsimp only
        rw [if_neg (Ne.symm q), if_neg (Ne.symm q2)]
        have hd := h1 m B p a b
        cases B with
        | un => trivial
        | fr x => obtain ⟨v, e1, r⟩ := hd; exact ⟨v, e1, Rp.mono sg r⟩
        | ow x =>
          obtain ⟨v, e1, r, pn⟩ := hd
          exact ⟨v, e1, Ob.keep r sg (fun a ha => so a (fun z => h2 m i a (Ne.symm q) ha z) (fun z => h2 m j a (Ne.symm q2) ha z) (h3 m a ha).1 (h3 m a ha).2.1) fun a ha => sh a (fun z => h2 m i a (Ne.symm q) ha z) (fun z => h2 m j a (Ne.symm q2) ha z) (h3 m a ha).2.1, pn⟩
  · have key : ∀ {m : Nat} {a : Addr}, a ∈ (if m = i then f'' else if m = j then [] else F m) → (m = i ∧ (a ∈ F i ∨ a ∈ F j)) ∨ (m ≠ i ∧ m ≠ j ∧ a ∈ F m) := fun {m a} ha => by
      split at ha
      · rename_i c; exact .inl ⟨c, hf a ha⟩
      · split at ha
        · cases ha
        · rename_i c d; exact .inr ⟨c, d, ha⟩
    rcases key ha with ⟨e1, q⟩ | ⟨n1, n2, q⟩
    · rcases key hb with ⟨e2, q2⟩ | ⟨m1, m2, q2⟩
      · exact n (e1.trans e2.symm)
      · rcases q with q | q
        · exact h2 i k a (Ne.symm m1) q q2
        · exact h2 j k a (Ne.symm m2) q q2
    · rcases key hb with ⟨e2, q2⟩ | ⟨m1, m2, q2⟩
      · rcases q2 with q2 | q2
        · exact h2 m i a n1 q q2
        · exact h2 m j a n2 q q2
      · exact h2 m k a n q q2
  · dsimp only at ha
    split at ha
    · exact ⟨(Ob.foot rz a ha).1, (Ob.foot rz a ha).2, z0 a ha⟩
    · split at ha
      · cases ha
      · rename_i c d
        obtain ⟨g, n, z⟩ := h3 m a ha
        refine ⟨so a (fun q => h2 m i a c ha q) (fun q => h2 m j a d ha q) g n, ?_, z⟩
        rw [sh a (fun q => h2 m i a c ha q) (fun q => h2 m j a d ha q) n]
        exact n
end
section
variable {α : Type} [Rp α] {c : Cn} {W0 : Wd} {X : WX} {As : List Sl}
variable {J S ρ : Type} {kr : ρ → Kd} {Ls : List Sl} {Js : J → List Sl} {B : Bd} {Bs : S → List Sl}
/-- xss.append(a list of one's own, by its name, not used any more) -/
theorem d_appDv {pin pin' : Option V} {u : TS} {xs : DL α} {y : List α} {k : DL α → Out S J ρ} (i j : Nat) (hi : As[i]? = some (.ow pin xs)) (hj : As[j]? = some (.ow pin' y)) (ij : i ≠ j) (hk : ∀ ys : DL α, Den c X kr Ls Js B u ((As.set j .un).set i (.ow pin ys)) (k ys) Bs) :
    Den c X kr Ls Js B (tSeq (tDrop (tBM c.K "list" rAppend (tVar i) (tCons (tVar j) tNil))) u) As ((R.appD xs y).to k) Bs := fun D σ W a f => by
  obtain ⟨v, fp, v', fq, hv, hv', ⟨p, qs, ew, ef, nd, g, hh, dr, l⟩, ⟨q, vs, ev, efq, gq, hq, al, ly⟩, dj, mv⟩ := a.mv (z := DL.mk (xs.l ++ [y])) hi hj ij
  subst ew ef ev efq
  refine ⟨_, hv, .inl ⟨rfl, _, .inl (.inl hh)⟩, ?_⟩
  refine ⟨_, hv', ?_⟩
  have f' : Fin c X kr Ls Js B Bs D (R.to (if xs.l.length < sizeLine then R.ok (DL.mk (xs.l ++ [y])) else R.no) k) := by
    have f2 : Fin c X kr Ls Js B Bs D ((R.appD xs y).to k) := f
    unfold R.appD at f2
    exact f2
  have qn : q ∉ p :: qs := fun z => dj q z (by simp)
  by_cases cz : xs.l.length < sizeLine
  · rw [if_pos cz] at f'
    refine ⟨p, qs.map V.ref, .ref q, rfl, rfl, hh, by rw [List.length_map, ← dr.len]; exact cz, ?_⟩
    have pq : q ≠ p := fun z => qn (by rw [z]; simp)
    have a3 := mv (W.mt p (.lst (qs.map V.ref ++ [.ref q])) g) (p :: (qs ++ [q])) (Inc.refl _) (fun b _ _ gb _ => gb)
      (fun b hb _ nb => by
        have : b ≠ p := fun z => hb (by rw [z]; simp)
        show upd W.H p _ b = _
        rw [upd_ne this])
      ⟨p, qs ++ [q], rfl, rfl, by
        rw [← List.cons_append, List.nodup_append]
        exact ⟨nd, by simp, fun b hb d hd z => qn (by rw [List.mem_singleton] at hd; subst hd; subst z; exact hb)⟩, g, by
        show upd W.H p _ p = _
        rw [upd_same, List.map_append]
        rfl, DRows.snoc (W := W.mt p (.lst (qs.map V.ref ++ [.ref q])) g) ⟨gq, vs, by show upd W.H p _ q = _; rw [upd_ne pq]; exact hq, al, ly⟩
          (dr.keep (W' := W.mt p (.lst (qs.map V.ref ++ [.ref q])) g) (Inc.refl _) (fun b hb => (dr.foot b hb).1) fun b hb => by
            have : b ≠ p := fun z => by rw [z] at hb; exact (List.nodup_cons.mp nd).1 hb
            show upd W.H p _ b = _
            rw [upd_ne this]), by simp; omega⟩
      (fun b hb => by
        rcases List.mem_cons.mp hb with z | hb
        · exact .inl (by rw [z]; simp)
        · rcases List.mem_append.mp hb with z | z
          · exact .inl (List.mem_cons_of_mem _ z)
          · exact .inr z)
    exact hk _ D _ _ a3 f'
  · rw [if_neg cz] at f'
    exact False.elim f'
end
end Fw

namespace Fw
open PySem L2
section
variable {K : Frag} {W0 W : Wd} {As : List Sl} {σ : St} {i : Nat}
end
section
variable {J S T ρ α : Type} {c : Cn} {X : WX} {kr : ρ → Kd} {Ls : List Sl} {Js : J → List Sl} {B : Bd} {As : List Sl} {Cs : T → List Sl} {Bs' : S → List Sl}
end
end Fw

namespace Fw
open PySem L2
section
variable {X : Cx} {o e : Expr} {to te : TE}
end
end Fw

namespace Fw
open PySem L2
section
variable {α : Type} [Rp α] {c : Cn} {W0 : Wd} {X : WX} {As : List Sl} {K : Frag}
/-! ### t[a:b] of a tuple -/
/-! ### t + u -/
/-! ### tuple(range(n)) -/
theorem al_rg (n : Int) : Al (fun (x : Int) v => Rp.rep K x v (fun _ => none)) (rng 0 n) (rgV 0 n) := ⟨by rw [rng_len, rgV_length], fun i x v h1 h2 => by
  obtain ⟨h3, h4⟩ := rng_get h1
  unfold rgV at h2
  rw [List.getElem?_map, List.getElem?_range h3] at h2
  cases h2
  rw [h4]
  rfl⟩
/-! ### reversed(range(n)) -/
end
section
variable {c : Cn} {W0 : Wd} {X : WX} {As : List Sl} {K : Frag}
/-! ### range(a, b, d), d written, above 0 -/
end
end Fw

namespace Fw
open PySem L2
section
variable {K : Frag}
/-! ### great ints -/
instance : DecidableRel CDivW := fun i j => inferInstanceAs (Decidable (_ ∧ _))
instance : DecidableRel CMulW := fun i j => inferInstanceAs (Decidable (_ < _))
end
end Fw

namespace Fw
open PySem L2
section
variable {c : Cn} {W0 : Wd} {X : WX} {As : List Sl} {K : Frag}
/-! ### range(a, b, d) -/
/-! ### {k: v, ..}, the keys ints -/
end
/-! ### lengths of tuples of three and four -/
section
variable {K : Frag} {α β γ δ : Type} [Rp α] [Rp β] [Rp γ] [Rp δ]
end
end Fw

namespace Fw
open PySem L2 PySem.Spec
open PyProof.Rows hiding St
/-! ### a caught exception that is kept -/
def exN (a C : Addr) (d : Option Addr) : HO := .ext fun h => ∃ (oe : Obj) (vs : Array Value), h.get? a = some oe ∧ oe.cls = .ref C ∧ oe.dict = d ∧ oe.data = .fields vs
theorem exN_ok {P : Program} {w : World} {H : Hp} {h : Heap} {a C : Addr} {d : Option Addr} {oe : Obj} {vs : Array Value} (he : h.get? a = some oe) (h1 : oe.cls = .ref C) (h2 : oe.dict = d) (h3 : oe.data = .fields vs) : ObjOk P w H h a (exN a C d) :=
  ⟨⟨oe, vs, he, h1, h2, h3⟩, ⟨_, he⟩, fun _ _ ⟨oe, vs, e, r⟩ k => ⟨oe, vs, k _ e, r⟩⟩
theorem exN_at {P : Program} {w : World} {H : Hp} {h : Heap} {a C : Addr} {d : Option Addr} (hok : HOk P w H h) (he : H a = some (exN a C d)) : ∃ (oe : Obj) (vs : Array Value), h.get? a = some oe ∧ oe.cls = .ref C ∧ oe.dict = d ∧ oe.data = .fields vs := by
  have x : ObjOk P w H h a (.ext fun h => ∃ (oe : Obj) (vs : Array Value), h.get? a = some oe ∧ oe.cls = .ref C ∧ oe.dict = d ∧ oe.data = .fields vs) := hok a _ he
  exact x.1
section
variable {X : Cx} {pins : List (Addr × Obj)} {σ : St} {H : Hp} {sI s s' : Shared} {B : Heap} {W : WX} {E : XK}
/-- back on the ground, the exception tracked from now on -/
theorem landedN (I : Inv X pins σ H sI) (nb : ∀ b o, sI.heap.get? b = some o → b ∉ frs X.stack → B.get? b = some o) (st : B.StaysIn s'.heap) (up : sI.heap.UpToSlots s'.heap) (os : s'.os = sI.os) (ag : AllBare s'.gens)
    {a C : Addr} {d : Option Addr} {oe : Obj} {vs : Array Value} (na : H a = none) (hn : B.get? a = none) (nf' : a ∉ frs X.stack) (he : s'.heap.get? a = some oe) (h1 : oe.cls = .ref C) (h2 : oe.dict = d) (h3 : oe.data = .fields vs) : Inv X pins σ (upd H a (exN a C d)) s' := by
  have nf : ∀ b ∈ frs X.stack, ∀ o, sI.heap.get? b = some o → ∃ sl, s'.heap.get? b = some { o with slots := sl } := fun b hb o e => by
    obtain ⟨_, o', e', hd⟩ := I.stack.mem hb
    rw [e] at e'; cases e'
    exact up b o e hd
  have nva : ∀ b o, sI.heap.get? b = some o → b ≠ a := fun b o e z => by
    subst z
    rw [nb b o e nf'] at hn
    cases hn
  have hok : HOk X.prog X.w (upd H a (exN a C d)) s'.heap := fun b o q => by
    by_cases hb : b = a
    · subst hb
      rw [upd_same] at q
      cases q
      exact exN_ok he h1 h2 h3
    · rw [upd_ne hb] at q
      exact ((I.inGround nb).kept st b o q).stay (fun _ _ _ z => z) (fun c hc => by rw [upd_ne (ne_of_none hc na)]; exact hc) (fun c xs hc => by rw [upd_ne (ne_of_none hc na)]; exact hc)
  have J := I.call (ch := []) (h' := s'.heap) (g' := s'.gens) (t' := s'.toks) (d' := s'.drawn) (H' := upd H a (exN a C d))
    ⟨fun b o e _ hb _ => st b o (nb b o e hb), fun b o e _ hb _ => nf b hb o e, fun b o e n _ => by rw [upd_ne (nva b o e)]; exact n, fun b o e _ => by
      by_cases hb : b ∈ frs X.stack
      · obtain ⟨sl, q⟩ := nf b hb o e
        exact ⟨_, q⟩
      · exact ⟨o, st b o (nb b o e hb)⟩, fun b xs e => by rw [upd_ne (ne_of_none e na)]; exact e, fun b o u e => by rw [upd_ne (ne_of_none e na)]; exact e, fun b ps e => ⟨#[], by rw [upd_ne (ne_of_none e na), e]; simp⟩⟩
    hok ag (fun _ z => nomatch z)
  obtain ⟨a1, a2, a3, a4, a5⟩ := s'
  have e5 : a5 = sI.os := os
  subst e5
  exact J
theorem toSuiteN (I : Inv X pins σ H s) (a : Addr) : Inv (X.suite a (X.pn ++ pins)) [] σ H s :=
  ⟨I.ok.suite _ _, I.os, I.bare, I.base, I.loc, I.cell, I.free, I.freeC, fun p hp => I.pin p (by rw [List.append_nil] at hp; exact hp), I.hok, I.len⟩
theorem ofSuiteN {a : Addr} {pn' : List (Addr × Obj)} (I : Inv (X.suite a (X.pn ++ pins)) pn' σ H s) (ok : X.Ok) : Inv X pins σ H s :=
  ⟨ok, I.os, I.bare, I.base, I.loc, I.cell, I.free, I.freeC, fun p hp => I.pin p (List.mem_append_left _ hp), I.hok, I.len⟩
end
/-- what 'except x as n' wishes, where all that comes is caught, and kept -/
def wKp (K : Frag) (c : Value) (i : Nat) (ts : TS) (D : Ends) : WX := fun cls d σ H =>
  ∃ C, cls = .ref C ∧ PySem.W.exmOne K cls c = some true ∧ ∀ a, H a = none → ts { nx := fun σ' H' => D.nx (σ'.set i none) H', rt := D.rt, bk := fun σ' H' => D.bk (σ'.set i none) H', ct := fun σ' H' => D.ct (σ'.set i none) H' } (σ.set i (some (.ref a))) (upd H a (exN a C d))
def tTryK (K : Frag) (c : Value) (i : Nat) (ts : TS) (tb : WX → TS) : TS := fun D σ H => tb (wKp K c i ts D) D σ H
section
variable {X : Cx} {x n : Str} {c : Value} {i : Nat} {body suite : List Stmt} {b₀ : Stmt} {np pos pos' : Pos} {tb : WX → TS} {ts : TS}
theorem ps_try_kept (hs : X.stack = X.env :: X.outer) (hf : X.env.frame = some X.env.locals) (hN : X.N.Nodup) (hi : X.N[i]? = some n) (hln : X.env.kindOf n = some .local) (hc : Names X x c)
    (hb : ∀ (W : WX) (pn : List (Addr × Obj)) (xe : Value → Shared → Prop), Takes (X.tr pn xe) W → PassesOwn (model X.prog X.w) X.A X.env xe → PSs (X.tr pn xe) body (tb W))
    (hsu : ∀ (a : Addr) (pn : List (Addr × Obj)), PSs (X.suite a pn) (b₀ :: suite) ts) :
    PS X (.Try body [.ExceptHandler (some (.Name x np)) (some n) (b₀ :: suite) pos'] [] [] pos) (tTryK X.K c i ts tb) := by
  refine ⟨fun pins s σ H D I h => ?_⟩
  have ok := I.ok
  have hfr : X.A.frames = some (X.env :: X.outer) := by rw [ok.frames, hs]
  have hloc : Loc X.env.scope n := .inl hln
  refine wpAny_Try_except ?_
  refine wpAny_mono ((hb (wKp X.K c i ts D) (X.pn ++ pins) (fun e s₁ => wpAny (model X.prog X.w) X.A (noteFrame e X.env) (fun _ s₂ => wpAny (model X.prog X.w) X.A (setFlight e none) (fun _ s₃ =>
    wpAny (model X.prog X.w) X.A (handleBy e X.env [.ExceptHandler (some (.Name x np)) (some n) (b₀ :: suite) pos']) (SP X pins D) X.xe s₃) X.xe s₂) X.xe s₁) (fun u s' xx => ?_) PassesOwn.looking).run [] s σ H D (I.toTry _) h) (fun f s1 hsp => ?_) (fun e s1 he => he)
  · -- the catch
    obtain ⟨a, B, sI, pins', σ', H', cls, d, rfl, J', nb, up, sky, na, os, ag, C, ecls, hb1, hyes⟩ := xx
    have J : Inv X pins σ' H' sI := J'.ofTry ok
    have sky' : Sky B (X.env :: X.outer) a (Zc cls d) X.env.locals s'.heap := by rw [← hs]; exact sky
    show wpAny (model X.prog X.w) X.A (noteFrame (.ref a) X.env) _ _ _
    refine Sky.land Zc.steady hfr hf sky' fun h3 fl3 up3 => ?_
    have J3 : Inv X pins σ' H' { s' with heap := h3 } := J.landed nb fl3.1 (up.trans up3) os ag
    obtain ⟨oe3, vs3, he3, hz3, hd3⟩ := fl3.there
    have notFr : ∀ {h : Heap} {o : Obj} {vs : Array Value}, h.FunFrames B (X.env :: X.outer) → h.get? a = some o → o.data = .fields vs → a ∉ frs (X.env :: X.outer) := fun {h o vs} ff e dd hm => by
      obtain ⟨_, o', e', hnf⟩ := ff.mem hm
      rw [e] at e'; cases e'
      exact hnf _ dd
    have nfr := notFr fl3.2.2.1 he3 hd3
    have nL : a ≠ X.env.locals := fun z => nfr (List.mem_filterMap.mpr ⟨X.env, List.mem_cons_self, by rw [hf, z]⟩)
    have nF : a ∉ X.fs := fun hm => by
      obtain ⟨e, he, q⟩ := List.mem_filterMap.mp hm
      exact nfr (List.mem_filterMap.mpr ⟨e, List.mem_cons_of_mem _ he, q⟩)
    have S3 := J3.suite he3 hd3 na nL nF
    refine wpAny_handleBy_cons (codeAny_handlers_test ?_) (by intro q; cases q)
    have LT : PySem.W.Looks (model X.prog X.w) h3 (typeOf (.ref a)) cls := fun A Q E s k q => wpAny_typeOf_ref (k _ _ he3) (by rw [hz3.1]; exact q)
    have LM := PySem.W.exm_one (M := model X.prog X.w) (J3.kIn) LT hb1
    have test : ∀ {Q : Value → Shared → Prop} {E : Value → Shared → Prop}, Q c { s' with heap := h3 } → wpAny (model X.prog X.w) (X.A.mark (some (.ref a))) (eval (.Name x np) X.env) Q E { s' with heap := h3 } := fun {Q E} q => by
      obtain ⟨hg, hdbg, hm | ⟨hm, hv, hnn⟩⟩ := hc
      · exact ld_glob (X := X.suite a ((a, oe3) :: (X.pn ++ pins))) S3 hg hm q hdbg
      · exact ld_blt (X := X.suite a ((a, oe3) :: (X.pn ++ pins))) S3 hg hm hv q hnn hdbg
    refine test (LM.here ?_)
    refine codeAny_handlers_suite_as ?_
    refine HandSPX.lands_againZ fl3 fun h4 fl4 up4 => ?_
    obtain ⟨oe4, vs4, he4, hz4, hd4⟩ := fl4.there
    have J4 : Inv X pins σ' (upd H' a (exN a C d)) { s' with heap := h4 } := landedN (s' := { s' with heap := h4 }) J nb fl4.1 ((up.trans up3).trans up4) os ag na fl4.2.1 (by rw [hs]; exact nfr) he4 (hz4.1.trans ecls) hz4.2 hd4
    have S4 := toSuiteN J4 a
    refine store_ok (X := X.suite a (X.pn ++ pins)) (v := .ref a) S4 hN hi hloc rfl (fun s5 S5 => ?_) (.inr hln)
    refine wpAny_mono ((hsu a (X.pn ++ pins)).run [] s5 _ _ _ S5 (hyes a na)) (fun f s6 hsp => ?_) (fun _ _ z => False.elim z)
    have end_ : ∀ {σ6 : St} {H6 : Hp} {Q : Shared → Prop}, Inv (X.suite a (X.pn ++ pins)) [] σ6 H6 s6 → (∀ s7, Inv X pins (σ6.set i none) H6 s7 → Q s7) →
        wpAny (model X.prog X.w) X.A (do bindName X.env n .none; unbindBehindTheSuite X.env n pos') (fun _ s7 => Q s7) X.xe s6 := fun {σ6 H6 Q} S6 hq => gone_ok (ofSuiteN S6 ok) hN hi hln hq
    cases f with
    | next =>
      obtain ⟨σ6, H6, S6, q6⟩ := hsp
      exact end_ S6 fun s7 J7 => ⟨_, _, J7, q6⟩
    | brk =>
      obtain ⟨σ6, H6, S6, q6⟩ := hsp
      exact end_ S6 fun s7 J7 => ⟨_, _, J7, q6⟩
    | cont =>
      obtain ⟨σ6, H6, S6, q6⟩ := hsp
      exact end_ S6 fun s7 J7 => ⟨_, _, J7, q6⟩
    | ret u =>
      obtain ⟨v6, σ6, H6, S6, r6, q6⟩ := hsp
      exact end_ S6 fun s7 J7 => ⟨_, _, _, J7, r6, q6⟩
  · cases f with
    | next =>
      obtain ⟨σ', H', J', q⟩ := hsp
      exact wpAny_execs_nil ⟨σ', H', J'.ofTry ok, q⟩
    | brk =>
      obtain ⟨σ', H', J', q⟩ := hsp
      exact ⟨σ', H', J'.ofTry ok, q⟩
    | cont =>
      obtain ⟨σ', H', J', q⟩ := hsp
      exact ⟨σ', H', J'.ofTry ok, q⟩
    | ret u =>
      obtain ⟨v, σ', H', J', r, q⟩ := hsp
      exact ⟨v, σ', H', J'.ofTry ok, r, q⟩
end
/-! ### isinstance of a kept exception, its fields -/
section
variable {prog : Program} {w : World} {A : Around} {E : Value → Shared → Prop} {s : Shared} {K : Frag} {x D : Addr} {ox : Obj} {od : Option Obj}
open PySem.W PySem.Calls
theorem findObj_dataO {C : Addr} {name : Str} {a g : Value} (hc : (clsIn K C).isSome = true) (ha : findIn K (.ref C) name = some (some a)) (hg : specialIn K a "__get__" = some (some g)) (ht : takesIn K a = some true) : findObj K C od name = some (.bind g a) := by
  obtain ⟨cd, hc⟩ := Option.isSome_iff_exists.mp hc
  unfold findObj
  rw [hc, Option.bind_some, ha, Option.bind_some]
  simp [hg, ht]
theorem kin_classO {Q : Option Value → Shared → Prop} (hga : findIn K (.ref D) "__getattribute__" = some (some (.builtin "BaseException.__getattribute__"))) (hgt : findIn K (.ref D) "__getattr__" = some none) (hsub : subIn K (.ref D) (.type "BaseException") = some true)
    (hdct : hasDictIn K D = true) (ha : findIn K (.ref D) "__class__" = some (some (.builtin "object.__class__")))
    (hn : specialIn K (.builtin "object.__class__") "__get__" = some (some (.builtin "getset_descriptor.__get__"))) (htk : takesIn K (.builtin "object.__class__") = some true) (hm : mroIn K D (.type "object") = some true)
    (X : K.In s.heap) (I : InstAt s.heap x ox D od) (h : Q (some (.ref D)) { s with toks := s.toks + 1 }) : wpAny (model prog w) A (getAttr? (.ref x) "__class__") Q E s := by
  have hf : findObj K D od "__class__" = some (.bind (.builtin "getset_descriptor.__get__") (.builtin "object.__class__")) := findObj_dataO (by obtain ⟨cd, hc, _⟩ := any_some hdct; rw [hc]; rfl) ha hn htk
  obtain ⟨hp, g, d, t, os⟩ := s
  have L0 := I.type (M := model prog w)
  have L1 := looks_findIn (M := model prog w) X hga
  have L2 := looks_findIn (M := model prog w) X hgt
  have L3 := looks_find (M := model prog w) X I hf
  have sub : Looks (model prog w) hp (isInstance (.ref x) (.type "BaseException")) true := L0.andThen (looks_subIn X hsub)
  have hx0 : (false && onTheHeap (Value.builtin "BaseException.__getattribute__")) = false := rfl
  have hx2 : (Value.builtin "BaseException.__getattribute__" == Value.builtin "object.__getattribute__") = false := by decide +kernel
  have hx1 : (onTheHeap (Value.ref D) && Value.builtin "BaseException.__getattribute__" == Value.builtin "object.__getattribute__") = false := by rw [hx2]; rfl
  unfold getAttr? getAttrBy? getAttrBy
  refine wpAny_bind (wpAny_mkText (wpAny_bind (wpAny_attempt (wpAny_holding (wpAny_bind (L0.at (wpAny_bind (L1.at ?_))))))))
  show wpAny _ _ (if (onTheHeap (Value.ref D) && Value.builtin "BaseException.__getattribute__" == Value.builtin "object.__getattribute__") = true then _ else _) _ _ _
  rw [hx1, if_neg Bool.false_ne_true]
  unfold getAttrByItsOwn hookBefore
  refine wpAny_bind ?_
  rw [if_pos (show onTheHeap (Value.ref D) = true from rfl)]
  refine L2.at ?_
  refine wpAny_bind (wpAny_attempt (wpAny_holding ?_))
  unfold callGetattribute
  rw [hx0, if_neg Bool.false_ne_true]
  unfold boundAndCalled
  rw [PySem.F.excAttr_ValueError.ga.bind (.ref x)]
  refine wpAny_bind (wpAny_pure ?_)
  show wpAny _ _ (call (.builtin "BaseException.__getattribute__") [.ref x, .str "__class__" t]) _ _ _
  refine wpAny_call (codeAny_call_builtin PySem.F.excAttr_ValueError.ga.plain PySem.F.entry_bexc_ga ?_)
  refine @check_slot (model prog w) _ _ ⟨hp, g, d, t + 1, os⟩ "BaseException.__getattribute__" "BaseException" "__getattribute__" (.ref x) [.str "__class__" t] [] _ (by decide +kernel) (by decide +kernel) sub (PySem.F.args_bexc_ga (.ref x) (.str "__class__" t)) ?_
  unfold Builtin.«object.__getattribute__»
  refine wpAny_bind (wpAny_of_eq (a := ((Value.ref x : Value), [Value.str "__class__" t])) (by first | rfl | (simp only [slotArgs]; rfl)) ?_)
  refine wpAny_bind (wpAny_pure (wpAny_bind (L0.at (wpAny_bind (L3.at ?_)))))
  show wpAny _ _ (holding [Value.builtin "object.__class__"] (call (.builtin "getset_descriptor.__get__") [.builtin "object.__class__", .ref x, .ref D]) >>= ret) _ _ _
  refine wpAny_bind (wpAny_holding (wpAny_call (class_get (s := ⟨hp, g, d, t + 1, os⟩) (ox := ox) (od := od) X I hm ?_)))
  refine wpAny_pure ?_
  show wpAny _ _ (handedOut (.ref D)) _ _ _
  rw [handedOut_of (v := .ref D) rfl]
  first
    | exact wpAny_pure (wpAny_pure h)
    | exact wpAny_pure h
    | exact wpAny_pure (wpAny_bind (wpAny_pure (wpAny_pure h)))
theorem kitx_excO (hga : findIn K (.ref D) "__getattribute__" = some (some (.builtin "BaseException.__getattribute__"))) (hgt : findIn K (.ref D) "__getattr__" = some none) (hsub : subIn K (.ref D) (.type "BaseException") = some true) (hdct : hasDictIn K D = true) (ha : findIn K (.ref D) "__class__" = some (some (.builtin "object.__class__")))
    (hn : specialIn K (.builtin "object.__class__") "__get__" = some (some (.builtin "getset_descriptor.__get__"))) (htk : takesIn K (.builtin "object.__class__") = some true) (hm : mroIn K D (.type "object") = some true) :
    KitX K (.ref x) (.ref D) (fun h => ∃ ox od, InstAt h x ox D od) where
  ty := fun _ _ _ ⟨_, _, I⟩ => I.type
  it := fun _ _ X _ => by
    obtain ⟨cdD, hcD, _⟩ := any_some hdct
    unfold clsIn at hcD
    split at hcD
    · rename_i c' d' cd' sl' ho
      intro A' Q' E' s' k q
      unfold isType loadHead
      exact wpAny_bind (wpAny_loadPart (k _ _ (X _ _ ho)) (wpAny_pure q))
    · cases hcD
  ne := fun h tp dd its n sl X htp => by
    obtain ⟨cdD, hcD, _⟩ := any_some hdct
    refine Bool.eq_false_iff.mpr fun q => ?_
    have e : D = tp := Value.ref.inj (beq_iff_eq.mp q)
    subst e
    unfold clsIn at hcD
    split at hcD
    · rename_i c' d' cd' sl' ho
      have z := (X _ _ ho).symm.trans htp
      cases z
    · cases hcD
  ca := fun X ⟨_, _, I⟩ k => kin_classO hga hgt hsub hdct ha hn htk hm X I k
end
/-- the object of a kept exception, with its dict -/
theorem inst_of {P : Program} {w : World} {H : Hp} {h : Heap} {a C : Addr} {d : Option Addr} (hok : HOk P w H h) (ha : H a = some (exN a C d)) (hd : d = none ∨ ∃ dd fs, d = some dd ∧ H dd = some (.xd fs)) : ∃ ox od, PySem.W.InstAt h a ox C od := by
  obtain ⟨oe, vs, he, h1, h2, h3⟩ := exN_at hok ha
  rcases hd with rfl | ⟨dd, fs, rfl, hdd⟩
  · exact ⟨oe, none, he, h1, by unfold PySem.W.notCls; rw [h3] <;> rfl, by rw [h2]; trivial⟩
  · have hx : ObjOk P w H h dd (.xd fs) := hok dd _ hdd
    obtain ⟨mA, hns, hr⟩ := hx
    obtain ⟨od, ho, hl⟩ := lookIn_ns hns
    exact ⟨oe, some od, he, h1, by unfold PySem.W.notCls; rw [h3] <;> rfl, by rw [h2]; exact ho⟩
/-- isinstance(e, c) -/
def rIsK (K : Frag) : List V → Hp → VK → Prop := fun xs H Q => ∃ (a D : Addr) (d : Option Addr) (c : V) (cv : Value) (b : Bool), xs = [.ref a, c] ∧ (∀ u, RelV c u → u = cv) ∧ H a = some (exN a D d) ∧ (d = none ∨ ∃ dd fs, d = some dd ∧ H dd = some (.xd fs)) ∧ ExcC K D ∧ PySem.W.kitOne K (.ref D) cv = some b ∧ Q (.bl b) H
theorem call_isK {X : Cx} : CallR X (.builtin "isinstance") (rIsK X.K) := by
  intro pins s σ H xs us Q I r h
  obtain ⟨a, D, d, c, cv, b, rfl, hcv, ha, hd, C, e, q⟩ := h
  cases r with
  | cons rx rr =>
    cases rr with
    | cons rt rr =>
      cases rr
      cases rx
      have ec := hcv _ rt
      subst ec
      exact PySem.W.kia_one (kitx_excO C.hg C.hk C.hs C.hd C.ha C.hn C.ht C.hm) I.kIn (inst_of I.hok ha hd) e (fun z => nomatch z) fun tk => ⟨.bl b, H, I.kept (t' := tk) fun _ _ z => z, rfl, q⟩
/-- e.f -/
def tXk (K : Frag) (f : Str) (te : TE) : TE := fun σ H Q => te σ H fun x H1 => ∃ (a C dd : Addr) (fs : List (Str × V)) (v : V), x = .ref a ∧ H1 a = some (exN a C (some dd)) ∧ XfC K C ∧ PySem.W.findIn K (.ref C) f = some none ∧ H1 dd = some (.xd fs) ∧ fs.lookup f = some v ∧ Q v H1
theorem pe_xk {X : Cx} {e : Expr} {te : TE} {pos : Pos} {n : Str} (he : PE X e te) (hb : attributeBase e n X.env (eval e X.env) = eval e X.env := by rfl) : PE X (.Attribute e n pos) (tXk X.K n te) := by
  refine ⟨fun pins s σ H Q I h => ?_⟩
  refine attr_of hb (thn (he.run pins s σ H _ I h) fun u s1 hh => ?_)
  obtain ⟨x, H1, I1, rx, a, C, dd, fs, v, ex, ha, T, hno, ed, l, q⟩ := hh
  subst ex
  obtain rfl : u = Value.ref a := rx
  obtain ⟨oe, vs, he, h1, h2, h3⟩ := exN_at I1.hok ha
  have hx : ObjOk X.prog X.w H1 s1.heap dd (.xd fs) := I1.hok dd _ ed
  obtain ⟨mA, hns, hr⟩ := hx
  obtain ⟨od, ho, hl⟩ := lookIn_ns hns
  obtain ⟨u, hu, ru⟩ := RelO.some_of (v := v) (o := mA n) (by rw [← l]; exact hr n)
  have J : PySem.W.InstAt s1.heap a oe C (some od) := ⟨he, h1, by unfold PySem.W.notCls; rw [h3] <;> rfl, by rw [h2]; exact ho⟩
  exact HandSPX.exc_get I1.kIn J T.ga T.gg T.exC (PySem.W.findObj_own T.hdC hno rfl (by rw [hl, hu])) (handed_of ru) ⟨v, H1, I1.tok _, ru, q⟩
/-! ### __init__ of an own class: B.__init__(self, ..), self.f = x -/
end Fw

namespace Fw
open PySem L2
/-! ### exceptions of own classes -/
/-- the value of a name at the top -/
def mK (K : Frag) : Str → Value := fun n => match PySem.W.nsIn K mainGlobals n with
  | some (some v) => v
  | _ => .none
theorem mK_of {K : Frag} {n : Str} {v : Value} (h : PySem.W.nsIn K mainGlobals n = some (some v)) : mK K n = v := by
  unfold mK
  rw [h]
theorem ExD.mono {fs : List (Str × V)} {d : Option Addr} {G H : Hp} (s : Inc G H) (h : ExD fs d G) : ExD fs d H := by
  cases fs with
  | nil => exact h
  | cons p r =>
    obtain ⟨a, e, g⟩ := h
    exact ⟨a, e, s _ _ g⟩
instance : Rp Exc := ⟨fun K e v G => ∃ a C d, v = .ref a ∧ PySem.W.nsIn K mainGlobals e.cls = some (some (.ref C)) ∧ G a = some (exN a C d) ∧ ExD e.fs d G ∧ ∀ p ∈ e.fs, VOk p.2,
  fun s ⟨a, C, d, h1, h2, h3, h4, h5⟩ => ⟨a, C, d, h1, h2, s _ _ h3, h4.mono s, h5⟩⟩
/-- what may be a field -/
class Sv (α : Type) [Rp α] where
  toV : α → V
  ofV : V → R α
  rep : ∀ {K : Frag} {x : α} {v : V} {G : Hp}, Rp.rep K x v G → v = toV x ∧ VOk v
  back : ∀ {K : Frag} {x : α} {v : V} {G : Hp}, ofV v = .ok x → VOk v → Rp.rep K x v G
  nex : ∀ {v : V} {e : Exc}, ofV v ≠ .ex e
instance : Sv Int := ⟨fun x => .int x, fun v => match v with | .int x => .ok x | _ => .no, fun h => ⟨h, by rw [show _ = V.int _ from h]; trivial⟩, fun {K x v G} h _ => by
  cases v <;> first | (cases h; done) | (injection h with h; subst h; rfl), fun {v e} h => by cases v <;> cases h⟩
instance : Sv Str := ⟨fun x => .str x, fun v => match v with | .str x => .ok x | _ => .no, fun h => ⟨h.1, by rw [h.1]; exact h.2⟩, fun {K x v G} h o => by
  cases v <;> first | (cases h; done) | (injection h with h; subst h; exact ⟨rfl, o⟩), fun {v e} h => by cases v <;> cases h⟩
class Fv (τ : Type) [Args τ] where
  vs : τ → List V
  rep : ∀ {K : Frag} {x : τ} {ws : List V} {G : Hp}, Args.reps K x ws G → ws = vs x ∧ ∀ v ∈ ws, VOk v
instance : Fv Unit := ⟨fun _ => [], fun {K x ws G} h => by
  have h' : ws = [] := h
  subst h'
  exact ⟨rfl, fun v hv => absurd hv (by simp)⟩⟩
instance {α τ : Type} [Rp α] [Sv α] [Args τ] [Fv τ] : Fv (α × τ) := ⟨fun x => Sv.toV x.1 :: Fv.vs x.2, fun {K x ws G} ⟨v, r, e, h1, h2⟩ => by
  subst e
  obtain ⟨a, b⟩ := Fv.rep h2
  obtain ⟨c, d⟩ := Sv.rep h1
  exact ⟨by rw [a, c], fun u hu => by
    rcases List.mem_cons.mp hu with z | z
    · rw [z]; exact d
    · exact b u z⟩⟩
/-- .. as it is found through its class -/
structure Ini (P : Program) (w : World) (K : Frag) (mg : Str → Option Value) (base : Heap) (C : Addr) (k : Nat) (ps : List Str) (sp : Sp) : Prop where
  ex : ∃ (f : Addr) (fd : FuncData), PySem.W.findIn K (.ref C) "__init__" = some (some (.ref f)) ∧ PySem.W.typeIn K (.ref f) = some (.type "function") ∧ Binds K fd ps [] ∧ FnOk P w K mg base (L2.CX P w) k f fd ps sp
section
variable {J S T U ρ α β γ τ : Type} {c : Cn} {X : WX} {kr : ρ → Kd} {Ls : List Sl} {Js : J → List Sl} {B : Bd} {As : List Sl} {Bs : S → List Sl} {K : Frag} {W0 : Wd}
/-- try -/
def Out.npx (m : Out S J ρ) : Out S J ρ := match m with
  | .ex _ => .no
  | o => o
@[simp] theorem Out.npx_nx (s : S) : (Out.nx s : Out S J ρ).npx = .nx s := rfl
@[simp] theorem Out.npx_rt (r : ρ) : (Out.rt r : Out S J ρ).npx = .rt r := rfl
def Out.tryE (m : Out S J ρ) (cat : List Str) (h : Exc → Out S J ρ) : Out S J ρ := match m with
  | .ex e => if e.cls ∈ cat then (h e).npx else .no
  | o => o
def Bd.tr (B : Bd) : Bd := ⟨B.W0, B.Wo, B.W0, B.le, Le.refl _⟩
theorem d_tryE {tb : WX → TS} {ts : TS} {cv : Value} {m : Out S J ρ} {h : Exc → Out S J ρ} {Cs : Exc → S → List Sl} (i : Nat) (cat : List Str) (hcat : ∀ n ∈ cat, ∃ C, c.M n = .ref C ∧ PySem.W.nsIn c.K mainGlobals n = some (some (.ref C)) ∧ PySem.W.exmOne c.K (.ref C) cv = some true)
    (hb : ∀ W, Den c W kr As Js B.tr (tb W) As m Bs) (hs : ∀ e : Exc, Den c (fun _ _ _ _ => False) kr (Js' : List Sl) Js B ts (As.set i (.fr e)) (h e) (Cs e))
    (hw : ∀ e s, Wk ((Cs e s).set i .un) (Bs s)) (hj : ∀ j σ W, At c.K B.W0 (Js j) σ W → At c.K B.W0 (Js j) (σ.set i none) W) :
    Den c X kr Ls Js B (tTryK c.K cv i ts tb) As (m.tryE cat h) Bs := fun D σ W a f => by
  refine hb (wKp c.K cv i ts D) D σ W a ?_
  cases m with
  | nx s => exact f
  | rt r => exact f
  | bk j => exact f
  | ct j => exact f
  | no => exact f
  | ex e =>
    intro cls d σ' W' a' ⟨ec, ed, ev⟩
    have f' : Fin c X kr Ls Js B Bs D (if e.cls ∈ cat then (h e).npx else .no) := f
    by_cases hc : e.cls ∈ cat
    · rw [if_pos hc] at f'
      obtain ⟨C, hM, hn, hm⟩ := hcat _ hc
      refine ⟨C, ec.trans hM, by rw [ec.trans hM]; exact hm, fun b hb => ?_⟩
      have r : Rp.rep c.K e (.ref b) (W'.nf b (exN b C d)).G := ⟨b, C, d, rfl, hn, upd_same, ed.mono (Le.nf hb).g, ev⟩
      refine hs e _ _ (W'.nf b (exN b C d)) ((a'.mono (Le.nf hb)).setF r) ?_
      revert f'
      cases h e with
      | nx s => exact fun f' σ2 W2 a2 => f' _ W2 ((a2.set (i := i) (A := .un) (o := none) trivial).wk (hw e s))
      | rt r => exact fun f' => f'
      | bk j => exact fun f' σ2 W2 a2 => f' _ W2 (hj j σ2 W2 a2)
      | ct j => exact fun f' σ2 W2 a2 => f' _ W2 (hj j σ2 W2 a2)
      | no => exact fun f' => f'
      | ex e2 => exact fun f' => f'.elim
    · rw [if_neg hc] at f'
      exact f'.elim
theorem j_nil {W0 : Wd} {i : Nat} : ∀ (j : J) (σ : St) (W : Wd), At c.K W0 ((fun _ : J => []) j) σ W → At c.K W0 ((fun _ : J => []) j) (σ.set i none) W := fun j σ W a => by
  have : σ = [] := List.length_eq_zero_iff.mp a.len
  subst this
  exact a
/-- a field of a caught exception -/
@[irreducible] def R.fld [Rp α] [Sv α] (e : Exc) (f : Str) : R α := match e.fs.lookup f with
  | some v => Sv.ofV v
  | none => .no
theorem lookup_mem {f : Str} {v : V} : ∀ {fs : List (Str × V)}, fs.lookup f = some v → (f, v) ∈ fs
  | [], h => by cases h
  | (g, y) :: fs, h => by
    rw [lookup_put] at h
    by_cases c : f = g
    · rw [if_pos c] at h
      cases h
      rw [c]
      exact List.mem_cons_self ..
    · rw [if_neg c] at h
      exact List.mem_cons_of_mem _ (lookup_mem h)
theorem r_fld [Rp α] [Sv α] {te : TE} {m : R Exc} (f : Str) (h : Exr c W0 X te As m fun x => kFr c.K x) (cat : List Str) (hcat : ∀ n ∈ cat, ∀ C, PySem.W.nsIn c.K mainGlobals n = some (some (.ref C)) → XfC c.K C ∧ PySem.W.findIn c.K (.ref C) f = some none) :
    Exr c W0 X (tXk c.K f te) As (m.bind fun e => if e.cls ∈ cat then R.fld e f else .no) fun x : α => kFr c.K x := fun σ W a => by
  have h' := h σ W a
  cases m with
  | no => trivial
  | ex e => exact fun W1 e1 Q q => h' W1 e1 _ q
  | ok e =>
    show SatR (if e.cls ∈ cat then R.fld e f else .no) _ _
    by_cases hc : e.cls ∈ cat
    · rw [if_pos hc]
      unfold R.fld
      cases hl : e.fs.lookup f with
      | none => trivial
      | some v =>
        dsimp only
        cases ho : (Sv.ofV v : R α) with
        | no => trivial
        | ex e => exact absurd ho Sv.nex
        | ok x =>
          refine fun W1 e1 Q q => h' W1 e1 _ fun u W2 e2 ⟨b, C, d, eu, hn, hg, hd, hv⟩ => ?_
          obtain ⟨xc, hno⟩ := hcat _ hc C hn
          have hm := lookup_mem hl
          cases hfs : e.fs with
          | nil => rw [hfs] at hm; cases hm
          | cons p r =>
            rw [hfs] at hd
            obtain ⟨dd, ed, gd⟩ := hd
            subst ed
            exact ⟨b, C, dd, p :: r, v, eu, W2.sub _ _ hg, xc, hno, W2.sub _ _ gd, by rw [← hfs]; exact hl, q v W2 e2 (Sv.back ho (hv _ hm))⟩
    · rw [if_neg hc]
      trivial
/-- isinstance of a caught exception -/
def R.isK (tb : List (Str × Bool)) (e : Exc) : R Bool := match tb.lookup e.cls with
  | some b => .ok b
  | none => .no
theorem lookup_mem' {β : Type} {f : Str} {v : β} : ∀ {fs : List (Str × β)}, fs.lookup f = some v → (f, v) ∈ fs
  | [], h => by cases h
  | (g, y) :: fs, h => by
    by_cases c : f = g
    · subst c
      simp [List.lookup] at h
      subst h
      exact List.mem_cons_self ..
    · have e : (f == g) = false := by simpa using c
      simp [List.lookup, e] at h
      exact List.mem_cons_of_mem _ (lookup_mem' h)
theorem o_isK {cv : V} {cV : Value} (tb : List (Str × Bool)) (hcv : ∀ u, RelV cv u → u = cV) (htb : ∀ p ∈ tb, ∀ C, PySem.W.nsIn K mainGlobals p.1 = some (some (.ref C)) → ExcC K C ∧ PySem.W.kitOne K (.ref C) cV = some p.2) :
    OpA (rIsK K) (fun z : Exc × Unit => aCons (kFr K z.1) (aCons (kV cv) aNil)) (fun z => R.isK tb z.1) (fun b : Bool => kFr K b) := fun z => by
  have hr : R.isK tb z.1 = match tb.lookup z.1.cls with | some b => R.ok b | none => R.no := rfl
  cases hl : tb.lookup z.1.cls with
  | none =>
    rw [hl] at hr
    dsimp only at hr ⊢
    rw [hr]
    trivial
  | some b =>
    rw [hl] at hr
    dsimp only at hr ⊢
    rw [hr]
    refine fun W0 W vs ⟨v, r, e, ⟨a, C, d, ev, hn, hg, hd, _⟩, w, r2, e2, ew, en⟩ Q q => ?_
    have ew' : w = cv := ew
    subst e e2 en ew' ev
    obtain ⟨xc, hk⟩ := htb _ (lookup_mem' hl) C hn
    refine ⟨a, C, d, w, cV, b, rfl, hcv, W.sub _ _ hg, ?_, xc, hk, q _ W (Le.refl _) rfl⟩
    cases hfs : z.1.fs with
    | nil => rw [hfs] at hd; exact .inl hd
    | cons p r =>
      rw [hfs] at hd
      obtain ⟨dd, ed, gd⟩ := hd
      exact .inr ⟨dd, _, ed, W.sub _ _ gd⟩
theorem e_ref (C : Addr) : Exp c W0 (tC (.ref C)) As (kV (.ref C)) := fun σ W a W1 e Q q => q _ W1 (Le.refl _) rfl
/-- a body that may raise, all of whose ways return -/
theorem fn_runX [Args τ] {f : τ → R ρ} {m : τ → Out Unit Unit ρ} {N : List Str} {n : Nat} {t : TS} {vs : List V} {H : Hp} {Q : VK} {E : XK} {Bs : Unit → List Sl} (h : spF c f kr vs H Q E) (hN : N.length = Args.num τ + n) (hm : ∀ x, f x = (m x).runX)
    (hd : ∀ (W : Wd) x, Den c (x0 E) kr (uns N.length) (fun _ : Unit => []) (bd0 W) t (Args.sl x ++ uns n) (m x) Bs) : t { nx := fun _ H' => Q .non H', rt := Q } (start N vs) H := by
  obtain ⟨W, x, eh, r, k⟩ := h
  subst eh
  have hl := Args.len r
  have a0 : At c.K W (Args.sl x ++ uns n) (start N vs) W := by
    unfold L2.start
    rw [hl, hN, Nat.add_sub_cancel_left]
    exact Args.at_ r (at_uns n)
  refine hd W x _ _ W a0 ?_
  rw [hm x] at k
  revert k
  generalize m x = o
  intro k
  cases o with
  | nx s => exact k.elim
  | rt r => exact fun v W' l p => k v W' l p
  | bk j => exact k.elim
  | ct j => exact k.elim
  | ex e => exact fun cls d σ' W' a z => k cls d W' a.le z
  | no => exact k.elim
end
/-! ### __init__: B.__init__(self, 'text'); self.f = x -/
section
variable {K : Frag} {C : Addr} {N : List Str} {vs : List V} {H : Hp} {Q : VK} {E : XK} {s : Str}
end
/-! ### the end of a law, with the classes -/
theorem walk_lawM {l : PySem.W.OpenLaw} {q : Program} {loose : List Str} {XP : (Str → Option Value) → Heap → Prop} {YP : World → Heap → Prop} {d : DefRec} {K : Params → PySem.W.Frag} {k : Nat} {x : Str} {f : Sq Int → R Bool}
    (H : ∀ ns : List Int, ns.length ≤ 63 → f ⟨ns⟩ = .ok true) (hn : l.most = some 63) (hdf : d.params.defaults = []) (hr : Room k callerA) (hY : ∀ (w : World) (h : Heap), YP w h → (K w.params).In h)
    (F : ∀ (w : World) (mg : Str → Option Value) (fa : Addr) (h : Heap), (K w.params).In h → h.Ns mainGlobals mg → mg d.name = some (.ref fa) →
      ∃ fd : FuncData, (∀ (s : Shared) (u : Value), BindsTo s fd ⟨[u], []⟩ [(x, u)]) ∧ ∀ base : Heap, (K w.params).In base → base.Ns mainGlobals mg → FnOk l.prog w (K w.params) mg base (L2.CX l.prog w) k fa fd [x] (spF ⟨K w.params, mK (K w.params)⟩ (fun x : Sq Int × Unit => f x.1) (fun x : Bool => kFr (K w.params) x))) :
    PySem.W.WalkO q loose XP YP l.row.toRowW d [] (fun f vs => PySem.call f vs) :=
  L2.walk_of (n := 63) (k := k) (x := x) (CX := fun w => L2.CX l.prog w) (sp := fun w => spF ⟨K w.params, mK (K w.params)⟩ (fun x : Sq Int × Unit => f x.1) (fun x : Bool => kFr (K w.params) x)) hn (by decide) hdf hr hY F (fun _ Hh a ns hl _ hS => law_end H Hh a ns hl hS) fun _ _ _ _ _ z => cx_never z
/-! ### classes -/
structure ExK (K : Frag) (n : Str) (C : Addr) : Prop where
  ns : PySem.W.nsIn K mainGlobals n = some (some (.ref C))
  o : OexC K C
  e : ExcC K C
  x : XfC K C
theorem exK_mk {K : Frag} {n : Str} {C N : Addr} {nm q : Str} {bs bm : List Value} {sn : List Str} {sub : List Value} {ab : Bool} {col : Option Bool} {dd : Option Addr} {k0 k1 k2 k3 k5 : Option Value}
    (ns : PySem.W.nsIn K mainGlobals n = some (some (.ref C))) (lk : K.lookup C = some (excClassObj nm q C N bs bm true sn sub ab col dd k0 k1 k2 k3 k5 "ValueError.__new__")) (rv : PySem.HandSPX.refsVE bm = true)
    (sa : PySem.W.findIn K (.ref C) "__setattr__" = some (some (.builtin "object.__setattr__"))) (exC : PySem.W.subIn K (.ref C) (.type "BaseException") = some true) (tyC : PySem.W.typeIn K (.ref C) = some (.type "type")) (kC : PySem.W.keepIn K (.ref C) = true)
    (ga : PySem.W.findIn K (.ref C) "__getattribute__" = some (some (.builtin "BaseException.__getattribute__"))) (gg : PySem.W.findIn K (.ref C) "__getattr__" = some none) (hd : PySem.W.hasDictIn K C = true)
    (ha : PySem.W.findIn K (.ref C) "__class__" = some (some (.builtin "object.__class__"))) (hn : PySem.W.specialIn K (.builtin "object.__class__") "__get__" = some (some (.builtin "getset_descriptor.__get__"))) (ht : PySem.W.takesIn K (.builtin "object.__class__") = some true)
    (hm : PySem.W.mroIn K C (.type "object") = some true) : ExK K n C :=
  ⟨ns, ⟨⟨nm, q, N, bs, bm, sn, sub, ab, col, dd, k0, k1, k2, k3, k5, lk, rv⟩, sa, exC, tyC, kC⟩, ⟨ga, gg, exC, hd, ha, hn, ht, hm⟩, ⟨ga, gg, exC, hd⟩⟩
theorem ExK.only {K : Frag} {n : Str} {C D : Addr} (h : ExK K n C) (e : PySem.W.nsIn K mainGlobals n = some (some (.ref D))) : D = C := by
  rw [h.ns] at e
  cases e
  rfl
theorem kit_self {K : Frag} {v : Value} : PySem.W.kitOne K v v = some true := by
  unfold PySem.W.kitOne
  rw [if_pos (beq_self_eq_true v)]
theorem kit_own {K : Frag} {C D : Addr} {b : Bool} (hne : (Value.ref C == Value.ref D) = false) (hd : PySem.W.hasDictIn K D = true) (ty : PySem.W.typeIn K (.ref D) = some (.type "type")) (hs : PySem.W.subIn K (.ref C) (.ref D) = some b) : PySem.W.kitOne K (.ref C) (.ref D) = some b := by
  obtain ⟨cd, hc, _⟩ := PySem.W.any_some hd
  unfold PySem.W.kitOne PySem.W.kitCls
  rw [hne, if_neg Bool.false_ne_true]
  dsimp only
  rw [hc, ty, if_pos (by rfl)]
  exact hs
theorem kit_tyE {K : Frag} {C : Addr} {b : Bool} {T : String} (hk : PySem.W.kitMeta T = true) (hs : PySem.W.subIn K (.ref C) (.type T) = some b) : PySem.W.kitOne K (.ref C) (.type T) = some b := by
  unfold PySem.W.kitOne PySem.W.kitCls
  rw [if_neg (by intro z; exact absurd (beq_iff_eq.mp z) (fun e => nomatch e))]
  dsimp only
  rw [if_pos hk]
  exact hs
/-! ### tables of the classes that are raised -/
def IsT (K : Frag) (tb : List (Str × Bool)) (cV : Value) : Prop := ∀ p ∈ tb, ∀ C, PySem.W.nsIn K mainGlobals p.1 = some (some (.ref C)) → ExcC K C ∧ PySem.W.kitOne K (.ref C) cV = some p.2
theorem isT_nil {K : Frag} {cV : Value} : IsT K [] cV := fun p hp => absurd hp (by simp)
theorem isT_cons {K : Frag} {cV : Value} {n : Str} {C : Addr} {b : Bool} {tb : List (Str × Bool)} (h : ExK K n C) (k : PySem.W.kitOne K (.ref C) cV = some b) (t : IsT K tb cV) : IsT K ((n, b) :: tb) cV := fun p hp D hD => by
  rcases List.mem_cons.mp hp with z | z
  · subst z
    rw [h.only hD]
    exact ⟨h.e, k⟩
  · exact t p z D hD
def FlT (K : Frag) (cat : List Str) (f : Str) : Prop := ∀ n ∈ cat, ∀ C, PySem.W.nsIn K mainGlobals n = some (some (.ref C)) → XfC K C ∧ PySem.W.findIn K (.ref C) f = some none
theorem flT_nil {K : Frag} {f : Str} : FlT K [] f := fun p hp => absurd hp (by simp)
def CatT (K : Frag) (M : Str → Value) (cat : List Str) (cv : Value) : Prop := ∀ n ∈ cat, ∃ C, M n = .ref C ∧ PySem.W.nsIn K mainGlobals n = some (some (.ref C)) ∧ PySem.W.exmOne K (.ref C) cv = some true
theorem catT_nil {K : Frag} {M : Str → Value} {cv : Value} : CatT K M [] cv := fun p hp => absurd hp (by simp)
theorem catT_cons {K : Frag} {n : Str} {C : Addr} {cat : List Str} {cv : Value} (h : ExK K n C) (k : PySem.W.exmOne K (.ref C) cv = some true) (t : CatT K (mK K) cat cv) : CatT K (mK K) (n :: cat) cv := fun p hp => by
  rcases List.mem_cons.mp hp with z | z
  · subst z
    exact ⟨C, mK_of h.ns, h.ns, k⟩
  · exact t p z
/-- the first suite of a class -/
def inCls (s : Stmt) (j : Nat) : Stmt := match s with
  | .ClassDef _ _ _ body .. => body.getD j s
  | _ => s
end Fw

namespace Fw
open PySem L2 PySem.Spec
open PyProof.Rows hiding St
/-! ### isinstance(e, (C, D, ..)) -/
section
variable {c : Cn} {W0 : Wd} {X : WX} {As : List Sl} {K : Frag}
end
section
variable {K : Frag}
end
theorem pe_xkK {X : Cx} {K : Frag} (hk : X.K = K) {e : Expr} {te : TE} {pos : Pos} {n : Str} (he : PE X e te) (hb : attributeBase e n X.env (eval e X.env) = eval e X.env := by rfl) : PE X (.Attribute e n pos) (tXk K n te) := by
  subst hk
  exact pe_xk he hb
instance : NN Exc := ⟨fun ⟨_, _, _, e, _⟩ => by rw [e]; exact fun z => nomatch z⟩
end Fw

namespace Fw
open PySem L2
section
variable {J S T U ρ α β γ δ : Type} {c : Cn} {X : WX} {kr : ρ → Kd} {Ls : List Sl} {Js : J → List Sl} {B : Bd} {As : List Sl} {Bs : S → List Sl} {K : Frag}
/-! ### a, b, c = e -/
def R.to3 (m : R (T3 α β γ)) (k : α → β → γ → Out S J ρ) : Out S J ρ := m.to fun x => k x.a x.b x.c
@[simp] theorem R.to3_ok (x : T3 α β γ) (k : α → β → γ → Out S J ρ) : R.to3 (R.ok x) k = k x.a x.b x.c := rfl
/-! ### partition -/
end
instance {α : Type} [Rp α] : NN (DL α) := ⟨fun {K x v G} h => by
  obtain ⟨p, vs, e, _⟩ := (show Rp.rep K x.l v G from h)
  rw [e]
  exact fun z => nomatch z⟩
end Fw

namespace Fw
open PySem L2
/-! ### sorted -/
/-- two lists in order of the same things are one -/
theorem sorted_uniq {α : Type} {le : α → α → Prop} (anti : ∀ a b, le a b → le b a → a = b) : ∀ {l m : List α}, l.Perm m → l.Pairwise le → m.Pairwise le → l = m
  | [], m, p, _, _ => (List.nil_perm.mp p).symm
  | a :: l, [], p, _, _ => absurd p.length_eq (by simp)
  | a :: l, b :: m, p, h, k => by
    obtain ⟨h1, h2⟩ := List.pairwise_cons.mp h
    obtain ⟨k1, k2⟩ := List.pairwise_cons.mp k
    have e : a = b := by
      have ma : a ∈ b :: m := p.mem_iff.mp List.mem_cons_self
      have mb : b ∈ a :: l := p.mem_iff.mpr List.mem_cons_self
      rcases List.mem_cons.mp ma with e | ma
      · exact e
      · rcases List.mem_cons.mp mb with e | mb
        · exact e.symm
        · exact anti _ _ (h1 _ mb) (k1 _ ma)
    subst e
    exact congrArg (a :: ·) (sorted_uniq anti (List.Perm.cons_inv p) h2 k2)
def leS (a b : Str) : Bool := !decide (b.cps.toList < a.cps.toList)
def sortS (xs : List Str) : List Str := xs.mergeSort leS
theorem nlt {a b : List Nat} : ¬ a < b ↔ b ≤ a := List.not_lt
theorem leS_le {a b : Str} : leS a b = true ↔ a.cps.toList ≤ b.cps.toList := by
  unfold leS
  rw [Bool.not_eq_true', decide_eq_false_iff_not]
  exact nlt
theorem leS_trans (a b c : Str) (h : leS a b = true) (k : leS b c = true) : leS a c = true := by
  rw [leS_le] at *
  exact List.le_trans h k
theorem leS_total (a b : Str) : (leS a b || leS b a) = true := by
  rw [Bool.or_eq_true, leS_le, leS_le]
  exact List.le_total _ _
theorem leS_anti (a b : Str) (h : leS a b = true) (k : leS b a = true) : a = b := by
  rw [leS_le] at *
  exact PySem.W.str_of_cps (List.le_antisymm h k)
theorem sortS_pw (xs : List Str) : (sortS xs).Pairwise (fun a b => leS a b = true) := List.pairwise_mergeSort leS_trans leS_total xs
theorem sortS_perm (xs : List Str) : (sortS xs).Perm xs := List.mergeSort_perm xs leS
theorem rs_pw {p : Str} : ∀ {l : List Str} {p : Str}, PyProof.Rows.risingS p l = true → (p :: l).Pairwise (fun a b => leS a b = true)
  | [], p, _ => List.pairwise_singleton _ _
  | x :: r, p, h => by
    unfold PyProof.Rows.risingS at h
    rw [Bool.and_eq_true] at h
    have h1 : leS p x = true := by
      unfold leS
      rw [← h.1]
      exact PyProof.Rows.le_meets p x
    have t := rs_pw h.2 (p := x)
    refine List.pairwise_cons.mpr ⟨fun y hy => ?_, t⟩
    rcases List.mem_cons.mp hy with e | hy
    · exact e ▸ h1
    · exact leS_trans _ _ _ h1 ((List.pairwise_cons.mp t).1 y hy)
theorem sortS_of {ys xs : List Str} (p : ys.Perm xs) (h : PyProof.Rows.sortedS ys = true) : ys = sortS xs := by
  refine sorted_uniq (fun a b h k => leS_anti a b h k) (p.trans (sortS_perm xs).symm) ?_ (sortS_pw xs)
  cases ys with
  | nil => exact List.Pairwise.nil
  | cons x r => exact rs_pw h (p := x)
section
variable {K : Frag}
theorem al_of_strs {G : Hp} {xs : List Str} (h : ∀ x ∈ xs, SOk x) : Al (fun x v => Rp.rep K x v G) xs (xs.map V.str) := ⟨by simp, fun i x v a b => by
  rw [List.getElem?_map, a] at b
  cases b
  exact ⟨rfl, h x (List.mem_of_getElem? a)⟩⟩
theorem nw_list [Rp α] {W : Wd} {A : Wd} {p : Addr} {xs : List α} {vs : List V} (e : Le A W) (hp : W.H p = none) (al : Al (fun x v => Rp.rep K x v W.G) xs vs) (l : xs.length ≤ sizeLine) : (kNw K xs).p A (.ref p) (W.no p (.lst vs) hp) :=
  ⟨[p], ⟨p, vs, rfl, rfl, W.sub.nope hp, upd_same, al, l⟩, fun b hb => by rw [List.mem_singleton.mp hb]; exact e.fr hp⟩
@[irreducible] def R.sortS (xs : List Str) : R (List Str) := if xs.length < 64 then .ok (Fw.sortS xs) else .no
/-- sorted(d), its keys texts -/
def rSortedDS : List V → Hp → VK → Prop := fun xs H Q => ∃ (a : Addr) (kvs : List (Key × V)) (ks : List Str), xs = [.ref a] ∧ Rd H a (.dK kvs) ∧ kvs.map (·.1) = ks.map Sum.inr ∧ ks.length < 64 ∧
    ∀ ys p, ys.Perm ks → PyProof.Rows.sortedS ys = true → H p = none → Q (.ref p) (upd H p (.lst (ys.map V.str)))
end
section
variable {K : Frag} {α : Type} [Rp α]
def sortD (x : Dk Str α) : List Str := Fw.sortS (x.l.map (·.1))
@[irreducible] def R.sortD (x : Dk Str α) : R (List Str) := if x.l.length < 64 ∧ ∀ p ∈ x.l, SOk p.1 then .ok (Fw.sortD x) else .no
theorem dr_keys {G : Hp} : ∀ {x : List (Str × α)} {q : List (Str × V)}, DR K x q G → q.map (·.1) = x.map (·.1)
  | [], [], _ => rfl
  | a :: x, b :: q, h => by
    rw [List.map_cons, List.map_cons, dr_keys h.2.2, h.1]
  | [], _ :: _, h => h.elim
  | _ :: _, [], h => h.elim
theorem o_sortD : OpA rSortedDS (fun z : Dk Str α × Unit => aCons (kDs K z.1) aNil) (fun z => R.sortD z.1) (fun x : List Str => kNw K x) := fun z => by
  unfold R.sortD
  dsimp only
  by_cases h : z.1.l.length < 64 ∧ ∀ p ∈ z.1.l, SOk p.1
  · rw [if_pos h]
    intro W0 W vs ⟨v, r, e, ⟨p, kv, ev, hs, al, l⟩, en⟩ Q q
    subst e en ev
    refine ⟨p, _, z.1.l.map (·.1), rfl, hs, ?_, by rw [List.length_map]; exact h.1, fun ys a pm so hn => ?_⟩
    · show (kv.map fun p => (kS p.1, p.2)).map (·.1) = _
      rw [List.map_map, ← dr_keys al, List.map_map]
      rfl
    have e2 := sortS_of pm so
    subst e2
    have hp := sortS_perm (z.1.l.map (·.1))
    refine q _ (W.no a _ hn) (Le.no hn) (nw_list (Le.refl _) hn (al_of_strs fun x hx => ?_) ?_)
    · obtain ⟨y, hy, e⟩ := List.mem_map.mp (hp.mem_iff.mp hx)
      exact e ▸ h.2 y hy
    · show (Fw.sortS (z.1.l.map (·.1))).length ≤ _
      rw [hp.length_eq, List.length_map]; exact l
  · rw [if_neg h]; trivial
end
end Fw

namespace Fw
open PySem L2 PyProof.Rows PySem.Calls
/-! ### sorted(xs, key=f) -/
/-- the datum d is read of v, wherever what is tracked stands -/
def RdD (K : Frag) (d : PyData) (v : V) (H : Hp) : Prop := ∀ (P : Program) (w : World) (h : Heap) (u : Value), K.In h → HOk P w H h → RelV v u → Reads h u d []
section
variable {X : Cx} {k : Nat} {f : Addr} {fd : FuncData} {ps : List Str} {sp : Sp} {A : Around} {pins : List (Addr × Obj)} {σ : L2.St} {H : Hp} {s : Shared} {a kS : Addr} {e1 : Nat} {xs : List V} {vs : List Value} {kz : List PyData} {E : Value → Shared → Prop} {R : PySem.Fin → Shared → Prop} {P : Nat → List V → Hp → Prop}
end

/-! the keys: a whole number and a tuple of such -/
theorem rd_int {K : Frag} {H : Hp} (i : Int) : RdD K (.int i) (.int i) H := fun P w h u _ _ ⟨t, e⟩ => by
  rw [e]; exact .int i t
theorem reads_all {K : Frag} {H : Hp} {P : Program} {w : World} {h : Heap} (hk : K.In h) (ok : HOk P w H h) : ∀ {ds : List PyData} {vs : List V} {us : List Value}, Al (fun d v => RdD K d v H) ds vs → Vals vs us → ReadsAll h us ds []
  | [], [], _, _, .nil => .nil
  | d :: ds, v :: vs, _, a, .cons (b := u) r t => by
    have h1 := a.2 0 d v rfl rfl _ _ _ u hk ok r
    have h2 := reads_all hk ok (ds := ds) (vs := vs) ⟨by have := a.1; simpa using this, fun i x y e1 e2 => a.2 (i + 1) x y (by simpa using e1) (by simpa using e2)⟩ t
    exact ReadsAll.cons h1 h2
  | [], _ :: _, _, a, _ => absurd a.1 (by simp)
  | _ :: _, [], _, a, _ => absurd a.1 (by simp)
theorem rd_tup {K : Frag} {H : Hp} {p : Addr} {vs : List V} {ds : List PyData} (hp : SqT K H p vs) (al : Al (fun d v => RdD K d v H) ds vs) : RdD K (.tuple ds) (.ref p) H := fun P w h u hk ok e => by
  obtain rfl : u = .ref p := e
  rcases hp with r | ⟨o, its, n, hl, hc, hd, hz, rv⟩
  · obtain ⟨z, its, rv, o, ho, hc, n, hd⟩ := r.ok ok
    exact Reads.tuple ho hc hd (by simpa using reads_all hk ok al rv)
  · exact Reads.tuple (hk p o hl) hc hd (reads_all hk ok al rv)
section
variable {c : Cn} {W0 : Wd} {X : WX} {As : List Sl} {f : Addr}
end
end Fw

namespace Fw
open PySem L2
/-! ### a dict is locked for good where it is frozen -/
section
variable {X : Cx}
end
theorem Le.lk {A W : Wd} {p : Addr} {o : HO} (e : Le A W) (hg : W.G p = none) (hn : A.H p = none) : Le A (W.nf p o) :=
  ⟨e.g.trans (Inc.new hg), fun b u q => by
    show upd W.H p o b = _
    rw [upd_ne (ne_of_none q hn)]; exact e.h b u q, fun a g n => by
    show upd W.G p o a = none
    rw [upd_ne (fun q => n (by rw [q]; exact hn))]; exact e.o a g n⟩
section
variable {K : Frag} {W0 W : Wd} {As : List Sl} {σ : St} {i : Nat}
theorem At.lk {α : Type} [Rp α] [Ob α] {x : α} {pin : Option V} (h : At K W0 As σ W) (hi : As[i]? = some (.ow pin x)) : ∃ v f, σ[i]? = some (some v) ∧ Ob.own K x v f W ∧
    ∀ p o, f = [p] → Rp.rep K x v (W.nf p o).G → At K W0 (As.set i (.fr x)) σ (W.nf p o) := by
  obtain ⟨l, le, F, h1, h2, h3⟩ := h
  have hl : i < σ.length := l ▸ (List.getElem?_eq_some_iff.mp hi).1
  obtain ⟨v, e, r, _⟩ := h1 i _ _ hi (List.getElem?_eq_getElem hl)
  refine ⟨v, F i, by rw [List.getElem?_eq_getElem hl, e], r, fun p o hf rr => ?_⟩
  have hp : p ∈ F i := by rw [hf]; exact List.mem_singleton.mpr rfl
  have gp := (h3 i p hp).1
  have sb : Inc W.G (W.nf p o).G := Inc.new gp
  refine ⟨by simp [l], le.lk gp (h3 i p hp).2.2, fun j => if j = i then [] else F j, fun j B pp a b => ?_, fun j k a n ha hb => ?_, fun j a ha => ?_⟩
  · by_cases q : i = j
    · subst q
      rw [get_set_eq a]
      rw [List.getElem?_eq_getElem hl, e] at b
      cases b
      exact ⟨v, rfl, rr⟩
    · rw [get_set_ne q] at a
      dsimp only
      rw [if_neg (Ne.symm q)]
      have hd := h1 j B pp a b
      cases B with
      | un => trivial
      | fr x => obtain ⟨v, e1, r⟩ := hd; exact ⟨v, e1, Rp.mono sb r⟩
      | ow x =>
        obtain ⟨v, e1, r, pn⟩ := hd
        have ne : ∀ a ∈ F j, a ≠ p := fun a ha z => h2 j i a (Ne.symm q) ha (by rw [z]; exact hp)
        refine ⟨v, e1, Ob.keep r sb (fun a ha => ?_) (fun a ha => ?_), pn⟩
        · show upd W.G p o a = none
          rw [upd_ne (ne a ha)]
          exact (h3 j a ha).1
        · show upd W.H p o a = W.H a
          exact upd_ne (ne a ha)
  · dsimp only at ha hb
    split at ha
    · cases ha
    · split at hb
      · cases hb
      · exact h2 j k a n ha hb
  · dsimp only at ha
    split at ha
    · cases ha
    · rename_i c
      obtain ⟨g, n, z⟩ := h3 j a ha
      have ne : a ≠ p := fun z => h2 j i a c ha (by rw [z]; exact hp)
      refine ⟨?_, ?_, z⟩
      · show upd W.G p o a = none
        rw [upd_ne ne]; exact g
      · show upd W.H p o a ≠ none
        rw [upd_ne ne]; exact n
end
section
variable {κ α : Type} [DecidableEq κ] [Rp κ] [DKy κ] [Rp α] {c : Cn} {W0 : Wd} {X : WX} {As : List Sl}
variable {J S ρ : Type} {kr : ρ → Kd} {Ls : List Sl} {Js : J → List Sl} {B : Bd} {Bs : S → List Sl}
end
/-! ### the keys of a dict, walked -/
section
variable {c : Cn} {W0 : Wd} {X : WX} {As : List Sl} {α : Type} [Rp α]
end
end Fw

namespace Fw
open PySem PySem.Spec PyProof.Rows L2
/-! ### sets of texts: what they are, how they grow -/
def keyT (e : Int × Value) : Str := match e.2 with | .str k _ => k | _ => Str.empty
def GoodT (w : World) (e : Int × Value) : Prop := ∃ k tk, e.2 = Value.str k tk ∧ e.1 = hashStr w k
def SetT (w : World) (h : Heap) (a : Addr) (S : Str → Bool) (n : Nat) : Prop :=
  ∃ o es ep t, h.get? a = some o ∧ o.ExactSet ∧ o.data = .set es ep t ∧ (∀ e ∈ es.toList, GoodT w e) ∧ (es.toList.map keyT).Nodup ∧ (∀ k, S k = true ↔ k ∈ es.toList.map keyT) ∧
    es.size < scanBound ∧ t.fits es.size = true ∧ es.size = n ∧ Ris t.place.toList ∧ (w.params.followText "set-order" = true ∨ t.led = true)
section
variable {P : Program} {w : World} {h h' : Heap} {a : Addr} {S : Str → Bool} {n : Nat}
theorem SetT.at (R : SetT w h a S n) (k : ∀ o, h.get? a = some o → h'.get? a = some o) : SetT w h' a S n := by
  obtain ⟨o, es, ep, t, ho, r⟩ := R
  exact ⟨o, es, ep, t, k o ho, r⟩
theorem SetT.congr {S' : Str → Bool} (R : SetT w h a S n) (e : ∀ k, S' k = S k) : SetT w h a S' n := by
  have q : S' = S := funext e
  rw [q]; exact R
end
section
variable {P : Program} {w : World} {A : Around} {E : Value → Shared → Prop} {s : Shared} {a : Addr} {S : Str → Bool} {n : Nat}
end
section
variable {P : Program} {w : World} {A : Around} {E : Value → Shared → Prop} {s : Shared}
end
end Fw

namespace Fw
open PySem PySem.Spec PyProof.Rows L2
/-! ### sorted(set(xs)), len(set(xs)), xs texts -/
section
variable {α : Type} [DecidableEq α]
end
section
variable {P : Program} {w : World} {A : Around} {E : Value → Shared → Prop} {s : Shared} {a : Addr}
end
section
variable {X : Cx} {a : Expr} {ta : TE} {p p2 q pos : Pos}
end
section
variable {K : Frag}
end
end Fw

namespace Fw
open PySem PySem.Spec PyProof.Rows L2
/-! ### len of a dict -/
section
variable {K : Frag} {α : Type} [Rp α]
end
end Fw

namespace Fw
open PySem L2
/-! ### defs that change two things handed in, the last two arguments -/
/-- things that stand at one place -/
class ObP (α : Type) extends Ob α where
  one : ∀ {K : Frag} {x : α} {v : V} {f : List Addr} {W : Wd}, own K x v f W → ∃ p, v = .ref p ∧ f = [p]
instance {α : Type} [Rp α] : ObP (List α) where
  one := fun {K x v f W} ⟨p, vs, e, ef, _⟩ => ⟨p, e, ef⟩
instance {κ α : Type} [DecidableEq κ] [Rp κ] [DKy κ] [Rp α] : ObP (Dk κ α) where
  one := fun {K x v f W} ⟨p, q, e, ef, _⟩ => ⟨p, e, ef⟩
section
variable {c : Cn} {W0 : Wd} {X : WX} {As Bs : List Sl} {α β γ τ ρ : Type} [ObP α] [ObP β]
variable {J S T ρ' : Type} {kr' : ρ' → Kd} {Ls : List Sl} {Js : J → List Sl} {B : Bd} {Cs : T → List Sl}
/-! the def itself -/
end
end Fw

namespace Fw
open PySem L2
/-! ### x = xs.pop() -/
theorem Al.dropLast {α : Type} {P : α → V → Prop} {xs : List α} {vs : List V} (h : Al P xs vs) : Al P xs.dropLast vs.dropLast := ⟨by rw [List.length_dropLast, List.length_dropLast, h.1], fun i x v a b => by
  rw [List.getElem?_dropLast] at a b
  split at a
  · split at b
    · exact h.2 i x v a b
    · cases b
  · cases a⟩
def R.pop {α : Type} (xs : List α) : R (α × List α) := match xs[xs.length - 1]? with
  | some y => .ok (y, xs.dropLast)
  | none => .no
section
variable {J S ρ α : Type} {c : Cn} {X : WX} {kr : ρ → Kd} {Ls : List Sl} {Js : J → List Sl} {B : Bd} {As : List Sl} {Bs : S → List Sl}
theorem d_pop [Rp α] {pin : Option V} {u : TS} {xs : List α} {k : α → List α → Out S J ρ} (i j : Nat) (ij : i ≠ j) (hi : As[i]? = some (.ow pin xs)) (hk : ∀ (y : α) (ys : List α), Den c X kr Ls Js B u ((As.set i (.ow pin ys)).set j (.fr y)) (k y ys) Bs) :
    Den c X kr Ls Js B (tSeq (tAsg (tBM0 c.K "list" rPop (tVar i)) (gName j)) u) As ((R.pop xs).to fun r => k r.1 r.2) Bs := fun D σ W a f => by
  obtain ⟨w, fp, hw, rw_, n0, chg⟩ := a.chg (β := List α) (y := xs.dropLast) hi
  obtain ⟨p, vs, ew, ef, g, hh, al, l⟩ := rw_
  subst ew ef
  refine ⟨_, hw, .inl ⟨rfl, vs, .inl (.inl hh)⟩, ?_⟩
  unfold R.pop at f
  cases e : xs[xs.length - 1]? with
  | none => rw [e] at f; exact False.elim f
  | some y =>
    rw [e] at f
    obtain ⟨v, ev, r⟩ := al.get e
    refine ⟨p, vs, v, rfl, rfl, hh, by rw [← al.1]; exact ev, ?_⟩
    have a3 := chg (W.mt p (.lst vs.dropLast) g) [p] (Inc.refl _) (fun b _ hb _ => hb) (fun b hb n => mut_keep g b hb n) ⟨p, _, rfl, rfl, g, upd_same, al.dropLast, by rw [List.length_dropLast]; omega⟩ (fun b hb => .inl hb)
    exact hk y _ D _ _ (a3.setF r) f
end
end Fw

namespace Fw
open PySem PySem.Spec PyProof.Rows L2
/-! ### sets of ints -/
section
variable {P : Program} {w : World} {A : Around} {E : Value → Shared → Prop} {s : Shared}
end
section
variable {X : Cx} {a : Expr} {ta : TE} {p p2 q pos : Pos}
end
section
variable {K : Frag}
end
end Fw

namespace Fw
open PySem L2
/-! ### great ints shifted -/
section
variable {K : Frag}
instance : DecidableRel CShl := fun i j => inferInstanceAs (Decidable (_ ∧ _))
end
end Fw

namespace Fw
open PySem L2
/-! ### a pair whose parts are one's own -/
section
variable {α β : Type}
def ownP [Ob α] [Ob β] (K : Frag) (x : α × β) (v : V) (f : List Addr) (W : Wd) : Prop := ∃ p va vb fa fb, v = .ref p ∧ W.G p = some (.tup [va, vb]) ∧ f = fa ++ fb ∧ Ob.own K x.1 va fa W ∧ Ob.own K x.2 vb fb W ∧ ∀ a ∈ fa, a ∉ fb
theorem ownP_keep [Ob α] [Ob β] {K : Frag} {x : α × β} {v : V} {f : List Addr} {W W' : Wd} : ownP K x v f W → Inc W.G W'.G → (∀ a ∈ f, W'.G a = none) → (∀ a ∈ f, W'.H a = W.H a) → ownP K x v f W' := fun ⟨p, va, vb, fa, fb, e, hp, ef, o1, o2, d⟩ s n k => by
  subst ef
  exact ⟨p, va, vb, fa, fb, e, s _ _ hp, rfl, Ob.keep o1 s (fun a ha => n a (List.mem_append.mpr (.inl ha))) (fun a ha => k a (List.mem_append.mpr (.inl ha))), Ob.keep o2 s (fun a ha => n a (List.mem_append.mpr (.inr ha))) (fun a ha => k a (List.mem_append.mpr (.inr ha))), d⟩
theorem ownP_foot [Ob α] [Ob β] {K : Frag} {x : α × β} {v : V} {f : List Addr} {W : Wd} : ownP K x v f W → ∀ a ∈ f, W.G a = none ∧ W.H a ≠ none := fun ⟨p, va, vb, fa, fb, e, hp, ef, o1, o2, d⟩ a ha => by
  subst ef
  rcases List.mem_append.mp ha with z | z
  · exact Ob.foot o1 a z
  · exact Ob.foot o2 a z
theorem fz_more [Rp α] {K : Frag} {x : α} {v : V} {W : Wd} {f g : List Addr} (h : Rp.rep K x v (W.fz f).G) (hs : ∀ a ∈ f, a ∈ g) : Rp.rep K x v (W.fz g).G := Rp.mono (fun a o e => by
  by_cases q : a ∈ f
  · rw [Wd.fz_in q] at e; rw [Wd.fz_in (hs a q)]; exact e
  · rw [Wd.fz_ni q] at e
    by_cases q2 : a ∈ g
    · rw [Wd.fz_in q2]; exact W.sub _ _ e
    · rw [Wd.fz_ni q2]; exact e) h
instance [Fz α] [Fz β] : Fz (α × β) where
  own := ownP
  keep := ownP_keep
  foot := ownP_foot
  fz := fun {K x v f W} ⟨p, va, vb, fa, fb, e, hp, ef, o1, o2, d⟩ => by
    subst ef
    exact ⟨p, va, vb, e, .inl (.inl (Wd.fz_sub _ _ hp)), fz_more (Fz.fz o1) fun a ha => List.mem_append.mpr (.inl ha), fz_more (Fz.fz o2) fun a ha => List.mem_append.mpr (.inr ha)⟩
section
variable {c : Cn} {W0 : Wd} {As : List Sl} {K : Frag}
end
section
variable {J S ρ : Type} {c : Cn} {X : WX} {kr : ρ → Kd} {Ls : List Sl} {Js : J → List Sl} {B : Bd} {As : List Sl} {Bs : S → List Sl} {W0 : Wd}
end
end
end Fw

namespace Fw
open PySem L2
/-! ### xs.insert(i, e) -/
@[irreducible] def R.ins {α : Type} (xs : List α) (i : Int) (y : α) : R (List α) := if xs.length < sizeLine ∧ 0 ≤ i ∧ i < 2 ^ 63 then .ok (xs.take i.toNat ++ [y] ++ xs.drop i.toNat) else .no
section
variable {J S ρ α : Type} {c : Cn} {X : WX} {kr : ρ → Kd} {Ls : List Sl} {Js : J → List Sl} {B : Bd} {As : List Sl} {Bs : S → List Sl}
end
end Fw

namespace Fw
open PySem L2
/-! ### a pair of a text and what is one's own -/
instance : Fz Str where
  own := fun _ x v f _ => v = .str x ∧ SOk x ∧ f = []
  keep := fun h _ _ _ => h
  foot := fun ⟨_, _, e⟩ a ha => by subst e; cases ha
  fz := fun ⟨e, s, _⟩ => ⟨e, s⟩
section
variable {α β : Type}
variable {J S ρ : Type} {c : Cn} {X : WX} {kr : ρ → Kd} {Ls : List Sl} {Js : J → List Sl} {B : Bd} {As : List Sl} {Bs : S → List Sl} {W0 : Wd}
end
/-! ### isinstance of one of two kinds -/
section
variable {K : Frag} {α β : Type}
end
end Fw

namespace Fw
open PySem L2
section
variable {α β : Type}
variable {c : Cn} {X : WX} {As : List Sl} {W0 : Wd}
/-! ### list(range(n)) -/
theorem r_lstRg {te : TE} {m : R Int} (h : Exr c W0 X te As m fun x => kFr c.K x) : Exr c W0 X (tLstRg (tRg1 te)) As (m.bind fun n => R.rng 0 n) fun x : List Int => kNw c.K x := fun σ W a => by
  have h' := h σ W a
  cases m with
  | no => trivial
  | ex e => exact fun W1 e1 Q q => h' W1 e1 _ q
  | ok n =>
    show SatR (R.rng 0 n) _ _
    unfold R.rng
    split
    · rename_i z
      refine fun W1 e1 Q q => h' W1 e1 _ fun v W2 e2 r => ⟨n, (show v = .int n from r), ⟨by omega, by omega, by omega, by omega, by omega⟩, fun b hb => ?_⟩
      refine q _ (W2.no b _ hb) (e2.trans (Le.no hb)) ⟨[b], ⟨b, _, rfl, rfl, W2.sub.nope hb, upd_same, (al_rg (K := c.K) n).imp fun _ _ r => r, ?_⟩, fun d hd => by rw [List.mem_singleton.mp hd]; exact e2.fr hb⟩
      show (rng 0 n).length ≤ sizeLine
      rw [rng_len, sizeLine_eq]
      omega
    · trivial
/-! ### [a new list for x in xs if t], as a list of one's own lists -/
theorem DRows.up [Rp β] {K : Frag} {W W' : Wd} {xs : List (List β)} {qs : List Addr} (h : DRows K xs qs W) (e : Le W W') : DRows K xs qs W' := h.keep e.g (fun b hb => e.o b (h.foot b hb).1 (h.foot b hb).2) fun b hb => by
  cases z : W.H b with
  | none => exact absurd z (h.foot b hb).2
  | some o => exact e.h _ _ z
end
section
variable {α β : Type}
variable {J S ρ : Type} {c : Cn} {X : WX} {kr : ρ → Kd} {Ls : List Sl} {Js : J → List Sl} {B : Bd} {As : List Sl} {Bs : S → List Sl} {W0 : Wd}
end
end Fw

namespace Fw
open PySem L2
section
variable {α β : Type}
variable {J S ρ : Type} {c : Cn} {X : WX} {kr : ρ → Kd} {Ls : List Sl} {Js : J → List Sl} {B : Bd} {As : List Sl} {Bs : S → List Sl} {W0 : Wd}
end
end Fw

namespace Fw
open PySem L2
/-! ### a dict frozen but not locked -/
structure Dq (κ α : Type) where
  l : List (κ × α)
deriving DecidableEq
section
variable {κ α : Type} [DecidableEq κ] [Rp κ] [DKy κ] [Rp α]
def repQ (K : Frag) (x : Dq κ α) (v : V) (G : Hp) : Prop := ∃ p q, v = .ref p ∧ G p = some (DKy.ho q) ∧ DR K x.l q G ∧ x.l.length ≤ sizeLine
instance : Rp (Dq κ α) := ⟨repQ, fun s ⟨p, q, e, h, a, l⟩ => ⟨p, q, e, s _ _ h, a.mono s, l⟩⟩
instance : Fz (Dq κ α) where
  own := fun K x v f W => Ob.own K (Dk.mk x.l : Dk κ α) v f W
  keep := fun h s n k => Ob.keep h s n k
  foot := fun h => Ob.foot h
  fz := fun {K x v f W} ⟨p, q, e, ef, g, h, d, l⟩ => by
    subst ef
    exact ⟨p, q, e, (Wd.fz_in (by simp)).trans h, d.mono Wd.fz_sub, l⟩
variable {c : Cn} {W0 : Wd} {X : WX} {As : List Sl}
theorem e_nwQ {te : TE} {x : Dk κ α} (h : Exp c W0 te As (kNw c.K x)) : Exp c W0 te As (kNw c.K (Dq.mk x.l : Dq κ α)) := exp_w h fun _ _ _ p => p
theorem e_qs {te : TE} {x : Dq κ α} (h : Exp c W0 te As (kFr c.K x)) : Exp c W0 te As (kDs c.K (Dk.mk x.l : Dk κ α)) := exp_w h fun _ _ W ⟨p, q, e, h, d, l⟩ => ⟨p, q, e, .inl (W.sub _ _ h), d, l⟩
theorem r_qs {te : TE} {m : R (Dq κ α)} (h : Exr c W0 X te As m fun x => kFr c.K x) : Exr c W0 X te As (m.bind fun x => .ok (Dk.mk x.l)) fun x : Dk κ α => kDs c.K x := fun σ W a => by
  have h' := h σ W a
  cases m with
  | no => trivial
  | ex e => exact h'
  | ok x => exact fun W1 e Q q => h' W1 e Q fun v W2 e2 ⟨p, u, ev, hp, d, l⟩ => q v W2 e2 ⟨p, u, ev, .inl (W2.sub _ _ hp), d, l⟩
end
/-! ### dict(d), list(d.items()), keys texts -/
section
variable {α : Type} [Rp α] {K : Frag}
variable {c : Cn} {W0 : Wd} {X : WX} {As : List Sl}
end
end Fw

namespace Fw
open PySem L2
/-! ### a dict of one's own lists, keys texts -/
structure DG (α : Type) where
  l : List (Str × List α)
deriving DecidableEq
section
variable {α : Type} [Rp α]
def ownG (K : Frag) (x : DG α) (v : V) (f : List Addr) (W : Wd) : Prop := ∃ (p : Addr) (q : List (Str × V)) (qs : List Addr), v = .ref p ∧ f = p :: qs ∧ (p :: qs).Nodup ∧ W.G p = none ∧ W.H p = some (.dK (q.map fun e => (kS e.1, e.2))) ∧ q.map (·.1) = x.l.map (·.1) ∧ q.map (·.2) = qs.map V.ref ∧ (x.l.map (·.1)).Nodup ∧ DRows K (x.l.map (·.2)) qs W ∧ x.l.length ≤ sizeLine
instance : Rp (DG α) := ⟨fun K x v G => Rp.rep K (Dq.mk x.l : Dq Str (List α)) v G, fun s h => Rp.mono s h⟩
theorem dr_of {K : Frag} {β : Type} [Rp β] {G : Hp} : ∀ {x : List (Str × β)} {q : List (Str × V)}, q.map (·.1) = x.map (·.1) → Al (fun x v => Rp.rep K x v G) (x.map (·.2)) (q.map (·.2)) → DR K x q G
  | [], [], _, _ => trivial
  | p :: x, e :: q, h, a => by
    rw [List.map_cons, List.map_cons] at h
    injection h with h1 h2
    refine ⟨h1.symm, a.2 0 p.2 e.2 rfl rfl, dr_of h2 ⟨by have := a.1; simpa using this, fun i y w h1 h2 => a.2 (i + 1) y w h1 h2⟩⟩
  | [], _ :: _, h, _ => by simp at h
  | _ :: _, [], h, _ => by simp at h
instance : Fz (DG α) where
  own := ownG
  keep := fun {K x v f W W'} ⟨p, q, qs, e, ef, nd, g, h, k1, k2, kn, r, l⟩ s n k => by
    subst ef
    exact ⟨p, q, qs, e, rfl, nd, n p (by simp), (k p (by simp)).trans h, k1, k2, kn, r.keep s (fun b hb => n b (List.mem_cons_of_mem _ hb)) fun b hb => k b (List.mem_cons_of_mem _ hb), l⟩
  foot := fun {K x v f W} ⟨p, q, qs, e, ef, nd, g, h, k1, k2, kn, r, l⟩ b hb => by
    subst ef
    rcases List.mem_cons.mp hb with z | hb
    · subst z
      exact ⟨g, by rw [h]; exact fun z => nomatch z⟩
    · exact r.foot b hb
  fz := fun {K x v f W} ⟨p, q, qs, e, ef, nd, g, h, k1, k2, kn, r, l⟩ => by
    subst ef
    refine ⟨p, q, e, (Wd.fz_in (by simp)).trans h, dr_of k1 ?_, l⟩
    rw [k2]
    exact r.rep Wd.fz_sub fun q hq => Wd.fz_in (List.mem_cons_of_mem _ hq)
variable {c : Cn} {W0 : Wd} {X : WX} {As : List Sl}
end
section
variable {α : Type} [Rp α] {J S ρ : Type} {c : Cn} {X : WX} {kr : ρ → Kd} {Ls : List Sl} {Js : J → List Sl} {B : Bd} {As : List Sl} {Bs : S → List Sl} {W0 : Wd}
end
end Fw

namespace Fw
open PySem L2
/-! ### list(xs) within a comprehension -/
end Fw

namespace Fw
open PySem L2
/-! ### what is owned, looked at as frozen: whatever has no owned thing in it may come out, exceptions too -/
theorem Tk.sqt {K : Frag} {G G' : Hp} {p : Addr} {xs : List V} (t : Tk G G') (h : SqT K G p xs) : SqT K G' p xs := by
  rcases h with (h | ⟨o, h⟩) | h
  · exact .inl (.inl (t p _ rfl h))
  · exact .inl (.inr ⟨o, t p _ rfl h⟩)
  · exact .inr h
/-- values that have no changing thing in them -/
class Uf (α : Type) [Rp α] where
  uf : ∀ {K : Frag} {x : α} {v : V} {G G' : Hp}, Tk G G' → Rp.rep K x v G → Rp.rep K x v G'
instance : Uf Int := ⟨fun _ h => h⟩
instance : Uf Bool := ⟨fun _ h => h⟩
instance : Uf Str := ⟨fun _ h => h⟩
instance : Uf Unit := ⟨fun _ h => h⟩
section
variable {α β γ δ : Type} [Rp α] [Rp β] [Rp γ] [Rp δ] [Uf α] [Uf β] [Uf γ] [Uf δ]
instance : Uf (α × β) := ⟨fun t ⟨p, a, b, e, h, r1, r2⟩ => ⟨p, a, b, e, t.sqt h, Uf.uf t r1, Uf.uf t r2⟩⟩
instance : Uf (T3 α β γ) := ⟨fun t ⟨p, a, b, c, e, h, r1, r2, r3⟩ => ⟨p, a, b, c, e, t.sqt h, Uf.uf t r1, Uf.uf t r2, Uf.uf t r3⟩⟩
instance : Uf (T4 α β γ δ) := ⟨fun t ⟨p, a, b, c, d, e, h, r1, r2, r3, r4⟩ => ⟨p, a, b, c, d, e, t.sqt h, Uf.uf t r1, Uf.uf t r2, Uf.uf t r3, Uf.uf t r4⟩⟩
instance : Uf (Tup α) := ⟨fun t ⟨p, vs, e, h, a, l⟩ => ⟨p, vs, e, t.sqt h, a.imp fun _ _ r => Uf.uf t r, l⟩⟩
instance : Uf (Option α) := ⟨fun {K x v G G'} t h => by
  cases x with
  | none => exact h
  | some y => exact ⟨h.1, Uf.uf t h.2⟩⟩
instance : Uf (α ⊕ β) := ⟨fun {K x v G G'} t h => by
  cases x with
  | inl y => exact Uf.uf (α := α) t h
  | inr y => exact Uf.uf (α := β) t h⟩
end
instance : Uf TK := ⟨fun t ⟨p, e, h, l⟩ => ⟨p, e, t p _ rfl h, l⟩⟩
/-- new things whose parts have no changing thing in them -/
class UfO (α : Type) [Ob α] where
  uf : ∀ {K : Frag} {x : α} {v : V} {f : List Addr} {W W' : Wd}, Tk W.G W'.G → (∀ a ∈ f, W'.G a = none) → W'.H = W.H → Ob.own K x v f W → Ob.own K x v f W'
section
variable {κ α : Type} [DecidableEq κ] [Rp κ] [DKy κ] [Rp α]
theorem al_uf [Uf α] {K : Frag} {G G' : Hp} (t : Tk G G') {xs : List α} {vs : List V} (h : Al (fun x v => Rp.rep K x v G) xs vs) : Al (fun x v => Rp.rep K x v G') xs vs := h.imp fun _ _ r => Uf.uf t r
theorem DR.uf [Uf α] {K : Frag} {G G' : Hp} (t : Tk G G') : ∀ {x : List (κ × α)} {q : List (κ × V)}, DR K x q G → DR K x q G'
  | [], [], h => h
  | _ :: _, _ :: _, h => ⟨h.1, Uf.uf t h.2.1, DR.uf t h.2.2⟩
  | [], _ :: _, h => h.elim
  | _ :: _, [], h => h.elim
instance [Uf α] : UfO (List α) := ⟨fun {K x v f W W'} t n k ⟨p, vs, e, ef, g, h, a, l⟩ => by
  subst ef
  exact ⟨p, vs, e, rfl, n p (by simp), by rw [k]; exact h, al_uf t a, l⟩⟩
instance [Uf α] : UfO (Dk κ α) := ⟨fun {K x v f W W'} t n k ⟨p, q, e, ef, g, h, d, l⟩ => by
  subst ef
  exact ⟨p, q, e, rfl, n p (by simp), by rw [k]; exact h, d.uf t, l⟩⟩
theorem DRows.uf [Uf α] {K : Frag} {W W' : Wd} (t : Tk W.G W'.G) (k : W'.H = W.H) : ∀ {xs : List (List α)} {qs : List Addr}, (∀ q ∈ qs, W'.G q = none) → DRows K xs qs W → DRows K xs qs W'
  | [], [], _, _ => trivial
  | x :: xs, q :: qs, n, h => by
    obtain ⟨g, vs, hh, al, l⟩ := h.1
    exact ⟨⟨n q (by simp), vs, by rw [k]; exact hh, al_uf t al, l⟩, DRows.uf t k (fun b hb => n b (List.mem_cons_of_mem _ hb)) h.2⟩
  | [], _ :: _, _, h => h.elim
  | _ :: _, [], _, h => h.elim
instance [Uf α] : UfO (DL α) := ⟨fun {K x v f W W'} t n k ⟨p, qs, e, ef, nd, g, h, r, l⟩ => by
  subst ef
  exact ⟨p, qs, e, rfl, nd, n p (by simp), by rw [k]; exact h, r.uf t k fun q hq => n q (List.mem_cons_of_mem _ hq), l⟩⟩
end
section
variable {α β : Type}
instance [Fz α] [Fz β] [UfO α] [UfO β] : UfO (α × β) := ⟨fun {K x v f W W'} t n k ⟨p, va, vb, fa, fb, e, hp, ef, o1, o2, d⟩ => by
  subst ef
  exact ⟨p, va, vb, fa, fb, e, t p _ rfl hp, rfl, UfO.uf t (fun a ha => n a (List.mem_append.mpr (.inl ha))) k o1, UfO.uf t (fun a ha => n a (List.mem_append.mpr (.inr ha))) k o2, d⟩⟩
end
/-! the view -/
inductive FvW : List Sl → List Sl → Prop
  | nil : FvW [] []
  | un {As Bs : List Sl} : FvW As Bs → FvW (.un :: As) (.un :: Bs)
  | fr {α : Type} [Rp α] {x : α} {As Bs : List Sl} : FvW As Bs → FvW (.fr x :: As) (.fr x :: Bs)
  | ow {α : Type} [Fz α] {pin : Option V} {x : α} {As Bs : List Sl} : FvW As Bs → FvW (.ow pin x :: As) (.fr x :: Bs)
  | no {α : Type} [Ob α] {pin : Option V} {x : α} {As Bs : List Sl} : FvW As Bs → FvW (.ow pin x :: As) (.un :: Bs)
theorem FvW.len {As Bs : List Sl} (h : FvW As Bs) : As.length = Bs.length := by
  induction h with
  | nil => rfl
  | _ _ ih => exact congrArg (· + 1) ih
theorem FvW.at {K : Frag} {W : Wd} {As Bs : List Sl} (h : FvW As Bs) : ∀ {σ : St}, (∀ (i : Nat) A o, As[i]? = some A → σ[i]? = some o → ∃ f, Hd K A o W f) → ∀ (i : Nat) B o, Bs[i]? = some B → σ[i]? = some o → Hd K B o (.all W.H) [] := by
  induction h with
  | nil => intro σ _ i B o e; simp at e
  | @un As Bs _ ih =>
    intro σ hh i B o e1 e2
    cases σ with
    | nil => simp at e2
    | cons s σ =>
      cases i with
      | zero => cases e1; trivial
      | succ i => exact ih (σ := σ) (fun j A o a b => hh (j + 1) A o a b) i B o e1 e2
  | @fr α _ x As Bs _ ih =>
    intro σ hh i B o e1 e2
    cases σ with
    | nil => simp at e2
    | cons s σ =>
      cases i with
      | zero =>
        cases e1
        obtain ⟨f, v, e, r⟩ := hh 0 _ o rfl e2
        exact ⟨v, e, Rp.mono W.sub r⟩
      | succ i => exact ih (σ := σ) (fun j A o a b => hh (j + 1) A o a b) i B o e1 e2
  | @ow α _ pin x As Bs _ ih =>
    intro σ hh i B o e1 e2
    cases σ with
    | nil => simp at e2
    | cons s σ =>
      cases i with
      | zero =>
        cases e1
        obtain ⟨f, v, e, r, _⟩ := hh 0 _ o rfl e2
        exact ⟨v, e, own_bw (A := W) r⟩
      | succ i => exact ih (σ := σ) (fun j A o a b => hh (j + 1) A o a b) i B o e1 e2
  | @no α _ pin x As Bs _ ih =>
    intro σ hh i B o e1 e2
    cases σ with
    | nil => simp at e2
    | cons s σ =>
      cases i with
      | zero => cases e1; trivial
      | succ i => exact ih (σ := σ) (fun j A o a b => hh (j + 1) A o a b) i B o e1 e2
theorem At.allfv {K : Frag} {W0 W : Wd} {As Bs : List Sl} {σ : St} (h : At K W0 As σ W) (z : FvW As Bs) : At K (.all W.H) Bs σ (.all W.H) := by
  obtain ⟨l, le, F, h1, h2, h3⟩ := h
  exact ⟨l.trans z.len, Le.refl _, fun _ => [], fun i B o a b => z.at (fun j A o a b => ⟨F j, h1 j A o a b⟩) i B o a b, fun i j a _ ha => (by cases ha), fun i a ha => (by cases ha)⟩
/-- kinds that may come out of the view -/
def KBk (k : Kd) : Prop := ∀ (W W3 : Wd) (e : Le (.all W.H) W3) v, k.p (.all W.H) v W3 → k.p W v (W.bk W3 e)
section
variable {c : Cn} {W0 : Wd} {X : WX} {As Bs : List Sl} {α ρ : Type}
theorem kbk_fr [Rp α] [Uf α] {K : Frag} {x : α} : KBk (kFr K x) := fun W W3 e v h => Uf.uf bk_tk h
theorem kbk_nw [Ob α] [UfO α] {K : Frag} {x : α} : KBk (kNw K x) := fun W W3 e v ⟨f, o, n⟩ => ⟨f, UfO.uf (W' := W.bk W3 e) bk_tk (fun a ha => by rw [bk_new (W := W) (show W.H a = none from n a ha)]; exact (Ob.foot o a ha).1) rfl o, n⟩
theorem exat_bk {M : Str → Value} {e : Exc} {cls : Value} {d : Option Addr} {W W3 : Wd} {l : Le (.all W.H) W3} (h : ExAt M e cls d W3) : ExAt M e cls d (W.bk W3 l) := by
  obtain ⟨h1, h2, h3⟩ := h
  refine ⟨h1, ?_, h3⟩
  revert h2
  unfold ExD
  split
  · exact id
  · exact fun ⟨a, e1, e2⟩ => ⟨a, e1, bk_tk a _ rfl e2⟩
theorem r_fv {te : TE} {m : R ρ} {k : ρ → Kd} (hk : ∀ x, KBk (k x)) (z : FvW As Bs) (h : ∀ W0', Exr c W0' X te Bs m k) : Exr c W0 X te As m k := fun σ W a => by
  have go : ∀ W1, Le W W1 → SatR m (fun x => Ev te σ (.all W1.H) (k x)) (Rz c X te σ (.all W1.H)) := fun W1 e => h _ σ _ ((a.mono e).allfv z)
  cases m with
  | no => trivial
  | ex e => exact fun W1 e1 Q q => (go W1 e1) (.all W1.H) (Le.refl _) Q fun cls d W3 e3 z => q cls d (W1.bk W3 e3) bk_le (exat_bk z)
  | ok x => exact fun W1 e1 Q q => (go W1 e1) (.all W1.H) (Le.refl _) Q fun v W3 e3 p => q v (W1.bk W3 e3) bk_le (hk x W1 W3 e3 v p)
theorem tr_fv {tt : TT} {m : R Bool} (z : FvW As Bs) (h : ∀ W0', Txr c W0' X tt Bs m) : Txr c W0 X tt As m := fun σ W a => by
  have go : ∀ W1, Le W W1 → SatR m (EvT tt σ (.all W1.H)) (RzT c X tt σ (.all W1.H)) := fun W1 e => h _ σ _ ((a.mono e).allfv z)
  cases m with
  | no => trivial
  | ex e => exact fun W1 e1 Q q => (go W1 e1) (.all W1.H) (Le.refl _) Q fun cls d W3 e3 z => q cls d (W1.bk W3 e3) bk_le (exat_bk z)
  | ok x => exact fun W1 e1 Q q => (go W1 e1) (.all W1.H) (Le.refl _) Q fun W3 e3 => q (W1.bk W3 e3) bk_le
end
end Fw

namespace Fw
open PySem L2
/-! ### tuples of ints and texts that are known to be just that: keys of dicts -/
class KA (α : Type) [Rp α] where
  key : α → L2.Key
  inj : ∀ a b, key a = key b → a = b
  ok : α → Prop
  rv : ∀ {K : Frag} {x : α} {v : V} {G : Hp}, Rp.rep K x v G → v = L2.kV (key x) ∧ ok x
  vr : ∀ {K : Frag} {x : α} {G : Hp}, ok x → Rp.rep K x (L2.kV (key x)) G
instance : KA Int := ⟨kI, kI_inj, fun _ => True, fun h => ⟨h, trivial⟩, fun _ => rfl⟩
instance : KA Str := ⟨kS, kS_inj, SOk, fun h => ⟨h.1, h.2⟩, fun h => ⟨rfl, h⟩⟩
class KT (α : Type) [Rp α] where
  ks : α → List L2.Key
  inj : ∀ a b, ks a = ks b → a = b
  ok : α → Prop
  rep : ∀ {K : Frag} {x : α} {p : Addr} {G : Hp}, G p = some (.tup ((ks x).map L2.kV)) → ok x → Rp.rep K x (.ref p) G
section
variable {α β γ δ : Type} [Rp α] [Rp β] [Rp γ] [Rp δ] [KA α] [KA β] [KA γ] [KA δ]
instance : KT (α × β) := ⟨fun x => [KA.key x.1, KA.key x.2], fun a b h => by
  injection h with h1 h2
  injection h2 with h2 _
  exact Prod.ext (KA.inj _ _ h1) (KA.inj _ _ h2), fun x => KA.ok x.1 ∧ KA.ok x.2, fun h o => ⟨_, _, _, rfl, .inl (.inl h), KA.vr o.1, KA.vr o.2⟩⟩
instance : KT (T4 α β γ δ) := ⟨fun x => [KA.key x.a, KA.key x.b, KA.key x.c, KA.key x.d], fun a b h => by
  injection h with h1 h2
  injection h2 with h2 h3
  injection h3 with h3 h4
  injection h4 with h4 _
  obtain ⟨a1, a2, a3, a4⟩ := a
  obtain ⟨b1, b2, b3, b4⟩ := b
  have q1 : a1 = b1 := KA.inj _ _ h1
  have q2 : a2 = b2 := KA.inj _ _ h2
  have q3 : a3 = b3 := KA.inj _ _ h3
  have q4 : a4 = b4 := KA.inj _ _ h4
  rw [q1, q2, q3, q4], fun x => KA.ok x.a ∧ KA.ok x.b ∧ KA.ok x.c ∧ KA.ok x.d, fun h o => ⟨_, _, _, _, _, rfl, .inl (.inl h), KA.vr o.1, KA.vr o.2.1, KA.vr o.2.2.1, KA.vr o.2.2.2⟩⟩
end
structure Ky (α : Type) where
  k : α
deriving DecidableEq
section
variable {α β γ δ : Type} [Rp α] [Rp β] [Rp γ] [Rp δ]
instance [KT α] : Rp (Ky α) := ⟨fun K x v G => ∃ p, v = .ref p ∧ G p = some (.tup ((KT.ks x.k).map L2.kV)) ∧ KT.ok x.k, fun s ⟨p, e, h, o⟩ => ⟨p, e, s _ _ h, o⟩⟩
instance [KT α] : Uf (Ky α) := ⟨fun t ⟨p, e, h, o⟩ => ⟨p, e, t p _ rfl h, o⟩⟩
theorem ky_rep [KT α] {K : Frag} {x : Ky α} {v : V} {G : Hp} (h : Rp.rep K x v G) : Rp.rep K x.k v G := by
  obtain ⟨p, e, h, o⟩ := h
  subst e
  exact KT.rep h o
def kyk [KT α] (x : Ky α) : List L2.Key := KT.ks x.k
theorem kyk_inj [KT α] : ∀ a b : Ky α, kyk a = kyk b → a = b := fun a b h => by
  obtain ⟨a⟩ := a
  obtain ⟨b⟩ := b
  exact congrArg Ky.mk (KT.inj a b h)
instance [KT α] [DecidableEq α] : DKy (Ky α) where
  ho kvs := .dT (kvs.map fun p => (kyk p.1, p.2))
  get := fun {K G H k y p kvs} ⟨b, r, hb, _⟩ s e => by
    subst r
    rw [← valV_inj kyk_inj k kvs]
    exact .inr ⟨_, kyk k, b, e, rfl, s _ _ hb, rfl⟩
  put := fun {K G H k y v p kvs} ⟨b, r, hb, _⟩ s e l => by
    subst r
    rw [← putK_inj kyk_inj k v kvs]
    exact DPut.t (k := kyk k) e (s _ _ hb) (by rw [List.length_map]; exact l)
  isD := fun e => .inr ⟨_, e⟩
  mu := fun _ => trivial
instance [KT α] [Pd α] : Pd (Ky α) := ⟨fun x => Pd.pd x.k, fun h => Pd.dp (ky_rep h), Pd.n α, fun h => Pd.dep (ky_rep h), fun h => Pd.lay (ky_rep h), fun x y => by
  rw [Pd.eq]
  exact ⟨fun h => by cases x; cases y; exact congrArg Ky.mk h, fun h => congrArg Ky.k h⟩⟩
instance [KT α] [Pd α] [AN α] : AN (Ky α) := ⟨fun a => AN.l a.k, fun a => AN.r a.k⟩
variable {c : Cn} {W0 : Wd} {X : WX} {As : List Sl} {K : Frag}
/-! displays -/
end
/-! ### list(d), d of such keys -/
section
variable {α β : Type} [Rp α] [KT α] [DecidableEq α] [Rp β] {K : Frag}
end
/-! ### orders -/
class Lt (α : Type) [Rp α] [Pd α] [DecidableEq α] where
  lt : α → α → Bool
  is : ∀ a b : α, PySem.W.dataLt (Pd.pd a) (Pd.pd b) = lt a b
  al : ∀ a b : α, PySem.W.alike (Pd.pd a) (Pd.pd b) = true
theorem dataLt_self' (d : PyData) : PySem.W.dataLt d d = false := PyProof.Rows.lex_irrefl _
instance : Lt Int := ⟨fun a b => decide (a < b), fun a b => PySem.W.dataLt_int a b, fun a b => by simp [Pd.pd, PySem.W.alike]⟩
instance : Lt Str := ⟨fun a b => decide (a.cps.toList < b.cps.toList), fun a b => PySem.W.dataLt_str a b, fun a b => by simp [Pd.pd, PySem.W.alike]⟩
section
variable {α β γ δ : Type} [Rp α] [Rp β] [Rp γ] [Rp δ] [Pd α] [Pd β] [Pd γ] [Pd δ] [DecidableEq α] [DecidableEq β] [DecidableEq γ] [DecidableEq δ] [Lt α] [Lt β] [Lt γ] [Lt δ]
theorem eqv_if {b : Bool} {x y : α} {t e : Bool} (h : b = PyData.eqv (Pd.pd x) (Pd.pd y)) : (if b = true then t else e) = if x = y then t else e := by
  subst h
  by_cases q : x = y
  · rw [if_pos q, if_pos ((Pd.eq x y).mpr q)]
  · rw [if_neg q, if_neg fun z => q ((Pd.eq x y).mp z)]
instance : Lt (α × β) := ⟨fun a b => if a.1 = b.1 then Lt.lt a.2 b.2 else Lt.lt a.1 b.1, fun a b => by
  show PySem.W.dataLt (.tuple [Pd.pd a.1, Pd.pd a.2]) (.tuple [Pd.pd b.1, Pd.pd b.2]) = _
  rw [PySem.W.dataLt_tuple, PySem.W.dataLt_cons (Lt.al _ _), eqv_if rfl, PySem.W.dataLt_cons (Lt.al _ _), eqv_if rfl, Lt.is, Lt.is]
  by_cases q : a.1 = b.1
  · rw [if_pos q, if_pos q]
    by_cases q2 : a.2 = b.2
    · rw [if_pos q2, q2, ← Lt.is, dataLt_self']; rfl
    · rw [if_neg q2]
  · rw [if_neg q, if_neg q], fun a b => by simp [Pd.pd, PySem.W.alike, PySem.W.alikeAll, Lt.al]⟩
instance : Lt (T4 α β γ δ) := ⟨fun a b => if a.a = b.a then (if a.b = b.b then (if a.c = b.c then Lt.lt a.d b.d else Lt.lt a.c b.c) else Lt.lt a.b b.b) else Lt.lt a.a b.a, fun a b => by
  show PySem.W.dataLt (.tuple [Pd.pd a.a, Pd.pd a.b, Pd.pd a.c, Pd.pd a.d]) (.tuple [Pd.pd b.a, Pd.pd b.b, Pd.pd b.c, Pd.pd b.d]) = _
  rw [PySem.W.dataLt_tuple, PySem.W.dataLt_cons (Lt.al _ _), eqv_if rfl, PySem.W.dataLt_cons (Lt.al _ _), eqv_if rfl, PySem.W.dataLt_cons (Lt.al _ _), eqv_if rfl, PySem.W.dataLt_cons (Lt.al _ _), eqv_if rfl, Lt.is, Lt.is, Lt.is, Lt.is]
  by_cases q2 : a.d = b.d
  · rw [if_pos q2, q2, ← Lt.is (Lt.lt (α := δ) b.d b.d |> fun _ => b.d) b.d, dataLt_self']; rfl
  · rw [if_neg q2], fun a b => by simp [Pd.pd, PySem.W.alike, PySem.W.alikeAll, Lt.al]⟩
instance [KT α] : Lt (Ky α) := ⟨fun a b => Lt.lt a.k b.k, fun a b => Lt.is (α := α) a.k b.k, fun a b => Lt.al (α := α) a.k b.k⟩
/-- what reads as its data -/
class Rdd (α : Type) [Rp α] [Pd α] where
  rd : ∀ {K : Frag} {G H : Hp} {x : α} {v : V}, Inc G H → Rp.rep K x v G → RdD K (Pd.pd x) v H
instance : Rdd Int := ⟨fun s h => by cases h; exact rd_int _⟩
instance : Rdd Str := ⟨fun s h => by
  cases h.1
  exact fun P w h u _ _ ⟨t, e⟩ => by rw [e]; exact .str _ t⟩
instance [Rdd α] [Rdd β] : Rdd (α × β) := ⟨fun s ⟨p, a, b, e, h, r1, r2⟩ => by
  subst e
  exact rd_tup (s.sqt h) (Al.cons (Rdd.rd s r1) (Al.one (Rdd.rd s r2)))⟩
instance [Rdd α] [Rdd β] [Rdd γ] [Rdd δ] : Rdd (T4 α β γ δ) := ⟨fun s ⟨p, a, b, c, d, e, h, r1, r2, r3, r4⟩ => by
  subst e
  exact rd_tup (s.sqt h) (Al.cons (Rdd.rd s r1) (Al.cons (Rdd.rd s r2) (Al.cons (Rdd.rd s r3) (Al.one (Rdd.rd s r4)))))⟩
instance [KT α] [Rdd α] : Rdd (Ky α) := ⟨fun {K G H x v} s h => Rdd.rd (α := α) (x := x.k) s (ky_rep h)⟩
end
/-! ### sorted(xs), xs tuples -/
section
open PySem.Spec PyProof.Rows PySem.Calls
variable {X : Cx} {k : Nat}
end
section
variable {α : Type} [Rp α] [Pd α] [DecidableEq α] [Lt α] [Rdd α] {K : Frag}
class TupD (α : Type) [Rp α] [Pd α] where
  tup : ∀ x : α, ∃ d r, Pd.pd x = .tuple (d :: r)
instance {α β : Type} [Rp α] [Rp β] [Pd α] [Pd β] : TupD (α × β) := ⟨fun x => ⟨_, _, rfl⟩⟩
instance {α β γ δ : Type} [Rp α] [Rp β] [Rp γ] [Rp δ] [Pd α] [Pd β] [Pd γ] [Pd δ] : TupD (T4 α β γ δ) := ⟨fun x => ⟨_, _, rfl⟩⟩
instance {α : Type} [Rp α] [KT α] [Pd α] [h : TupD α] : TupD (Ky α) := ⟨fun x => h.tup x.k⟩
end
end Fw

namespace Fw
open PySem L2
/-! ### the keys of a locked dict, tuples, walked -/
section
variable {c : Cn} {W0 : Wd} {X : WX} {As : List Sl} {α β : Type} [Rp α] [KT α] [DecidableEq α] [Rp β]
end
/-! ### instances of own classes -/
/-- a field that is frozen -/
structure Fr (α : Type) where
  x : α
deriving DecidableEq
instance {α : Type} [Rp α] : Rp (Fr α) := ⟨fun K x v G => Rp.rep K x.x v G, fun s h => Rp.mono s h⟩
instance {α : Type} [Rp α] : Fz (Fr α) where
  own := fun K x v f W => f = [] ∧ Rp.rep K x.x v W.G
  keep := fun ⟨e, r⟩ s _ _ => ⟨e, Rp.mono s r⟩
  foot := fun ⟨e, r⟩ a ha => by subst e; cases ha
  fz := fun {K x v f W} ⟨e, r⟩ => Rp.mono Wd.fz_sub r
/-- fields -/
class Fs (φ : Type) where
  names : List Str
  own : Frag → φ → List (Str × V) → List Addr → Wd → Prop
  rep : Frag → φ → List (Str × V) → Hp → Prop
  nm : ∀ {K : Frag} {x : φ} {fs : List (Str × V)} {f : List Addr} {W : Wd}, own K x fs f W → fs.map (·.1) = names
  rm : ∀ {K : Frag} {x : φ} {fs : List (Str × V)} {G : Hp}, rep K x fs G → fs.map (·.1) = names
  mono : ∀ {K : Frag} {x : φ} {fs : List (Str × V)} {G H : Hp}, Inc G H → rep K x fs G → rep K x fs H
  keep : ∀ {K : Frag} {x : φ} {fs : List (Str × V)} {f : List Addr} {W W' : Wd}, own K x fs f W → Inc W.G W'.G → (∀ a ∈ f, W'.G a = none) → (∀ a ∈ f, W'.H a = W.H a) → own K x fs f W'
  foot : ∀ {K : Frag} {x : φ} {fs : List (Str × V)} {f : List Addr} {W : Wd}, own K x fs f W → ∀ a ∈ f, W.G a = none ∧ W.H a ≠ none
  fz : ∀ {K : Frag} {x : φ} {fs : List (Str × V)} {f : List Addr} {W : Wd}, own K x fs f W → rep K x fs (W.fz f).G
/-- none -/
structure Fn where
deriving DecidableEq
instance : Fs Fn where
  names := []
  own := fun _ _ fs f _ => fs = [] ∧ f = []
  rep := fun _ _ fs _ => fs = []
  nm := fun ⟨e, _⟩ => by rw [e]; rfl
  rm := fun e => by rw [e]; rfl
  mono := fun _ h => h
  keep := fun h _ _ _ => h
  foot := fun ⟨_, e⟩ a ha => by subst e; cases ha
  fz := fun ⟨e, _⟩ => e
/-- one more -/
structure Fd (φ : Type) (n : Str) (α : Type) where
  r : φ
  x : α
section
variable {φ φ' α β γ : Type} {n m : Str}
instance [Fs φ] [Fz α] : Fs (Fd φ n α) where
  names := Fs.names φ ++ [n]
  own := fun K x fs f W => ∃ fs' v f1 f2, fs = fs' ++ [(n, v)] ∧ f = f1 ++ f2 ∧ Fs.own K x.r fs' f1 W ∧ Ob.own K x.x v f2 W ∧ ∀ a ∈ f1, a ∉ f2
  rep := fun K x fs G => ∃ fs' v, fs = fs' ++ [(n, v)] ∧ Fs.rep K x.r fs' G ∧ Rp.rep K x.x v G
  nm := fun ⟨fs', v, f1, f2, e, _, o, _⟩ => by rw [e, List.map_append, Fs.nm o]; rfl
  rm := fun ⟨fs', v, e, o, _⟩ => by rw [e, List.map_append, Fs.rm o]; rfl
  mono := fun s ⟨fs', v, e, r1, r2⟩ => ⟨fs', v, e, Fs.mono s r1, Rp.mono s r2⟩
  keep := fun {K x fs f W W'} ⟨fs', v, f1, f2, e, ef, o1, o2, d⟩ s n k => by
    subst ef
    exact ⟨fs', v, f1, f2, e, rfl, Fs.keep o1 s (fun a ha => n a (List.mem_append_left _ ha)) (fun a ha => k a (List.mem_append_left _ ha)), Ob.keep o2 s (fun a ha => n a (List.mem_append_right _ ha)) (fun a ha => k a (List.mem_append_right _ ha)), d⟩
  foot := fun {K x fs f W} ⟨fs', v, f1, f2, e, ef, o1, o2, d⟩ a ha => by
    subst ef
    rcases List.mem_append.mp ha with z | z
    · exact Fs.foot o1 a z
    · exact Ob.foot o2 a z
  fz := fun {K x fs f W} ⟨fs', v, f1, f2, e, ef, o1, o2, d⟩ => by
    subst ef
    refine ⟨fs', v, e, Fs.mono (fun a o h => ?_) (Fs.fz o1), fz_more (Fz.fz o2) fun a ha => List.mem_append_right _ ha⟩
    by_cases q : a ∈ f1
    · rw [Wd.fz_in q] at h; rw [Wd.fz_in (List.mem_append_left _ q)]; exact h
    · rw [Wd.fz_ni q] at h
      by_cases q2 : a ∈ f1 ++ f2
      · rw [Wd.fz_in q2]; exact W.sub _ _ h
      · rw [Wd.fz_ni q2]; exact h
theorem fs_up [Fs φ] {K : Frag} {x : φ} {fs : List (Str × V)} {f : List Addr} {W W' : Wd} (h : Fs.own K x fs f W) (e : Le W W') : Fs.own K x fs f W' :=
  Fs.keep h e.g (fun a ha => e.o a (Fs.foot h a ha).1 (Fs.foot h a ha).2) fun a ha => by
    cases q : W.H a with
    | none => exact absurd q (Fs.foot h a ha).2
    | some u => exact e.h a u q
theorem lookup_app {fs : List (Str × V)} {n : Str} {v : V} {m : Str} (h : m ∉ fs.map (·.1)) : (fs ++ [(n, v)]).lookup m = if m = n then some v else none := by
  induction fs with
  | nil =>
    show List.lookup m [(n, v)] = _
    rw [List.lookup_cons]
    by_cases q : m = n
    · subst q; simp
    · rw [if_neg q, beq_false_of_ne q]; rfl
  | cons p fs ih =>
    obtain ⟨a, b⟩ := p
    rw [List.map_cons, List.mem_cons, not_or] at h
    show List.lookup m ((a, b) :: (fs ++ [(n, v)])) = _
    rw [List.lookup_cons, beq_false_of_ne h.1]
    exact ih h.2
theorem lookup_app_in {fs : List (Str × V)} {n : Str} {v : V} {m : Str} {w : V} (h : fs.lookup m = some w) : (fs ++ [(n, v)]).lookup m = some w := by
  induction fs with
  | nil => cases h
  | cons p fs ih =>
    obtain ⟨a, b⟩ := p
    rw [List.lookup_cons] at h
    show List.lookup m ((a, b) :: (fs ++ [(n, v)])) = _
    rw [List.lookup_cons]
    cases q : m == a with
    | true => rw [q] at h; exact h
    | false => rw [q] at h; exact ih h
theorem lookup_none {fs : List (Str × V)} {m : Str} (h : m ∉ fs.map (·.1)) : fs.lookup m = none := by
  induction fs with
  | nil => rfl
  | cons p fs ih =>
    obtain ⟨a, b⟩ := p
    rw [List.map_cons, List.mem_cons, not_or] at h
    rw [List.lookup_cons, beq_false_of_ne h.1]
    exact ih h.2
theorem putF_new {fs : List (Str × V)} {n : Str} {v : V} (h : n ∉ fs.map (·.1)) : putF n v fs = fs ++ [(n, v)] := by
  induction fs with
  | nil => rfl
  | cons p fs ih =>
    obtain ⟨a, b⟩ := p
    rw [List.map_cons, List.mem_cons, not_or] at h
    unfold putF
    rw [if_neg (Ne.symm h.1), ih h.2]
    rfl
/-- a field among others, perhaps exchanged by one of another kind -/
structure Sel (φ φ' : Type) [Fs φ] [Fs φ'] (n : Str) (α β : Type) [Fz α] [Fz β] where
  get : φ → α
  set : φ → β → φ'
  rep : ∀ {K : Frag} {x : φ} {fs : List (Str × V)} {G : Hp}, Fs.rep K x fs G → ∃ v, fs.lookup n = some v ∧ Rp.rep K (get x) v G
  chg : ∀ {K : Frag} {x : φ} {fs : List (Str × V)} {f : List Addr} {W : Wd}, Fs.own K x fs f W → ∃ v f1, fs.lookup n = some v ∧ Ob.own K (get x) v f1 W ∧ (∀ a ∈ f1, a ∈ f) ∧
    (∀ (W' : Wd) (y : β) f1', Inc W.G W'.G → (∀ a ∈ f, a ∉ f1 → W'.G a = none ∧ W'.H a = W.H a) → Ob.own K y v f1' W' → (∀ a ∈ f1', a ∈ f1 ∨ W.H a = none) → ∃ f', Fs.own K (set x y) fs f' W' ∧ ∀ a ∈ f', a ∈ f ∨ W.H a = none) ∧
    ∀ (W' : Wd) f1', Inc W.G W'.G → (∀ a ∈ f, a ∉ f1 → W'.G a = none ∧ W'.H a = W.H a) → Ob.own K (get x) v f1' W' → (∀ a ∈ f1', a ∈ f1 ∨ W.H a = none) → ∃ f', Fs.own K x fs f' W' ∧ ∀ a ∈ f', a ∈ f ∨ W.H a = none
def Sel.here [Fs φ] [Fz α] [Fz β] (hn : n ∉ Fs.names φ) : Sel (Fd φ n α) (Fd φ n β) n α β where
  get := fun x => x.x
  set := fun x y => ⟨x.r, y⟩
  rep := fun {K x fs G} ⟨fs', v, e, r1, r2⟩ => ⟨v, by
    rw [e, lookup_app (by rw [Fs.rm r1]; exact hn), if_pos rfl], r2⟩
  chg := fun {K x fs f W} ⟨fs', v, f1, f2, e, ef, o1, o2, d⟩ => by
    subst ef
    have go : ∀ {δ : Type} [Fz δ] (W' : Wd) (y : δ) f2', Inc W.G W'.G → (∀ a ∈ f1 ++ f2, a ∉ f2 → W'.G a = none ∧ W'.H a = W.H a) → Ob.own K y v f2' W' → (∀ a ∈ f2', a ∈ f2 ∨ W.H a = none) → ∃ f', Fs.own K (Fd.mk x.r y : Fd φ n δ) fs f' W' ∧ ∀ a ∈ f', a ∈ f1 ++ f2 ∨ W.H a = none := fun {δ} _ W' y f2' s k o' hf => by
      have nk : ∀ a ∈ f1, a ∉ f2' := fun a ha hb => by
        rcases hf a hb with z | z
        · exact d a ha z
        · exact (Fs.foot o1 a ha).2 z
      refine ⟨f1 ++ f2', ⟨fs', v, f1, f2', e, rfl, Fs.keep o1 s (fun a ha => (k a (List.mem_append_left _ ha) (d a ha)).1) (fun a ha => (k a (List.mem_append_left _ ha) (d a ha)).2), o', nk⟩, fun a ha => ?_⟩
      rcases List.mem_append.mp ha with z | z
      · exact .inl (List.mem_append_left _ z)
      · exact (hf a z).imp (List.mem_append_right _) id
    exact ⟨v, f2, by rw [e, lookup_app (by rw [Fs.nm o1]; exact hn), if_pos rfl], o2, fun a ha => List.mem_append_right _ ha, fun W' y f2' s k o' hf => go W' y f2' s k o' hf, fun W' f2' s k o' hf => go W' x.x f2' s k o' hf⟩
def Sel.up [Fs φ] [Fs φ'] [Fz α] [Fz β] [Fz γ] (s : Sel φ φ' n α β) : Sel (Fd φ m γ) (Fd φ' m γ) n α β where
  get := fun x => s.get x.r
  set := fun x y => ⟨s.set x.r y, x.x⟩
  rep := fun {K x fs G} ⟨fs', v, e, r1, r2⟩ => by
    obtain ⟨w, hw, r⟩ := s.rep r1
    exact ⟨w, by rw [e]; exact lookup_app_in hw, r⟩
  chg := fun {K x fs f W} ⟨fs', v, f1, f2, e, ef, o1, o2, d⟩ => by
    subst ef
    obtain ⟨w, g1, hw, ow, sg, k1, k0⟩ := s.chg o1
    have dg : ∀ a ∈ f2, a ∉ g1 := fun a ha hb => d a (sg a hb) ha
    have go : ∀ {ψ : Type} [Fs ψ] (z : ψ) (W' : Wd) (f1' : List Addr), Inc W.G W'.G → (∀ a ∈ f1 ++ f2, a ∉ g1 → W'.G a = none ∧ W'.H a = W.H a) → Fs.own K z fs' f1' W' → (∀ a ∈ f1', a ∈ f1 ∨ W.H a = none) → ∃ f', Fs.own K (Fd.mk z x.x : Fd ψ m γ) fs f' W' ∧ ∀ a ∈ f', a ∈ f1 ++ f2 ∨ W.H a = none := fun {ψ} _ z W' f1' si k of hf1 => by
      refine ⟨f1' ++ f2, ⟨fs', v, f1', f2, e, rfl, of, Ob.keep o2 si (fun a ha => (k a (List.mem_append_right _ ha) (dg a ha)).1) (fun a ha => (k a (List.mem_append_right _ ha) (dg a ha)).2), fun a ha hb => ?_⟩, fun a ha => ?_⟩
      · rcases hf1 a ha with z | z
        · exact d a z hb
        · exact (Ob.foot o2 a hb).2 z
      · rcases List.mem_append.mp ha with z | z
        · exact (hf1 a z).imp (List.mem_append_left _) id
        · exact .inl (List.mem_append_right _ z)
    refine ⟨w, g1, by rw [e]; exact lookup_app_in hw, ow, fun a ha => List.mem_append_left _ (sg a ha), fun W' y g1' si k o' hf => ?_, fun W' g1' si k o' hf => ?_⟩
    · obtain ⟨f1', of, hf1⟩ := k1 W' y g1' si (fun a ha hn => k a (List.mem_append_left _ ha) hn) o' hf
      exact go (s.set x.r y) W' f1' si k of hf1
    · obtain ⟨f1', of, hf1⟩ := k0 W' g1' si (fun a ha hn => k a (List.mem_append_left _ ha) hn) o' hf
      exact go x.r W' f1' si k of hf1
/-- an instance of the class named so -/
structure Ins (cls : Str) (φ : Type) where
  f : φ
variable {cls : Str}
instance [Fs φ] : Fz (Ins cls φ) where
  rep := fun K x v G => ∃ p C dx fs, v = .ref p ∧ G p = some (.ins C dx fs) ∧ PySem.W.nsIn K mainGlobals cls = some (some (.ref C)) ∧ Fs.rep K x.f fs G
  mono := fun s ⟨p, C, dx, fs, e, h, hc, r⟩ => ⟨p, C, dx, fs, e, s _ _ h, hc, Fs.mono s r⟩
  own := fun K x v f W => ∃ p C dx fs f1, v = .ref p ∧ f = p :: f1 ∧ p ∉ f1 ∧ W.G p = none ∧ W.H p = some (.ins C dx fs) ∧ PySem.W.nsIn K mainGlobals cls = some (some (.ref C)) ∧ Fs.own K x.f fs f1 W
  keep := fun {K x v f W W'} ⟨p, C, dx, fs, f1, e, ef, np, g, h, hc, o⟩ s n k => by
    subst ef
    exact ⟨p, C, dx, fs, f1, e, rfl, np, n p List.mem_cons_self, (k p List.mem_cons_self).trans h, hc, Fs.keep o s (fun a ha => n a (List.mem_cons_of_mem _ ha)) fun a ha => k a (List.mem_cons_of_mem _ ha)⟩
  foot := fun {K x v f W} ⟨p, C, dx, fs, f1, e, ef, np, g, h, hc, o⟩ a ha => by
    subst ef
    rcases List.mem_cons.mp ha with z | z
    · subst z; exact ⟨g, by rw [h]; exact fun z => nomatch z⟩
    · exact Fs.foot o a z
  fz := fun {K x v f W} ⟨p, C, dx, fs, f1, e, ef, np, g, h, hc, o⟩ => by
    subst ef
    refine ⟨p, C, dx, fs, e, (Wd.fz_in List.mem_cons_self).trans h, hc, Fs.mono (fun a u q => ?_) (Fs.fz o)⟩
    by_cases z : a ∈ f1
    · rw [Wd.fz_in z] at q; rw [Wd.fz_in (List.mem_cons_of_mem _ z)]; exact q
    · rw [Wd.fz_ni z] at q
      by_cases z2 : a ∈ p :: f1
      · rw [Wd.fz_in z2]; exact W.sub _ _ q
      · rw [Wd.fz_ni z2]; exact q
/-- what the text says of a class: its place, plain, none of the fields is one of its names -/
structure ClT (K : Frag) (cls : Str) (C : Addr) (ns : List Str) : Prop where
  at_ : PySem.W.nsIn K mainGlobals cls = some (some (.ref C))
  cl : Cls K C
  no : ∀ n ∈ ns, NoAttr K C n
theorem ClT.eq {K : Frag} {C C' : Addr} {ns : List Str} (h : ClT K cls C ns) (e : PySem.W.nsIn K mainGlobals cls = some (some (.ref C'))) : C' = C := by
  rw [h.at_] at e
  cases e; rfl
end
section
variable {φ φ' α β γ : Type} {n cls : Str} [Fs φ] [Fs φ'] {c : Cn} {W0 : Wd} {X : WX} {As : List Sl} {C : Addr} {ns : List Str}
/-- a field of a frozen instance -/
theorem e_fld [Fz α] [Fz β] {te : TE} {x : Ins cls φ} (s : Sel φ φ' n α β) (ct : ClT c.K cls C ns) (hn : n ∈ ns) (h : Exp c W0 te As (kFr c.K x)) : Exp c W0 (tFld c.K te n) As (kFr c.K (s.get x.f)) := fun σ W a W1 e Q q =>
  h σ W a W1 e _ fun v W2 e2 ⟨p, C', dx, fs, ev, hp, hc, r⟩ => by
    obtain rfl := ct.eq hc
    obtain ⟨w, hw, rw_⟩ := s.rep r
    exact ⟨p, _, dx, fs, w, ev, W2.sub _ _ hp, ct.cl, ct.no n hn, hw, q w W2 e2 rw_⟩
theorem e_frx [Rp α] {te : TE} {x : Fr α} (h : Exp c W0 te As (kFr c.K x)) : Exp c W0 te As (kFr c.K x.x) := exp_w h fun _ _ _ p => p
/-- a frozen field of one's own instance -/
theorem e_fldO [Rp α] [Fz β] {x : Ins cls φ} {pin : Option V} (s : Sel φ φ' n (Fr α) β) (ct : ClT c.K cls C ns) (hn : n ∈ ns) (i : Nat) (hi : As[i]? = some (.ow pin x)) : Exp c W0 (tFld c.K (tVar i) n) As (kFr c.K (s.get x.f).x) := fun σ W a W1 e Q q => by
  obtain ⟨v, f, hv, o, _⟩ := (a.mono e).varO hi
  obtain ⟨p, C', dx, fs, f1, ev, ef, np, g, hp, hc, of⟩ := o
  obtain rfl := ct.eq hc
  obtain ⟨w, g1, hw, ⟨_, r⟩, _⟩ := s.chg of
  exact ⟨v, hv, p, _, dx, fs, w, ev, hp, ct.cl, ct.no n hn, hw, q w W1 (Le.refl _) r⟩
end
section
variable {φ φ' α β κ : Type} {n cls : Str} [Fs φ] [Fs φ'] {J S ρ : Type} {c : Cn} {X : WX} {kr : ρ → Kd} {Ls : List Sl} {Js : J → List Sl} {B : Bd} {As : List Sl} {Bs : S → List Sl} {C : Addr} {ns : List Str}
theorem set_same.{u} {α : Type u} {l : List α} {i : Nat} {x : α} (h : l[i]? = some x) : l.set i x = l := by
  refine List.ext_getElem? fun j => ?_
  rw [List.getElem?_set]
  by_cases q : i = j
  · subst q
    rw [if_pos rfl, h, if_pos (List.getElem?_eq_some_iff.mp h).1]
  · rw [if_neg q]
/-- the owned thing of slot i changes, to a thing of any kind -/
theorem At.chgG {K : Frag} {W0 W : Wd} {As : List Sl} {σ : St} {i : Nat} {α : Type} [Ob α] {x : α} {pin : Option V} (h : At K W0 As σ W) (hi : As[i]? = some (.ow pin x)) :
    ∃ v f, σ[i]? = some (some v) ∧ Ob.own K x v f W ∧ (∀ a ∈ f, W0.H a = none) ∧ ∀ (β : Type) (_ : Ob β) (y : β) (W' : Wd) (f' : List Addr), Inc W.G W'.G → (∀ a, a ∉ f → W.G a = none → W.H a ≠ none → W'.G a = none) → (∀ a, a ∉ f → W.H a ≠ none → W'.H a = W.H a) →
      Ob.own K y v f' W' → (∀ a ∈ f', a ∈ f ∨ W.H a = none) → At K W0 (As.set i (.ow pin y)) σ W' := by
  obtain ⟨l, le, F, h1, h2, h3⟩ := h
  have hl : i < σ.length := l ▸ (List.getElem?_eq_some_iff.mp hi).1
  obtain ⟨v, e, r, pn⟩ := h1 i _ _ hi (List.getElem?_eq_getElem hl)
  refine ⟨v, F i, by rw [List.getElem?_eq_getElem hl, e], r, fun a ha => (h3 i a ha).2.2, fun β _ y W' f' sg so sh r' hf => ?_⟩
  have z0 : ∀ a ∈ f', W0.H a = none := fun a ha => by
    rcases hf a ha with q | q
    · exact (h3 i a q).2.2
    · exact le.h.nope q
  have lw : Le W0 W' := ⟨le.g.trans sg, fun a o q => by
    have n0 : W0.H a ≠ none := by rw [q]; exact fun z => nomatch z
    have w := le.h a o q
    rw [sh a (fun ha => n0 ((h3 i a ha).2.2)) (by rw [w]; exact fun z => nomatch z)]
    exact w, fun a g n => so a (fun ha => n ((h3 i a ha).2.2)) (le.o a g n) (fun q => n (le.h.nope q))⟩
  refine ⟨by simp [l], lw, fun j => if j = i then f' else F j, fun j B p a b => ?_, fun j k a n ha hb => ?_, fun j a ha => ?_⟩
  · by_cases q : i = j
    · subst q
      rw [get_set_eq a]
      rw [List.getElem?_eq_getElem hl, e] at b
      cases b
      simp only [if_true]
      exact ⟨v, rfl, r', pn⟩
    · rw [get_set_ne q] at a
      dsimp only
      rw [if_neg (Ne.symm q)]
      have hd := h1 j B p a b
      cases B with
      | un => trivial
      | fr x => obtain ⟨v, e1, r⟩ := hd; exact ⟨v, e1, Rp.mono sg r⟩
      | ow x =>
        obtain ⟨v, e1, r, pn⟩ := hd
        exact ⟨v, e1, Ob.keep r sg (fun a ha => so a (fun z => h2 j i a (Ne.symm q) ha z) (h3 j a ha).1 (h3 j a ha).2.1) fun a ha => sh a (fun z => h2 j i a (Ne.symm q) ha z) (h3 j a ha).2.1, pn⟩
  · dsimp only at ha hb
    split at ha
    · split at hb
      · rename_i c d; exact n (c.trans d.symm)
      · rename_i c d
        rcases hf a ha with q | q
        · exact h2 i k a (Ne.symm d) q hb
        · exact (h3 k a hb).2.1 q
    · split at hb
      · rename_i c d
        rcases hf a hb with q | q
        · exact h2 j i a c ha q
        · exact (h3 j a ha).2.1 q
      · exact h2 j k a n ha hb
  · dsimp only at ha
    split at ha
    · exact ⟨(Ob.foot r' a ha).1, (Ob.foot r' a ha).2, z0 a ha⟩
    · rename_i c
      obtain ⟨g, n, z⟩ := h3 j a ha
      refine ⟨so a (fun q => h2 j i a c ha q) g n, ?_, z⟩
      rw [sh a (fun q => h2 j i a c ha q) n]
      exact n
/-- the part of one's own instance that a field is, changed in place -/
theorem At.fld [Fz α] [Fz β] {W0 W : Wd} {σ : St} {x : Ins cls φ} {pin : Option V} {i : Nat} {K : Frag} (s : Sel φ φ' n α β) (ct : ClT K cls C ns) (h : At K W0 As σ W) (hi : As[i]? = some (.ow pin x)) :
    ∃ p dx fs w g1, σ[i]? = some (some (.ref p)) ∧ W.H p = some (.ins C dx fs) ∧ fs.lookup n = some w ∧ Ob.own K (s.get x.f) w g1 W ∧ W.G p = none ∧ p ∉ g1 ∧
      (∀ (W' : Wd) (y : β) g1', LeX W g1 W' → Ob.own K y w g1' W' → (∀ a ∈ g1', a ∈ g1 ∨ W.H a = none) → At K W0 (As.set i (.ow pin (Ins.mk (s.set x.f y) : Ins cls φ'))) σ W') ∧
      ∀ (W' : Wd) g1', LeX W g1 W' → Ob.own K (s.get x.f) w g1' W' → (∀ a ∈ g1', a ∈ g1 ∨ W.H a = none) → At K W0 As σ W' := by
  obtain ⟨v, f, hv, o, n0, chg⟩ := h.chgG hi
  obtain ⟨p, C', dx, fs, f1, ev, ef, np, g, hp, hc, of⟩ := o
  obtain rfl := ct.eq hc
  subst ev ef
  obtain ⟨w, g1, hw, ow, sg, k1, k0⟩ := s.chg of
  have pg1 : p ∉ g1 := fun z => np (sg p z)
  have hpn : W.H p ≠ none := by rw [hp]; exact fun z => nomatch z
  have go : ∀ {ψ : Type} [Fs ψ] (z : ψ) (W' : Wd) (f' : List Addr), LeX W g1 W' → Fs.own K z fs f' W' → (∀ a ∈ f', a ∈ f1 ∨ W.H a = none) → At K W0 (As.set i (.ow pin (Ins.mk z : Ins cls ψ))) σ W' := fun {ψ} _ z W' f' lx of' hf' => by
    have pf' : p ∉ f' := fun z => by
      rcases hf' p z with q | q
      · exact np q
      · exact hpn q
    refine chg (Ins cls ψ) _ _ W' (p :: f') lx.g (fun a ha g n => lx.o a (fun z => ha (List.mem_cons_of_mem _ (sg a z))) g n) (fun a ha n => lx.h a (fun z => ha (List.mem_cons_of_mem _ (sg a z))) n) ?_ fun a ha => ?_
    · exact ⟨p, _, dx, fs, f', rfl, rfl, pf', lx.o p pg1 g hpn, (lx.h p pg1 hpn).trans hp, hc, of'⟩
    · rcases List.mem_cons.mp ha with z | z
      · exact .inl (by rw [z]; exact List.mem_cons_self)
      · exact (hf' a z).imp (List.mem_cons_of_mem _) id
  refine ⟨p, dx, fs, w, g1, hv, hp, hw, ow, g, pg1, fun W' y g1' lx o' hf => ?_, fun W' g1' lx o' hf => ?_⟩
  · obtain ⟨f', of', hf'⟩ := k1 W' y g1' lx.g (fun a ha hn => ⟨lx.o a hn (Fs.foot of a ha).1 (Fs.foot of a ha).2, lx.h a hn (Fs.foot of a ha).2⟩) o' hf
    exact go _ W' f' lx of' hf'
  · obtain ⟨f', of', hf'⟩ := k0 W' g1' lx.g (fun a ha hn => ⟨lx.o a hn (Fs.foot of a ha).1 (Fs.foot of a ha).2, lx.h a hn (Fs.foot of a ha).2⟩) o' hf
    have := go x.f W' f' lx of' hf'
    have e2 : As.set i (.ow pin (Ins.mk x.f : Ins cls φ)) = As := set_same hi
    rwa [e2] at this
end
end Fw

namespace Fw
open PySem L2
/-! ### places: parts of one's own things, changed where they stand -/
theorem lx_of {A W W' : Wd} {f : List Addr} (e : Le A W) (lx : LeX W f W') : LeX A f W' := ⟨e.g.trans lx.g, fun a n g m => lx.o a n (e.o a g m) (fun z => m (e.h.nope z)), fun a n m => by
  rw [lx.h a n (fun z => m (e.h.nope z))]
  cases q : A.H a with
  | none => exact absurd q m
  | some o => exact e.h a o q⟩
theorem lx_mono {W W' : Wd} {f g : List Addr} (h : ∀ a ∈ f, a ∈ g) (lx : LeX W f W') : LeX W g W' := ⟨lx.g, fun a n => lx.o a (fun z => n (h a z)), fun a n => lx.h a (fun z => n (h a z))⟩
theorem lx_mt {W : Wd} {p : Addr} {o : HO} {g : W.G p = none} {hi : imm o = false} : LeX W [p] (W.mt p o g hi) := ⟨Inc.refl _, fun a _ h _ => h, fun a n _ => upd_ne (fun z => n (List.mem_singleton.mpr z))⟩
/-- td tells the place of a thing x; changed to y there, the slots are up y -/
def Plc (c : Cn) (W0 : Wd) (td : TE) (As : List Sl) {α β : Type} [Ob α] [Ob β] (x : α) (up : β → List Sl) : Prop := ∀ σ W, At c.K W0 As σ W → ∃ v f,
  (∀ W1, Le W W1 → ∀ Q : VK, (∀ W2, Le W1 W2 → Q v W2.H) → td σ W1.H Q) ∧ Ob.own c.K x v f W ∧ (∀ W1, Le W W1 → ∀ (W' : Wd) (y : β) (f' : List Addr), LeX W1 f W' → Ob.own c.K y v f' W' → (∀ a ∈ f', a ∈ f ∨ W1.H a = none) → At c.K W0 (up y) σ W') ∧
  ∀ W1, Le W W1 → ∀ (W' : Wd) (f' : List Addr), LeX W1 f W' → Ob.own c.K x v f' W' → (∀ a ∈ f', a ∈ f ∨ W1.H a = none) → At c.K W0 As σ W'
section
variable {α β γ κ : Type} {c : Cn} {W0 : Wd} {X : WX} {As : List Sl}
theorem plc_var [Ob α] [Ob β] {x : α} {pin : Option V} (i : Nat) (hi : As[i]? = some (.ow pin x)) : Plc c W0 (tVar i) As x (fun y : β => As.set i (.ow pin y)) := fun σ W a => by
  obtain ⟨v, f, hv, o, n0, chg⟩ := a.chgG hi
  refine ⟨v, f, fun W1 e Q q => ⟨v, hv, q W1 (Le.refl _)⟩, o, fun W1 e W' y f' lx o' hf => ?_, fun W1 e W' f' lx o' hf => ?_⟩
  · have lx' := lx_of e lx
    exact chg β _ y W' f' lx'.g lx'.o lx'.h o' fun b hb => (hf b hb).imp id fun z => e.h.nope z
  · have lx' := lx_of e lx
    have := chg α _ x W' f' lx'.g lx'.o lx'.h o' fun b hb => (hf b hb).imp id fun z => e.h.nope z
    rwa [set_same hi] at this
variable {φ φ' : Type} {n cls : Str} [Fs φ] [Fs φ'] {C : Addr} {ns : List Str}
theorem plc_fld [Fz α] [Fz β] {x : Ins cls φ} {pin : Option V} (s : Sel φ φ' n α β) (ct : ClT c.K cls C ns) (hn : n ∈ ns) (i : Nat) (hi : As[i]? = some (.ow pin x)) : Plc c W0 (tFld c.K (tVar i) n) As (s.get x.f) (fun y : β => As.set i (.ow pin (Ins.mk (s.set x.f y) : Ins cls φ'))) := fun σ W a => by
  obtain ⟨p, dx, fs, w, g1, hv, hp, hw, ow, g, np, k, k0⟩ := a.fld s ct hi
  refine ⟨w, g1, fun W1 e Q q => ⟨_, hv, p, C, dx, fs, w, rfl, e.h _ _ hp, ct.cl, ct.no n hn, hw, q W1 (Le.refl _)⟩, ow, fun W1 e W' y f' lx o' hf => k W' y f' (lx_of e lx) o' fun b hb => (hf b hb).imp id fun z => e.h.nope z, fun W1 e W' f' lx o' hf => k0 W' f' (lx_of e lx) o' fun b hb => (hf b hb).imp id fun z => e.h.nope z⟩
end
/-! ### changes -/
section
variable {α β γ κ τ : Type} {J S ρ : Type} {c : Cn} {X : WX} {kr : ρ → Kd} {Ls : List Sl} {Js : J → List Sl} {B : Bd} {As : List Sl} {Bs : S → List Sl}
variable [DecidableEq κ] [Rp κ] [DKy κ]
/-- P[k] = e -/
theorem d_dputP [Rp α] {td te ti : TE} {u : TS} {xs : Dq κ α} {up : Dq κ α → List Sl} {m : R α} {n : R κ} {k : Dq κ α → Out S J ρ} (pl : Plc c B.W0 td As xs up) (lx : Lx Ls As) (h : Exr c B.W0 X te As m fun x => kFr c.K x) (hn : Exr c B.W0 X ti As n fun x => kFr c.K x)
    (hk : ∀ ys : Dq κ α, Den c X kr Ls Js B u (up ys) (k ys) Bs) :
    Den c X kr Ls Js B (tSeq (sDPut td ti te) u) As (m.to fun y => n.to fun j => (R.dput (Dk.mk xs.l) j y).to fun z => k (Dq.mk z.l)) Bs := fun D σ W a f => by
  have h' := h σ W a
  have hn' := hn σ W a
  obtain ⟨v, fp, ev, o, chg, _⟩ := pl σ W a
  obtain ⟨p, q, ep, ef, g, hh, d, l⟩ := o
  subst ep ef
  cases m with
  | no => exact False.elim f
  | ex e => exact h' W (Le.refl _) _ fun cls d W2 e2 z => f cls d σ W2 (lx_at lx (a.mono e2)) z
  | ok y =>
    refine h' W (Le.refl _) _ fun w W0 e0 r0 => ev W0 e0 _ fun W1 e01 => ?_
    have e1 := e0.trans e01
    have r : Rp.rep c.K y w W1.G := Rp.mono e01.g r0
    cases n with
    | no => exact False.elim f
    | ex e => exact hn' W1 e1 _ fun cls d W2 e2 z => f cls d σ W2 (lx_at lx (a.mono (e1.trans e2))) z
    | ok j =>
      refine hn' W1 e1 _ fun jv W2 e2 rj => ?_
      have e12 := e1.trans e2
      have f' : Fin c X kr Ls Js B Bs D (R.to (if xs.l.length < sizeLine then R.ok (Dk.mk (Fw.dput xs.l j y)) else .no) fun z => k (Dq.mk z.l)) := by
        have f2 : Fin c X kr Ls Js B Bs D ((R.dput (Dk.mk xs.l) j y).to fun z => k (Dq.mk z.l)) := f
        unfold R.dput at f2
        exact f2
      by_cases cz : xs.l.length < sizeLine
      · rw [if_pos cz] at f'
        have hh2 := e12.h _ _ hh
        have g2 : W2.G p = none := e12.o p g (by rw [hh]; exact fun z => nomatch z)
        refine ⟨p, _, rfl, DKy.put (v := w) rj W2.sub hh2 (by rw [← d.len]; exact cz), ?_⟩
        exact hk _ D _ _ (chg W2 e12 (W2.mt p (DKy.ho (putK q j w)) g2 (ho_mut _)) ⟨Fw.dput xs.l j y⟩ [p] lx_mt ⟨p, _, rfl, rfl, g2, upd_same, (d.mono e12.g).put (Rp.mono e2.g r), Nat.le_trans (dput_len _ _ _) cz⟩ fun b hb => .inl hb) f'
      · rw [if_neg cz] at f'
        exact False.elim f'
/-- o.n = e, a new field -/
theorem d_fnew {φ : Type} {n cls : Str} [Fs φ] {C : Addr} {ns : List Str} [Fz α] {te : TE} {u : TS} {x : Ins cls φ} {pin : Option V} {m : R α} {k : Ins cls (Fd φ n α) → Out S J ρ} (ct : ClT c.K cls C ns) (hn : n ∈ ns) (hf : n ∉ Fs.names φ) (hl : (Fs.names φ).length < 1000) (i : Nat) (hi : As[i]? = some (.ow pin x)) (lx : Lx Ls As)
    (h : Exr c B.W0 X te As m fun y => kNw c.K y) (hk : ∀ y : Ins cls (Fd φ n α), Den c X kr Ls Js B u (As.set i (.ow pin y)) (k y) Bs) :
    Den c X kr Ls Js B (tSeq (sFld c.K (tVar i) te n) u) As (m.to fun y => lt (Ins.mk (Fd.mk x.f y)) k) Bs := fun D σ W a f => by
  have h' := h σ W a
  obtain ⟨v, fp, hv, o, n0, chg⟩ := a.chgG hi
  obtain ⟨p, C', dx, fs, f1, ev, ef, np, g, hp, hc, of⟩ := o
  obtain rfl := ct.eq hc
  subst ev ef
  cases m with
  | no => exact False.elim f
  | ex e => exact h' W (Le.refl _) _ fun cls d W2 e2 z => f cls d σ W2 (lx_at lx (a.mono e2)) z
  | ok y =>
    refine h' W (Le.refl _) _ fun w W2 e2 ⟨f2, o2, n2⟩ => ⟨_, hv, p, _, dx, fs, rfl, e2.h _ _ hp, ct.cl, ct.no n hn, ?_, ?_⟩
    · have := congrArg List.length (Fs.nm of)
      rw [List.length_map] at this
      omega
    · have hm : n ∉ fs.map (·.1) := by rw [Fs.nm of]; exact hf
      have g2 : W2.G p = none := e2.o p g (by rw [hp]; exact fun z => nomatch z)
      have pf2 : p ∉ f2 := fun z => by
        have := n2 p z
        rw [hp] at this; cases this
      rw [putF_new hm]
      have lx2 : LeX W (p :: f1) (W2.mt p (.ins C' dx (fs ++ [(n, w)])) g2) := lx_of e2 (lx_mono (f := [p]) (fun b hb => by rw [List.mem_singleton.mp hb]; exact List.mem_cons_self) lx_mt)
      have keep : ∀ b, b ≠ p → (W2.mt p (.ins C' dx (fs ++ [(n, w)])) g2).H b = W2.H b := fun b hb => upd_ne hb
      have of2 := fs_up of e2
      refine hk ⟨⟨x.f, y⟩⟩ D σ _ (chg (Ins cls (Fd φ n α)) _ ⟨⟨x.f, y⟩⟩ _ (p :: (f1 ++ f2)) lx2.g lx2.o lx2.h ⟨p, C', dx, _, f1 ++ f2, rfl, rfl, fun z => (List.mem_append.mp z).elim np pf2, g2, upd_same, hc, fs, w, f1, f2, rfl, rfl,
        Fs.keep of2 (Inc.refl _) (fun b hb => (Fs.foot of2 b hb).1) (fun b hb => keep b fun z => np (z ▸ hb)), Ob.keep o2 (Inc.refl _) (fun b hb => (Ob.foot o2 b hb).1) (fun b hb => keep b fun z => pf2 (z ▸ hb)), fun b hb hb2 => (Fs.foot of b hb).2 (n2 b hb2)⟩ fun b hb => ?_) f
      rcases List.mem_cons.mp hb with z | z
      · exact .inl (by rw [z]; exact List.mem_cons_self)
      · rcases List.mem_append.mp z with z | z
        · exact .inl (List.mem_cons_of_mem _ z)
        · exact .inr (n2 b z)
end
section
variable {α : Type} {c : Cn} {W0 : Wd} {X : WX} {As : List Sl}
theorem e_nwFr [Rp α] {te : TE} {x : α} (h : Exp c W0 te As (kFr c.K x)) : Exp c W0 te As (kNw c.K (Fr.mk x)) := exp_w h fun _ _ _ p => ⟨[], ⟨rfl, p⟩, fun a ha => by cases ha⟩
end
end Fw

namespace Fw
open PySem L2
/-! ### d.setdefault(k, x), keys of any kind -/
section
open PySem.Spec PyProof.Rows
variable {X : Cx} {pins : List (Addr × Obj)} {σ : L2.St} {H : Hp} {s : Shared} {a : Addr} {y d : V} {u r : Value} {o : Option V} {A : Around} {E : Value → Shared → Prop}
variable {o e f : Expr} {td ty tx : TE} {apos cpos : Pos}
end
/-! ### a dict of one's own lists, keys of any kind -/
structure DGk (κ α : Type) where
  l : List (κ × List α)
deriving DecidableEq
section
variable {κ α : Type} [DecidableEq κ] [Rp κ] [DKy κ] [Rp α]
theorem dk_of' {K : Frag} {β : Type} [Rp β] {G : Hp} : ∀ {x : List (κ × β)} {q : List (κ × V)}, q.map (·.1) = x.map (·.1) → Al (fun x v => Rp.rep K x v G) (x.map (·.2)) (q.map (·.2)) → DR K x q G
  | [], [], _, _ => trivial
  | p :: x, e :: q, h, a => by
    rw [List.map_cons, List.map_cons] at h
    injection h with h1 h2
    exact ⟨h1.symm, a.2 0 p.2 e.2 rfl rfl, dk_of' h2 ⟨by have := a.1; simpa using this, fun i y w h1 h2 => a.2 (i + 1) y w h1 h2⟩⟩
  | [], _ :: _, h, _ => by simp at h
  | _ :: _, [], h, _ => by simp at h
instance : Rp (DGk κ α) := ⟨fun K x v G => Rp.rep K (Dq.mk x.l : Dq κ (List α)) v G, fun s h => Rp.mono s h⟩
def ownK (K : Frag) (x : DGk κ α) (v : V) (f : List Addr) (W : Wd) : Prop := ∃ (p : Addr) (q : List (κ × V)) (qs : List Addr), v = .ref p ∧ f = p :: qs ∧ (p :: qs).Nodup ∧ W.G p = none ∧ W.H p = some (DKy.ho q) ∧ q.map (·.1) = x.l.map (·.1) ∧ q.map (·.2) = qs.map V.ref ∧ (x.l.map (·.1)).Nodup ∧ DRows K (x.l.map (·.2)) qs W ∧ x.l.length ≤ sizeLine
theorem ho_ne (q : List (κ × V)) : some (DKy.ho q) ≠ none := fun z => nomatch z
instance : Fz (DGk κ α) where
  own := ownK
  keep := fun {K x v f W W'} ⟨p, q, qs, e, ef, nd, g, h, k1, k2, kn, r, l⟩ s n k => by
    subst ef
    exact ⟨p, q, qs, e, rfl, nd, n p (by simp), (k p (by simp)).trans h, k1, k2, kn, r.keep s (fun b hb => n b (List.mem_cons_of_mem _ hb)) fun b hb => k b (List.mem_cons_of_mem _ hb), l⟩
  foot := fun {K x v f W} ⟨p, q, qs, e, ef, nd, g, h, k1, k2, kn, r, l⟩ b hb => by
    subst ef
    rcases List.mem_cons.mp hb with z | hb
    · subst z
      exact ⟨g, by rw [h]; exact ho_ne q⟩
    · exact r.foot b hb
  fz := fun {K x v f W} ⟨p, q, qs, e, ef, nd, g, h, k1, k2, kn, r, l⟩ => by
    subst ef
    refine ⟨p, q, e, (Wd.fz_in (by simp)).trans h, dk_of' k1 ?_, l⟩
    rw [k2]
    exact r.rep Wd.fz_sub fun q hq => Wd.fz_in (List.mem_cons_of_mem _ hq)
variable {c : Cn} {W0 : Wd} {X : WX} {As : List Sl}
theorem e_gkq {te : TE} {x : DGk κ α} (h : Exp c W0 te As (kFr c.K x)) : Exp c W0 te As (kFr c.K (Dq.mk x.l : Dq κ (List α))) := exp_w h fun _ _ _ p => p
theorem e_gknew {te : TE} (ht : te = fun _ H Q => ∀ p, H p = none → Q (.ref p) (upd H p (DKy.ho ([] : List (κ × V))))) : Exp c W0 te As (kNw c.K (DGk.mk ([] : List (κ × List α)))) := fun σ W a W1 e Q q => by
  subst ht
  exact fun p hp => q _ (W1.no p _ hp (ho_mut _)) (Le.no hp) ⟨[p], ⟨p, [], [], rfl, rfl, by simp, W1.sub.nope hp, upd_same, rfl, rfl, List.nodup_nil, trivial, Nat.zero_le _⟩, fun a ha => by rw [List.mem_singleton.mp ha]; exact hp⟩
theorem k_find {k : κ} : ∀ {q : List (κ × V)} {xl : List (κ × List α)} {qs : List Addr}, q.map (·.1) = xl.map (·.1) → q.map (·.2) = qs.map V.ref → ∀ {v}, valV q k = some v → ∃ (j : Nat) (a : Addr) (r : List α), qs[j]? = some a ∧ v = .ref a ∧ xl[j]? = some (k, r) ∧ dval xl k = some r
  | [], _, _, _, _, v, h => by cases h
  | e :: q, p :: xl, a :: qs, h1, h2, v, h => by
    rw [List.map_cons, List.map_cons] at h1 h2
    injection h1 with e1 h1
    injection h2 with e2 h2
    by_cases z : e.1 = k
    · rw [valV_pos z] at h
      refine ⟨0, a, p.2, rfl, ?_, ?_, ?_⟩
      · rw [← Option.some.inj h, e2]
      · rw [← z, e1]; rfl
      · unfold dval
        rw [if_pos (e1.symm.trans z)]
    · rw [valV_neg z] at h
      obtain ⟨j, b, r, g1, g2, g3, g4⟩ := k_find h1 h2 h
      refine ⟨j + 1, b, r, g1, g2, g3, ?_⟩
      unfold dval
      rw [if_neg (fun w => z (e1.trans w))]
      exact g4
  | e :: q, [], _, h1, _, _, _ => by simp at h1
  | e :: q, _ :: _, [], _, h2, _, _ => by simp at h2
theorem k_none {k : κ} : ∀ {q : List (κ × V)} {xl : List (κ × List α)}, q.map (·.1) = xl.map (·.1) → valV q k = none → dval xl k = none ∧ k ∉ xl.map (·.1)
  | [], [], _, _ => ⟨rfl, by simp⟩
  | e :: q, p :: xl, h1, h => by
    rw [List.map_cons, List.map_cons] at h1
    injection h1 with e1 h1
    by_cases z : e.1 = k
    · rw [valV_pos z] at h; cases h
    · rw [valV_neg z] at h
      obtain ⟨g1, g2⟩ := k_none h1 h
      refine ⟨?_, ?_⟩
      · unfold dval
        rw [if_neg (fun w => z (e1.trans w))]
        exact g1
      · rw [List.map_cons, List.mem_cons]
        rintro (w | w)
        · exact z (e1.trans w.symm)
        · exact g2 w
  | [], _ :: _, h, _ => by simp at h
  | _ :: _, [], h, _ => by simp at h
variable {J S ρ : Type} {kr : ρ → Kd} {Ls : List Sl} {Js : J → List Sl} {B : Bd} {Bs : S → List Sl}
end
end Fw

namespace Fw
open PySem L2
/-! ### methods -/
/-- o.m(..), what is raised wished for at the caller's slots -/
def tMethD (C : Addr) (m : Str) (sp : Sp) (E : St → XK) (ta : TE) (t : TA) : TE := fun σ H Q => ta σ H fun x H1 => ∃ a dx fs, x = .ref a ∧ H1 a = some (.ins C dx fs) ∧ fs.lookup m = none ∧ t σ H1 fun vs H2 => sp (x :: vs) H2 Q (E σ)
/-- C(..) -/
def tMakeD (C : Addr) (sp : Sp) (E : St → XK) (t : TA) : TE := fun σ H Q => t σ H fun vs H1 => ∀ x dx, H1 x = none → H1 dx = none → dx ≠ x → sp (.ref x :: vs) (upd (upd H1 dx (.own x)) x (.ins C dx [])) (fun v H2 => v = .non ∧ Q (.ref x) H2) (E σ)
section
open PySem.Spec PyProof.Rows
variable {X : Cx} {CX : CXT} {k : Nat} {f C : Addr} {fd : FuncData} {ps : List Str} {sp : Sp} {E : L2.St → XK} {x m : Str} {p pos apos : Pos} {e o : Expr} {es : List Expr} {ta : TE} {t : TA}
theorem pe_methD {pl : Sem Bool} (F : FnOk X.prog X.w X.K X.mg X.base CX k f fd ps sp) (hr : Room k X.A) (he : PE X o ta) (cl : Cls X.K C) (hm : Meth X.K C m f) (hb : Binds X.K fd ps []) (hx : ∀ σ, PassesAt CX X σ (E σ)) (ha : PA X (e :: es) t)
    (hst : starEach (e :: es) X.env = (false, eval e X.env) :: starEach es X.env := by rfl) (hpl : (backTo pos (starEach es X.env)).any (·.1) = false := by rfl)
    (ht : eval (.Call (.Attribute o m apos) (e :: es) [] pos) X.env = (do let ov ← eval o X.env; standAt apos.atName; let (f, first) ← holding [ov] (getMethod ov m pl); callWith pos f first (backTo pos (starEach (e :: es) X.env)) (backToKw pos (keywordEach [] X.env))) := by rfl) :
    PE X (.Call (.Attribute o m apos) (e :: es) [] pos) (tMethD C m sp E ta t) := by
  refine ⟨fun pins s σ H Q I h => PySem.W.methodCall_KW (pl := pl) (thn (he.run pins s σ H _ I h) fun u s1 ⟨x, H1, I1, rx, a, dx, fs, ex, ea, l, q⟩ => ?_) ht⟩
  subst ex
  obtain rfl : u = Value.ref a := rx
  exact getmeth_ok I1 ea cl hm l (PySem.W.callWith_K (first := [.ref a]) (h₀ := X.base) I.ok.mod.kin hm.kp (thn (ha.run pos pins s1 σ H1 _ I1 q) fun us s2 ⟨vs, H2, I2, r, q2⟩ => ⟨I2.kIn, run_fnSD (dvs := []) (us := .ref a :: us) (vs := .ref a :: vs) F hr hb .nil (hx σ) I2 (.cons rfl r) (by rw [List.append_nil]; exact q2)⟩) hst hpl)
theorem pe_methD0 {pl : Sem Bool} (F : FnOk X.prog X.w X.K X.mg X.base CX k f fd ps sp) (hr : Room k X.A) (he : PE X o ta) (cl : Cls X.K C) (hm : Meth X.K C m f) (hb : Binds X.K fd ps []) (hx : ∀ σ, PassesAt CX X σ (E σ))
    (ht : eval (.Call (.Attribute o m apos) [] [] pos) X.env = (do let ov ← eval o X.env; standAt apos.atName; let (f, first) ← holding [ov] (getMethod ov m pl); callWith pos f first (backTo pos (starEach [] X.env)) (backToKw pos (keywordEach [] X.env))) := by rfl) :
    PE X (.Call (.Attribute o m apos) [] [] pos) (tMethD C m sp E ta tNil) := by
  refine ⟨fun pins s σ H Q I h => PySem.W.methodCall_KW (pl := pl) (thn (he.run pins s σ H _ I h) fun u s1 ⟨x, H1, I1, rx, a, dx, fs, ex, ea, l, q⟩ => ?_) ht⟩
  subst ex
  obtain rfl : u = Value.ref a := rx
  exact getmeth_ok I1 ea cl hm l (PySem.W.callWith_K0 (first := [.ref a]) I1.kIn hm.kp (run_fnSD (dvs := []) (us := [.ref a]) (vs := [.ref a]) F hr hb .nil (hx σ) I1 (.cons rfl .nil) q))
theorem run_mkD {pins : List (Addr × Obj)} {σ : L2.St} {H : Hp} {s : Shared} {Q : VK} {us : List Value} {vs : List V} (M : Mk X.K C f) (F : FnOk X.prog X.w X.K X.mg X.base CX k f fd ps sp) (hr : Room (k + 1) X.A) (hb : Binds X.K fd ps []) (hx : PassesAt CX X σ (E σ)) (I : Inv X pins σ H s) (r : Vals vs us)
    (hxn : ∀ (e : Value) (s1 s' : Shared) (H1 : Hp), Inv X pins σ H1 s1 → CX X.stack H1 s1 (E σ) e s' → X.xe e s')
    (h : ∀ x dx, H x = none → H dx = none → dx ≠ x → sp (.ref x :: vs) (upd (upd H dx (.own x)) x (.ins C dx [])) (fun v H2 => v = .non ∧ Q (.ref x) H2) (E σ)) : wpAny (model X.prog X.w) X.A (call (.ref C) us) (EP X pins σ Q) X.xe s := by
  have hq := h (s.heap.objs.size + 1) s.heap.objs.size (I.hok.fresh (Nat.le_succ _)) (I.hok.fresh (Nat.le_refl _)) (Nat.ne_of_lt (Nat.lt_succ_self _))
  have J := Inv.made (C := C) I
  have r2 : Vals (V.ref (s.heap.objs.size + 1) :: vs) (Value.ref (s.heap.objs.size + 1) :: us) := .cons rfl r
  have hl : (Value.ref (s.heap.objs.size + 1) :: us).length = ps.length := by have := F.len _ _ _ _ hq; rw [r2.length] at this; exact this
  have hbb := hb _ (Value.ref (s.heap.objs.size + 1) :: us) J.kIn (by rw [List.append_nil]; exact hl)
  rw [List.append_nil] at hbb
  refine wpAny_call (make_map (f := f) I.kIn M.makes M.init (beq_iff_eq.mp M.fn) (codeAny_mono (F.run _ X.stack _ _ ⟨_, []⟩ _ _ _ (E σ) (hr.make C us []) (J.env0.make C us []) hbb r2 hq) fun r s' hq' => ?_))
  match r, hq' with
  | .error e, z => exact hxn e _ s' _ J z
  | .ok (.ret u), z =>
    obtain ⟨v, H', I3, rv, ev, q3⟩ := J.after z
    subst ev
    exact ⟨rv, ⟨V.ref (s.heap.objs.size + 1), H', I3, rfl, q3⟩⟩
  | .ok .next, z => exact z.elim
  | .ok .brk, z => exact z.elim
  | .ok .cont, z => exact z.elim
theorem pe_makeD (M : Mk X.K C f) (F : FnOk X.prog X.w X.K X.mg X.base CX k f fd ps sp) (hr : Room (k + 1) X.A) (hg : Gl X x) (hm : X.mg x = some (.ref C)) (hb : Binds X.K fd ps []) (hx : ∀ σ, PassesAt CX X σ (E σ)) (ha : PA X (e :: es) t)
    (hdb : (x == ("__debug__" : Str)) = false := by decide) (he : starEach (e :: es) X.env = (false, eval e X.env) :: starEach es X.env := by rfl) (hpl : (backTo pos (starEach es X.env)).any (·.1) = false := by rfl) :
    PE X (.Call (.Name x p) (e :: es) [] pos) (tMakeD C sp E t) :=
  ⟨fun pins s σ H Q I h => wpAny_Call_Name_kw (ld_glob I hg hm (PySem.W.callWith_K (h₀ := X.base) I.ok.mod.kin M.kp (thn (ha.run pos pins s σ H _ I h) fun us s1 ⟨vs, H1, I1, r, q⟩ => ⟨I1.kIn, run_mkD (E := E) M F hr hb (hx σ) I1 r (hxn := fun e s1 s' H1 J z => hx σ pins H1 s1 e s' J z) q⟩) he hpl) hdb)⟩
end
/-! ### promises of methods -/
section
variable {α β ρ τ : Type} {c : Cn}
def spM (c : Cn) [Args τ] [Ob α] [Ob β] (f : α → τ → R (ρ × β)) (kr : ρ → Kd) : Sp := fun vs H Q E => ∃ (W : Wd) (y : α) (x : τ) (v : V) (vs1 : List V) (fp : List Addr),
  W.H = H ∧ vs = v :: vs1 ∧ Ob.own c.K y v fp W ∧ Args.reps c.K x vs1 W.G ∧ match f y x with
    | .ok r => ∀ u (W' : Wd) fp', LeX W fp W' → (kr r.1).p W u W' → Ob.own c.K r.2 v fp' W' → (∀ a ∈ fp', a ∈ fp ∨ W.H a = none) → Q u W'.H
    | .ex e => ∀ cls d (W' : Wd) fp', LeX W fp W' → ExAt c.M e cls d W' → Ob.own c.K y v fp' W' → (∀ a ∈ fp', a ∈ fp ∨ W.H a = none) → E cls d W'.H
    | .no => False
/-- __init__ -/
def spN (c : Cn) [Args τ] [Ob β] (cls : Str) (f : τ → R β) : Sp := fun vs H Q E => ∃ (W : Wd) (x : τ) (p : Addr) (vs1 : List V), W.H = H ∧ vs = .ref p :: vs1 ∧ Ob.own c.K (Ins.mk Fn.mk : Ins cls Fn) (.ref p) [p] W ∧ Args.reps c.K x vs1 W.G ∧ match f x with
    | .ok y => ∀ (W' : Wd) fp', LeX W [p] W' → Ob.own c.K y (.ref p) fp' W' → (∀ a ∈ fp', a ∈ [p] ∨ W.H a = none) → Q .non W'.H
    | .ex e => ∀ cls d (W' : Wd), LeX W [p] W' → ExAt c.M e cls d W' → E cls d W'.H
    | .no => False
theorem spM_len [Args τ] [Ob α] [Ob β] {f : α → τ → R (ρ × β)} {kr : ρ → Kd} (vs : List V) (H : Hp) (Q : VK) (E : XK) (h : spM c f kr vs H Q E) : vs.length = Args.num τ + 1 := by
  obtain ⟨W, y, x, v, vs1, fp, e, ev, o, r, _⟩ := h
  rw [ev, List.length_cons, Args.len r]
theorem spN_len [Args τ] [Ob β] {cls : Str} {f : τ → R β} (vs : List V) (H : Hp) (Q : VK) (E : XK) (h : spN c cls f vs H Q E) : vs.length = Args.num τ + 1 := by
  obtain ⟨W, x, p, vs1, e, ev, o, r, _⟩ := h
  rw [ev, List.length_cons, Args.len r]
def moFX (o : Out β Unit (Unit × β)) : R (Unit × β) := match o with
  | .nx y => .ok ((), y)
  | .rt r => .ok r
  | .ex e => .ex e
  | _ => .no
def moN (o : Out β Unit (Unit × β)) : R β := match o with
  | .nx y => .ok y
  | .ex e => .ex e
  | _ => .no
variable {N : List Str} {n : Nat} {t : TS} {vs : List V} {H : Hp} {Q : VK} {E : XK} [Args τ] [Ob α] [Ob β]
theorem m_start {W : Wd} {x : τ} {y : α} {vs1 : List V} {v : V} {fp : List Addr} (hN : N.length = Args.num τ + 1 + n) (o : Ob.own c.K y v fp W) (r : Args.reps c.K x vs1 W.G) :
    At c.K (W.wo fp fun a h => (Ob.foot o a h).1) (.ow (some v) y :: (Args.sl x ++ uns n)) (L2.start N (v :: vs1)) W := by
  have e : L2.start N (v :: vs1) = some v :: (vs1.map some ++ List.replicate n none) := by
    unfold L2.start
    have h : N.length - (v :: vs1).length = n := by rw [hN, List.length_cons, Args.len r]; omega
    rw [h]
    simp
  rw [e]
  have a0 : At c.K (W.wo fp fun a h => (Ob.foot o a h).1) (uns n) (List.replicate n none) W := (at_uns n).re Le.wo
  exact (Args.at_ r a0).consO (Args.no x _ (noOw_uns n)) o fun a ha => wo_in ha
theorem io_done' {W W' : Wd} {y : α} {v : V} {fp f : List Addr} (o : Ob.own c.K y v fp W) (e : Le (W.wo fp fun a h => (Ob.foot o a h).1) W') (hf : ∀ a ∈ f, (W.wo fp fun a h => (Ob.foot o a h).1).H a = none) : LeX W fp W' ∧ ∀ a ∈ f, a ∈ fp ∨ W.H a = none := by
  refine ⟨LeX.of e, fun a ha => ?_⟩
  by_cases q : a ∈ fp
  · exact .inl q
  · exact .inr (by have := hf a ha; rw [wo_ni q] at this; exact this)
theorem fn_mFX {f : α → τ → R (Unit × β)} {m : α → τ → Out β Unit (Unit × β)} {Bs : V → β → List Sl} (h : spM c f (fun x => kFr c.K x) vs H Q E) (hN : N.length = Args.num τ + 1 + n) (hm : ∀ y x, f y x = moFX (m y x)) (hj : ∀ v y, (Bs v y)[0]? = some (.ow (some v) y))
    (hd : ∀ (W : Wd) y x v, Den c (x0 E) (krIO c.K (fun x : Unit => kFr c.K x) v) (.ow (some v) y :: uns (N.length - 1)) (fun _ : Unit => []) (bd0 W) t (.ow (some v) y :: (Args.sl x ++ uns n)) (m y x) (Bs v)) : t { nx := fun _ H' => Q .non H', rt := Q } (L2.start N vs) H := by
  obtain ⟨W, y, x, v, vs1, fp, eh, ev, o, r, k⟩ := h
  subst eh ev
  refine hd (W.wo fp fun a h => (Ob.foot o a h).1) y x v _ _ W (m_start hN o r) ?_
  rw [hm] at k
  revert k
  generalize m y x = q
  intro k
  cases q with
  | nx y' =>
    refine fun σ W' a => ?_
    obtain ⟨u, f', hu, o', pn, n0⟩ := a.varO (hj v y')
    have eu := pn v rfl
    subst eu
    obtain ⟨lx, hf⟩ := io_done' o a.le n0
    exact k _ W' f' lx rfl o' hf
  | rt r =>
    refine fun u W' l ⟨p, f', o', n0⟩ => ?_
    obtain ⟨lx, hf⟩ := io_done' o l n0
    exact k u W' f' lx p o' hf
  | bk j => exact k.elim
  | ct j => exact k.elim
  | ex e =>
    refine fun cls d σ W' a z => ?_
    obtain ⟨u, f', hu, o', pn, n0⟩ := a.varO (show (.ow (some v) y :: uns (N.length - 1))[0]? = some (.ow (some v) y) from rfl)
    have eu := pn v rfl
    subst eu
    obtain ⟨lx, hf⟩ := io_done' o a.le n0
    exact k cls d W' f' lx z o' hf
  | no => exact k.elim
theorem fn_N {cls : Str} {f : τ → R β} {m : τ → Out β Unit (Unit × β)} {Bs : V → β → List Sl} (h : spN c cls f vs H Q E) (hN : N.length = Args.num τ + 1 + n) (hm : ∀ x, f x = moN (m x)) (hj : ∀ v y, (Bs v y)[0]? = some (.ow (some v) y))
    (hd : ∀ (W : Wd) x v, Den c (x0 E) (krIO c.K (fun x : Unit => kFr c.K x) v) (uns N.length) (fun _ : Unit => []) (bd0 W) t (.ow (some v) (Ins.mk Fn.mk : Ins cls Fn) :: (Args.sl x ++ uns n)) (m x) (Bs v)) : t { nx := fun _ H' => Q .non H', rt := Q } (L2.start N vs) H := by
  obtain ⟨W, x, p, vs1, eh, ev, o, r, k⟩ := h
  subst eh ev
  refine hd (W.wo [p] fun a h => (Ob.foot o a h).1) x (.ref p) _ _ W (m_start hN o r) ?_
  rw [hm] at k
  revert k
  generalize m x = q
  intro k
  cases q with
  | nx y' =>
    refine fun σ W' a => ?_
    obtain ⟨u, f', hu, o', pn, n0⟩ := a.varO (hj (.ref p) y')
    have eu := pn _ rfl
    subst eu
    obtain ⟨lx, hf⟩ := io_done' o a.le n0
    exact k W' f' lx o' hf
  | rt r => exact k.elim
  | bk j => exact k.elim
  | ct j => exact k.elim
  | ex e => exact fun cls d σ W' a z => k cls d W' (LeX.of (h := fun b hb => (Ob.foot o b hb).1) a.le) z
  | no => exact k.elim
end
end Fw

namespace Fw
open PySem L2
/-! ### calls of methods -/
section
variable {α β γ ρ τ φ φ' : Type} {cls m : Str} {C : Addr} {ns : List Str} {c : Cn} {W0 : Wd} {X : WX} {As : List Sl} [Args τ] [Fs φ] [Fs φ']
/-- a method that changes nothing, of a frozen instance -/
theorem r_meth {f : Ins cls φ × τ → R ρ} {kr : ρ → Kd} {te : TE} {ta : TA} {mo : R (Ins cls φ)} {n : R τ} (ct : ClT c.K cls C ns) (hm : m ∉ Fs.names φ) (ho : Exr c W0 X te As mo fun x => kFr c.K x) (ha : Axr c W0 X ta As n fun x => kAs c.K x) :
    Exr c W0 X (tMethD C m (spF c f kr) (WE X) te ta) As (mo.bind fun o => n.bind fun z => f (o, z)) kr := fun σ W a => by
  have ho' := ho σ W a
  have ha' := ha σ W a
  cases mo with
  | no => trivial
  | ex e => exact fun W1 e1 Q q => ho' W1 e1 _ q
  | ok o =>
    have ins : ∀ {W2 : Wd} {v : V}, Rp.rep c.K o v W2.G → ∃ p dx fs, v = .ref p ∧ W2.H p = some (.ins C dx fs) ∧ fs.lookup m = none := fun {W2 v} ⟨p, C', dx, fs, ev, hp, hc, r⟩ => by
      obtain rfl := ct.eq hc
      exact ⟨p, dx, fs, ev, W2.sub _ _ hp, lookup_none (by rw [Fs.rm r]; exact hm)⟩
    cases n with
    | no => trivial
    | ex e =>
      intro W1 e1 Q q
      refine ho' W1 e1 _ fun v W2 e2 p => ?_
      have p' : Rp.rep c.K o v W2.G := p
      obtain ⟨b, dx, fs, ev, hb, hl⟩ := ins (W2 := W2) (v := v) p'
      exact ⟨b, dx, fs, ev, hb, hl, ha' W2 (e1.trans e2) _ fun cls d W3 e3 z => q cls d W3 (e2.trans e3) z⟩
    | ok z =>
      show SatR (f (o, z)) _ _
      have go : ∀ W1, Le W W1 → ∀ (Q : VK) (E : XK), (∀ v vs W2 W3, Le W1 W2 → Le W2 W3 → Rp.rep c.K o v W3.G → Args.reps c.K z vs W3.G → spF c f kr (v :: vs) W3.H Q E) → E = WE X σ → tMethD C m (spF c f kr) (WE X) te ta σ W1.H Q := by
        intro W1 e1 Q E hsp hE
        refine ho' W1 e1 _ fun v W2 e2 p => ?_
        have p' : Rp.rep c.K o v W2.G := p
        obtain ⟨b, dx, fs, ev, hb, hl⟩ := ins (W2 := W2) (v := v) p'
        refine ⟨b, dx, fs, ev, hb, hl, ha' W2 (e1.trans e2) _ fun vs W3 e3 r => ?_⟩
        rw [← hE]
        exact hsp v vs W2 W3 e2 e3 (Rp.mono e3.g p') r
      cases hf : f (o, z) with
      | no => trivial
      | ex e =>
        intro W1 e1 Q q
        refine go W1 e1 Q _ (fun v vs W2 W3 e2 e3 r1 r2 => ?_) rfl
        refine ⟨W3, (o, z), rfl, ⟨v, vs, rfl, r1, r2⟩, ?_⟩
        rw [hf]
        exact fun cls d W4 e4 z => q cls d W4 (e2.trans (e3.trans e4)) z
      | ok y =>
        intro W1 e1 Q q
        refine go W1 e1 Q _ (fun v vs W2 W3 e2 e3 r1 r2 => ?_) rfl
        refine ⟨W3, (o, z), rfl, ⟨v, vs, rfl, r1, r2⟩, ?_⟩
        rw [hf]
        exact fun u W4 e4 k => q u W4 (e2.trans (e3.trans e4)) ((kr y).dn (e2.trans e3) k)
/-- C(..) -/
theorem r_make [Ob β] {f : τ → R β} {ta : TA} {n : R τ} (ct : ClT c.K cls C ns) (ha : Axr c W0 X ta As n fun x => kAs c.K x) : Exr c W0 X (tMakeD C (spN c cls f) (WE X) ta) As (n.bind f) fun y => kNw c.K y := fun σ W a => by
  have ha' := ha σ W a
  cases n with
  | no => trivial
  | ex e => exact fun W1 e1 Q q => ha' W1 e1 _ q
  | ok z =>
    show SatR (f z) _ _
    have mk : ∀ {W2 : Wd} {x dx : Addr}, W2.H x = none → W2.H dx = none → dx ≠ x → ∃ W3 : Wd, W3.H = upd (upd W2.H dx (.own x)) x (.ins C dx []) ∧ Le W2 W3 ∧ Ob.own c.K (Ins.mk Fn.mk : Ins cls Fn) (.ref x) [x] W3 := fun {W2 x dx} hx hd hne => by
      have hx2 : (W2.nf dx (.own x)).H x = none := by show upd W2.H dx _ x = none; rw [upd_ne (Ne.symm hne)]; exact hx
      have l1 : Le W2 (W2.nf dx (.own x)) := Le.nf hd
      exact ⟨(W2.nf dx (.own x)).no x (.ins C dx []) hx2, rfl, l1.trans (Le.no hx2), x, C, dx, [], [], rfl, rfl, by simp, (W2.nf dx (.own x)).sub.nope hx2, upd_same, ct.at_, rfl, rfl⟩
    have up : ∀ {W1 W2 W3 W4 : Wd} {x dx : Addr}, W2.H x = none → Le W2 W3 → LeX W3 [x] W4 → Le W2 W4 := fun {W1 W2 W3 W4 x dx} hx l3 lx => ⟨l3.g.trans lx.g, fun a o h => by
      have ax : a ≠ x := ne_of_none h hx
      rw [lx.h a (fun z => ax (List.mem_singleton.mp z)) (by rw [l3.h a o h]; exact fun z => nomatch z)]
      exact l3.h a o h, fun a g n => by
      have ax : a ≠ x := fun z => n (by rw [z]; exact hx)
      exact lx.o a (fun z => ax (List.mem_singleton.mp z)) (l3.o a g n) (fun z => n (l3.h.nope z))⟩
    cases hf : f z with
    | no => trivial
    | ex e =>
      intro W1 e1 Q q
      refine ha' W1 e1 _ fun vs W2 e2 r x dx hx hd hne => ?_
      obtain ⟨W3, h3, l3, o3⟩ := mk (W2 := W2) hx hd hne
      rw [← h3]
      refine ⟨W3, z, x, vs, rfl, rfl, o3, Args.mono l3.g r, ?_⟩
      rw [hf]
      exact fun cls d W4 lx ea => q cls d W4 (e2.trans (up (W1 := W1) (dx := dx) hx l3 lx)) ea
    | ok y =>
      intro W1 e1 Q q
      refine ha' W1 e1 _ fun vs W2 e2 r x dx hx hd hne => ?_
      obtain ⟨W3, h3, l3, o3⟩ := mk (W2 := W2) hx hd hne
      rw [← h3]
      refine ⟨W3, z, x, vs, rfl, rfl, o3, Args.mono l3.g r, ?_⟩
      rw [hf]
      refine fun W4 f4 lx o4 hf4 => ⟨rfl, q _ W4 (e2.trans (up (W1 := W1) (dx := dx) hx l3 lx)) ⟨f4, o4, fun a ha => ?_⟩⟩
      rcases hf4 a ha with z | z
      · rw [List.mem_singleton.mp z]; exact e2.h.nope hx
      · exact e2.h.nope (l3.h.nope z)
variable {J S : Type} {ρ' : Type} {kr' : ρ' → Kd} {Ls : List Sl} {Js : J → List Sl} {B : Bd} {Bs : S → List Sl}
/-- P.m(..): the call alone; what is raised leaves all as it is -/
theorem d_callM [Ob β] {f : Ins cls φ → τ → R (ρ × β)} {kr : ρ → Kd} {td : TE} {ta : TA} {n : R τ} {x : Ins cls φ} {up : β → List Sl} {u : TS} {k : β → Out S J ρ'} (ct : ClT c.K cls C ns) (hm : m ∉ Fs.names φ) (pl : Plc c B.W0 td As x up) (lx : Lx Ls As)
    (ha : Axr c B.W0 X ta As n fun x => kAs c.K x) (hk : ∀ y, Den c X kr' Ls Js B u (up y) (k y) Bs) :
    Den c X kr' Ls Js B (tSeq (tDrop (tMethD C m (spM c f kr) (WE X) td ta)) u) As (n.to fun z => (f x z).to fun r => k r.2) Bs := fun D σ W a fn => by
  obtain ⟨v, fp, ev, o, chg, chg0⟩ := pl σ W a
  have ha' := ha σ W a
  have o0 := o
  obtain ⟨p, C', dx, fs, f1, e1, ef, np, g, hp, hc, of⟩ := o
  obtain rfl := ct.eq hc
  subst e1 ef
  have hl : fs.lookup m = none := lookup_none (by rw [Fs.nm of]; exact hm)
  refine ev W (Le.refl _) _ fun Wa ea => ⟨p, dx, fs, rfl, ea.h _ _ hp, hl, ?_⟩
  cases n with
  | no => exact False.elim fn
  | ex e => exact ha' Wa ea _ fun cls d W2 e2 z => fn cls d σ W2 (lx_at lx (a.mono (ea.trans e2))) z
  | ok z =>
    refine ha' Wa ea _ fun vs W2 eb r => ?_
    have e2 := ea.trans eb
    have own2 : Ob.own c.K x (.ref p) (p :: f1) W2 := own_up o0 e2
    have fn' : Fin c X kr' Ls Js B Bs D ((f x z).to fun r => k r.2) := fn
    refine ⟨W2, x, z, .ref p, vs, p :: f1, rfl, rfl, own2, r, ?_⟩
    cases hf : f x z with
    | no => rw [hf] at fn'; exact False.elim fn'
    | ex e =>
      rw [hf] at fn'
      exact fun cls d W3 f3 lx3 ea3 o3 h3 => fn' cls d σ W3 (lx_at lx (chg0 W2 e2 W3 f3 lx3 o3 h3)) ea3
    | ok r =>
      rw [hf] at fn'
      exact fun u W3 f3 lx3 _ o3 h3 => hk _ D σ W3 (chg W2 e2 W3 r.2 f3 lx3 o3 h3) fn'
end
end Fw

namespace Fw
open PySem L2
/-! ### changes of the fields of what a slot holds -/
section
variable {φ φ' α β κ τ ρ : Type} {n m cls : Str} [Fs φ] [Fs φ'] {J S ρ' : Type} {c : Cn} {X : WX} {kr : ρ' → Kd} {Ls : List Sl} {Js : J → List Sl} {B : Bd} {As : List Sl} {Bs : S → List Sl} {C : Addr} {ns : List Str} {x : Ins cls φ} {pin : Option V}
variable [DecidableEq κ] [Rp κ] [DKy κ]
theorem d_dputF [Rp α] {te ti : TE} {u : TS} {mo : R α} {no : R κ} {k : Ins cls φ' → Out S J ρ'} (s : Sel φ φ' n (Dq κ α) (Dq κ α)) (ct : ClT c.K cls C ns) (hn : n ∈ ns) (i : Nat) (hi : As[i]? = some (.ow pin x)) (lx : Lx Ls As) (h : Exr c B.W0 X te As mo fun x => kFr c.K x) (hk1 : Exr c B.W0 X ti As no fun x => kFr c.K x)
    (g : Dq κ α) (hg : s.get x.f = g) (v : Dq κ α → Ins cls φ') (hv : ∀ d, Ins.mk (s.set x.f d) = v d) (hk : ∀ z : Ins cls φ', Den c X kr Ls Js B u (As.set i (.ow pin z)) (k z) Bs) :
    Den c X kr Ls Js B (tSeq (sDPut (tFld c.K (tVar i) n) ti te) u) As (mo.to fun y => no.to fun j => (R.dput (Dk.mk g.l) j y).to fun z => lt (v (Dq.mk z.l)) k) Bs := by
  obtain rfl : (fun d => Ins.mk (s.set x.f d)) = v := funext hv
  subst hg
  exact d_dputP (k := fun d => k (Ins.mk (s.set x.f d))) (plc_fld s ct hn i hi) lx h hk1 fun ys => hk _
/-- x.m(..), x one's own: the call alone -/
theorem d_callS [Args τ] {f : Ins cls φ → τ → R (ρ × Ins cls φ')} {kr' : ρ → Kd} {ta : TA} {no : R τ} {u : TS} {k : Ins cls φ' → Out S J ρ'} (ct : ClT c.K cls C ns) (hm : m ∉ Fs.names φ) (i : Nat) (hi : As[i]? = some (.ow pin x)) (lx : Lx Ls As) (ha : Axr c B.W0 X ta As no fun x => kAs c.K x) (hk : ∀ y, Den c X kr Ls Js B u (As.set i (.ow pin y)) (k y) Bs) :
    Den c X kr Ls Js B (tSeq (tDrop (tMethD C m (spM c f kr') (WE X) (tVar i) ta)) u) As (no.to fun z => (f x z).to fun r => lt r.2 k) Bs := d_callM ct hm (plc_var i hi) lx ha hk
end
section
variable {X : Cx} {K : Frag} {e : Expr} {f : Str} {pos : Pos} {ta : TE}
theorem pe_fldK (hK : X.K = K) (he : PE X e ta) (hb : attributeBase e f X.env (eval e X.env) = eval e X.env := by rfl) : PE X (.Attribute e f pos) (tFld K ta f) := hK ▸ pe_fld he hb
end
theorem noA_nil {K : Frag} {C : Addr} : ∀ n ∈ ([] : List Str), NoAttr K C n := fun n h => by cases h
theorem noA_cons {K : Frag} {C : Addr} {m : Str} {ns : List Str} (h : NoAttr K C m) (t : ∀ n ∈ ns, NoAttr K C n) : ∀ n ∈ m :: ns, NoAttr K C n := fun n hn => by
  rcases List.mem_cons.mp hn with z | z
  · rw [z]; exact h
  · exact t n z
/-! ### d.get(k) -/
section
variable {κ α : Type} [DecidableEq κ] [Rp κ] [DKy κ] [Rp α] {c : Cn} {W0 : Wd} {X : WX} {As : List Sl}
instance [KT α] : NN (Ky α) := ⟨fun ⟨p, e, _⟩ z => by rw [e] at z; cases z⟩
end
end Fw

namespace Fw
open PySem L2
/-! ### a, b = a list -/
def R.two {α : Type} : List α → R (α × α)
  | [a, b] => .ok (a, b)
  | _ => .no
section
variable {J S ρ α : Type} {c : Cn} {X : WX} {kr : ρ → Kd} {Ls : List Sl} {Js : J → List Sl} {B : Bd} {As : List Sl} {Bs : S → List Sl} {W0 : Wd}
end
/-! ### x < y, data that are alike -/
section
variable {α : Type} [Rp α] [Pd α] [DecidableEq α] [Lt α] [Rdd α] {K : Frag}
end
/-! ### a thing that is gone: nothing is known of it -/
structure Gone where
deriving DecidableEq
instance : Rp Gone := ⟨fun _ _ _ _ => True, fun _ h => h⟩
instance : Fz Gone where
  own := fun _ _ _ f _ => f = []
  keep := fun h _ _ _ => h
  foot := fun h a ha => by
    have h' := h
    subst h'
    cases ha
  fz := fun _ => trivial
section
variable {J S ρ α β γ : Type} {c : Cn} {X : WX} {kr : ρ → Kd} {Ls : List Sl} {Js : J → List Sl} {B : Bd} {As : List Sl} {Bs : S → List Sl} {W0 : Wd}
end
end Fw

namespace Fw
open PySem L2
section
variable {J S ρ α β : Type} {c : Cn} {X : WX} {Ls : List Sl} {Js : J → List Sl} {B : Bd} {As : List Sl} {Bs : S → List Sl} {W0 : Wd}
end
end Fw

namespace Fw
open PySem L2
section
variable {J S ρ α β γ δ : Type} {c : Cn} {X : WX} {kr : ρ → Kd} {Ls : List Sl} {Js : J → List Sl} {B : Bd} {As : List Sl} {Bs : S → List Sl} {W0 : Wd}
end
end Fw

namespace Fw
open PySem L2
/-! ### x = xs.pop(0) -/
section
variable {J S ρ α : Type} {c : Cn} {X : WX} {kr : ρ → Kd} {Ls : List Sl} {Js : J → List Sl} {B : Bd} {As : List Sl} {Bs : S → List Sl}
end
/-! ### a pair: the first one's own, the second frozen -/
structure PF (α β : Type) where
  a : α
  b : β
instance {α β : Type} [Ob α] [Rp β] : Ob (PF α β) where
  own := fun K x v f W => ∃ p va vb, v = .ref p ∧ W.G p = some (.tup [va, vb]) ∧ Ob.own K x.a va f W ∧ Rp.rep K x.b vb W.G
  keep := fun {K x v f W W'} ⟨p, va, vb, e, hp, o, r⟩ s n k => ⟨p, va, vb, e, s _ _ hp, Ob.keep o s n k, Rp.mono s r⟩
  foot := fun {K x v f W} ⟨p, va, vb, e, hp, o, r⟩ a ha => Ob.foot o a ha
instance {α β : Type} [Ob α] [Rp β] [UfO α] [Uf β] : UfO (PF α β) := ⟨fun {K x v f W W'} t n k ⟨p, va, vb, e, hp, o, r⟩ => ⟨p, va, vb, e, t p _ rfl hp, UfO.uf t n k o, Uf.uf t r⟩⟩
section
variable {J S ρ α β : Type} {c : Cn} {X : WX} {kr : ρ → Kd} {Ls : List Sl} {Js : J → List Sl} {B : Bd} {As : List Sl} {Bs : S → List Sl} {W0 : Wd}
end
/-! ### sorted(d), d by tuples; by whole numbers -/
section
open PySem.Spec PyProof.Rows PySem.Calls
variable {P : Program} {w : World} {A : Around} {E : Value → Shared → Prop} {s : Shared}
end
section
variable {K : Frag} {κ β : Type} [Rp κ] [KT κ] [DecidableEq κ] [Rp β]
end
section
variable {K : Frag} {α : Type} [Rp α]
end
end Fw

namespace Fw
open PySem L2
/-! ### x = d.pop(k), keys of any kind -/
def DPop (H : Hp) (a : Addr) (y v : V) (H' : Hp) : Prop :=
  (∃ (kvs : List (Key × V)) (k : Key), H a = some (.dK kvs) ∧ y = L2.kV k ∧ valV kvs k = some v ∧ H' = upd H a (.dK (dropK kvs k))) ∨
  ∃ (kvs : List (List Key × V)) (k : List Key) (b : Addr), H a = some (.dT kvs) ∧ y = .ref b ∧ H b = some (.tup (k.map L2.kV)) ∧ valV kvs k = some v ∧ H' = upd H a (.dT (dropK kvs k))
def tDPopG (td ty : TE) : TE := fun σ H Q => td σ H fun x H1 => ∃ a, x = .ref a ∧ IsD H1 a ∧ ty σ H1 fun y H2 => ∃ v H3, DPop H2 a y v H3 ∧ Q v H3
theorem paired_filter {α β : Type} {R : α → β → Prop} {p : α → Bool} {q : β → Bool} : ∀ {l : List α} {r : List β}, Paired R l r → (∀ x y, R x y → p x = q y) → Paired R (l.filter p) (r.filter q)
  | [], [], _, _ => .nil
  | x :: l, y :: r, .cons h t, e => by
    rw [List.filter_cons, List.filter_cons, e x y h]
    cases q y with
    | true => exact .cons h (paired_filter t e)
    | false => exact paired_filter t e
section
open PySem.Spec PyProof.Rows
variable {X : Cx} {pins : List (Addr × Obj)} {σ : L2.St} {H H' : Hp} {s : Shared} {a : Addr} {y v : V} {u : Value} {A : Around} {E : Value → Shared → Prop}
theorem d_popG {Q : Value → Shared → Prop} (hu : A.units + 1 < cLine) (I : Inv X pins σ H s) (g : DPop H a y v H') (ry : RelV y u) (h : ∀ w' s', Inv X pins σ H' s' → RelV v w' → Q w' s') : wpAny (model X.prog X.w) A (call (.builtin "dict.pop") [.ref a, u]) Q E s := by
  rcases g with ⟨kvs, k, e, ey, ev, eH⟩ | ⟨kvs, k, b, e, ey, eb, ev, eH⟩
  · subst ey eH
    exact L2.d_pop I e ry ev (.inl rfl) h
  · subst ey eH
    cases (show u = Value.ref b from ry)
    obtain ⟨z, hd, xs, rel, dd⟩ := dt_of I.hok e
    have hz : xs.length ≤ sizeLine := by rw [← Paired.length rel]; exact z
    obtain ⟨w, hw, rw_⟩ := RelO.some_of (v := v) (o := (atKey xs k).map (·.2)) (by rw [← ev]; exact rel.val k)
    obtain ⟨p, hp, hp2⟩ := Option.map_eq_some_iff.mp hw
    refine call_pop_heap (hsz := hz) (.inl rfl) (PySem.F.args_dict_pop_2 _ _) (tupleKind_room_in1 hu) (key_of I.hok eb) hd dd hp fun h' dd' hs => ?_
    obtain ⟨qo, es, ep, hq, h2, h3, h4, _, h5⟩ := dd'
    have hl : (dropK kvs k).length ≤ sizeLine := Nat.le_trans (List.length_filter_le _ _) z
    have rel' : L2.KT H (dropK kvs k) (withoutH xs k) := paired_filter rel fun x y r => by rw [r.1]
    refine h _ _ (d_write I (by rw [e]; exact True.intro) hs ⟨qo, hq⟩ ⟨hl, hd, _, rel'.keeps fun c ys ec => ?_, qo, es, ep, hq, h2, h3, h4, h5⟩) (hp2 ▸ rw_)
    rw [upd_ne (ne_of ec e (fun z => nomatch z))]
    exact ec
variable {o e : Expr} {td ty : TE} {apos cpos : Pos}
theorem pe_dpopG (hu : X.A.units + 1 < cLine) (ho : PE X o td) (he : PE X e ty) (m : M1 X o "pop" apos e cpos) : PE X (.Call (.Attribute o "pop" apos) [e] [] cpos) (tDPopG td ty) := by
  refine ⟨fun pins s σ H Q I h => ?_⟩
  refine wpAny_Call_method m.base m.few m.line PySem.F.plainAttrs_dict PySem.F.slot_dict_pop PySem.F.type_dict_pop (thn (ho.run pins s σ H _ I h) fun u s1 ⟨x, H1, I1, rx, a, ex, d, q1⟩ => ?_)
  subst ex
  obtain rfl : u = Value.ref a := rx
  obtain ⟨t1, t2, _⟩ := isD_at I1 d
  refine ⟨t1, t2, ?_⟩
  rw [m.trees]
  exact Calls.callWith_builtin rfl (Calls.evalArgs_plain (Calls.spliced_cons (thn (he.run pins s1 σ H1 _ I1 q1) fun iv s2 ⟨y, H2, I2, ry, v, H3, gt, q2⟩ =>
    Calls.spliced_nil (d_popG hu I2 gt ry fun w' s4 I4 rw' => ⟨v, _, I4, rw', q2⟩))))
end
section
theorem dropK_inj {κ μ : Type} [DecidableEq κ] [DecidableEq μ] {f : κ → μ} (hf : ∀ a b, f a = f b → a = b) (k : κ) (kvs : List (κ × V)) : dropK (kvs.map fun p => (f p.1, p.2)) (f k) = (dropK kvs k).map fun p => (f p.1, p.2) := by
  unfold dropK
  rw [List.filter_map]
  congr 1
  refine List.filter_congr fun p _ => ?_
  show decide (f p.1 ≠ f k) = decide (p.1 ≠ k)
  by_cases e : p.1 = k
  · rw [e]; simp
  · rw [decide_eq_true (show p.1 ≠ k from e), decide_eq_true (show f p.1 ≠ f k from fun z => e (hf _ _ z))]
class PKy (κ : Type) [DecidableEq κ] [Rp κ] extends DKy κ where
  pop : ∀ {K : Frag} {G H : Hp} {k : κ} {y v : V} {p : Addr} {kvs : List (κ × V)}, Rp.rep K k y G → Inc G H → H p = some (DKy.ho kvs) → valV kvs k = some v → DPop H p y v (upd H p (DKy.ho (dropK kvs k)))
instance : PKy Int where
  pop := fun {K G H k y v p kvs} r _ e l => by
    have r' : y = .int k := r
    subst r'
    refine .inl ⟨_, kI k, e, rfl, ?_, ?_⟩
    · rw [valV_inj kI_inj]; exact l
    · rw [dropK_inj kI_inj]; rfl
instance : PKy Str where
  pop := fun {K G H k y v p kvs} r _ e l => by
    have r' : y = .str k := r.1
    subst r'
    refine .inl ⟨_, kS k, e, rfl, ?_, ?_⟩
    · rw [valV_inj kS_inj]; exact l
    · rw [dropK_inj kS_inj]; rfl
instance {α : Type} [Rp α] [KT α] [DecidableEq α] : PKy (Ky α) where
  pop := fun {K G H k y v p kvs} ⟨b, r, hb, _⟩ s e l => by
    subst r
    refine .inr ⟨_, kyk k, b, e, rfl, s _ _ hb, ?_, ?_⟩
    · rw [valV_inj kyk_inj]; exact l
    · rw [dropK_inj kyk_inj]; rfl
end
section
variable {κ α : Type} [DecidableEq κ] [Rp κ] [PKy κ] [Rp α]
theorem DR.drop {K : Frag} {G : Hp} {k : κ} : ∀ {x : List (κ × α)} {q : List (κ × V)}, DR K x q G → DR K (x.filter fun p => decide (p.1 ≠ k)) (dropK q k) G
  | [], [], _ => trivial
  | p :: x, e :: q, h => by
    unfold dropK
    rw [List.filter_cons, List.filter_cons]
    obtain ⟨h1, h2, h3⟩ := h
    by_cases z : e.1 = k
    · rw [decide_eq_false (show ¬ p.1 ≠ k from fun w => w (h1 ▸ z)), decide_eq_false (show ¬ e.1 ≠ k from fun w => w z)]
      exact DR.drop h3
    · rw [decide_eq_true (show p.1 ≠ k from fun w => z (h1 ▸ w)), decide_eq_true (show e.1 ≠ k from z), if_pos rfl, if_pos rfl]
      exact ⟨h1, h2, DR.drop h3⟩
  | [], _ :: _, h => h.elim
  | _ :: _, [], h => h.elim
theorem dr_valv {K : Frag} {G : Hp} {k : κ} {y : α} : ∀ {x : List (κ × α)} {q : List (κ × V)}, DR K x q G → dval x k = some y → ∃ v, valV q k = some v ∧ Rp.rep K y v G
  | [], [], _, h => by cases h
  | p :: x, e :: q, ⟨h1, h2, h3⟩, h => by
    unfold dval at h
    by_cases z : p.1 = k
    · rw [if_pos z] at h
      cases h
      exact ⟨e.2, valV_pos (h1.symm.trans z), h2⟩
    · rw [if_neg z] at h
      obtain ⟨v, ev, r⟩ := dr_valv h3 h
      exact ⟨v, by rw [valV_neg (fun w => z (h1.trans w))]; exact ev, r⟩
  | [], _ :: _, h, _ => h.elim
  | _ :: _, [], h, _ => h.elim
variable {J S ρ : Type} {c : Cn} {X : WX} {kr : ρ → Kd} {Ls : List Sl} {Js : J → List Sl} {B : Bd} {As : List Sl} {Bs : S → List Sl}
end
end Fw

namespace Fw
open PySem L2
/-! ### four in a tuple: the first and the last two lists of one's own -/
section
variable {α β γ δ : Type} [Rp α] [Rp β] [Rp γ] [Rp δ]
def own4 (K : Frag) (x : T4 (List α) β (List γ) (List δ)) (v : V) (f : List Addr) (W : Wd) : Prop := ∃ (p : Addr) (vb : V) (qa qc qd : Addr) (va vc vd : List V), v = .ref p ∧ W.G p = some (.tup [.ref qa, vb, .ref qc, .ref qd]) ∧ f = [qa, qc, qd] ∧ [qa, qc, qd].Nodup ∧ (∀ q ∈ [qa, qc, qd], W.G q = none) ∧
  W.H qa = some (.lst va) ∧ W.H qc = some (.lst vc) ∧ W.H qd = some (.lst vd) ∧ Al (fun x v => Rp.rep K x v W.G) x.a va ∧ Al (fun x v => Rp.rep K x v W.G) x.c vc ∧ Al (fun x v => Rp.rep K x v W.G) x.d vd ∧ Rp.rep K x.b vb W.G ∧ x.a.length ≤ sizeLine ∧ x.c.length ≤ sizeLine ∧ x.d.length ≤ sizeLine
instance : Fz (T4 (List α) β (List γ) (List δ)) where
  own := own4
  keep := fun {K x v f W W'} ⟨p, vb, qa, qc, qd, va, vc, vd, e, hp, ef, nd, g, h1, h2, h3, a1, a2, a3, rb, l⟩ s n k => by
    subst ef
    exact ⟨p, vb, qa, qc, qd, va, vc, vd, e, s _ _ hp, rfl, nd, n, (k qa (by simp)).trans h1, (k qc (by simp)).trans h2, (k qd (by simp)).trans h3, a1.imp fun _ _ r => Rp.mono s r, a2.imp fun _ _ r => Rp.mono s r, a3.imp fun _ _ r => Rp.mono s r, Rp.mono s rb, l⟩
  foot := fun {K x v f W} ⟨p, vb, qa, qc, qd, va, vc, vd, e, hp, ef, nd, g, h1, h2, h3, _⟩ a ha => by
    subst ef
    refine ⟨g a ha, ?_⟩
    simp only [List.mem_cons, List.not_mem_nil, or_false] at ha
    rcases ha with z | z | z <;> subst z
    · rw [h1]; exact fun z => nomatch z
    · rw [h2]; exact fun z => nomatch z
    · rw [h3]; exact fun z => nomatch z
  fz := fun {K x v f W} ⟨p, vb, qa, qc, qd, va, vc, vd, e, hp, ef, nd, g, h1, h2, h3, a1, a2, a3, rb, l1, l2, l3⟩ => by
    subst ef
    have s := Wd.fz_sub (W := W) (f := [qa, qc, qd])
    exact ⟨p, _, _, _, _, e, .inl (.inl (s _ _ hp)), ⟨qa, va, rfl, (Wd.fz_in (by simp)).trans h1, a1.imp fun _ _ r => Rp.mono s r, l1⟩, Rp.mono s rb, ⟨qc, vc, rfl, (Wd.fz_in (by simp)).trans h2, a2.imp fun _ _ r => Rp.mono s r, l2⟩, ⟨qd, vd, rfl, (Wd.fz_in (by simp)).trans h3, a3.imp fun _ _ r => Rp.mono s r, l3⟩⟩
end
/-- .. of which the lengths alone are known -/
structure Tri where
  la : Nat
  lc : Nat
  ld : Nat
def ownTri (x : Tri) (v : V) (f : List Addr) (W : Wd) : Prop := ∃ (p : Addr) (vb : V) (qa qc qd : Addr) (va vc vd : List V), v = .ref p ∧ W.G p = some (.tup [.ref qa, vb, .ref qc, .ref qd]) ∧ f = [qa, qc, qd] ∧ [qa, qc, qd].Nodup ∧ (∀ q ∈ [qa, qc, qd], W.G q = none) ∧
  W.H qa = some (.lst va) ∧ W.H qc = some (.lst vc) ∧ W.H qd = some (.lst vd) ∧ va.length = x.la ∧ vc.length = x.lc ∧ vd.length = x.ld
instance : Ob Tri where
  own := fun _ => ownTri
  keep := fun {K x v f W W'} ⟨p, vb, qa, qc, qd, va, vc, vd, e, hp, ef, nd, g, h1, h2, h3, l⟩ s n k => by
    subst ef
    exact ⟨p, vb, qa, qc, qd, va, vc, vd, e, s _ _ hp, rfl, nd, n, (k qa (by simp)).trans h1, (k qc (by simp)).trans h2, (k qd (by simp)).trans h3, l⟩
  foot := fun {K x v f W} ⟨p, vb, qa, qc, qd, va, vc, vd, e, hp, ef, nd, g, h1, h2, h3, _⟩ a ha => by
    subst ef
    refine ⟨g a ha, ?_⟩
    simp only [List.mem_cons, List.not_mem_nil, or_false] at ha
    rcases ha with z | z | z <;> subst z
    · rw [h1]; exact fun z => nomatch z
    · rw [h2]; exact fun z => nomatch z
    · rw [h3]; exact fun z => nomatch z
section
variable {α β γ δ ε : Type} [Rp α] [Rp β] [Rp γ] [Rp δ] [Rp ε]
variable {J S ρ : Type} {c : Cn} {X : WX} {kr : ρ → Kd} {Ls : List Sl} {Js : J → List Sl} {B : Bd} {As : List Sl} {Bs : S → List Sl} {W0 : Wd}
end
end Fw

namespace Fw
open PySem PySem.Spec PyProof.Rows L2
/-! ### values of many kinds: plain data of a bounded depth -/
structure Dy (n : Nat) where
  d : PyData
instance {n : Nat} : Rp (Dy n) := ⟨fun K x v G => Dp K G v x.d ∧ x.d.depth ≤ n ∧ x.d.canLay0 = true, fun s ⟨h, a, b⟩ => ⟨dp_mono s h, a, b⟩⟩
/-- what can be looked at as such a value -/
class Dn (α : Type) [Rp α] where
  toD : α → PyData
  dp : ∀ {K : Frag} {x : α} {v : V} {G : Hp}, Rp.rep K x v G → Dp K G v (toD x)
  n : Nat
  dep : ∀ {K : Frag} {x : α} {v : V} {G : Hp}, Rp.rep K x v G → (toD x).depth ≤ n
  lay : ∀ {K : Frag} {x : α} {v : V} {G : Hp}, Rp.rep K x v G → (toD x).canLay0 = true
instance : Dn Int := ⟨.int, Pd.dp, 0, Pd.dep, Pd.lay⟩
instance : Dn Bool := ⟨.bool, Pd.dp, 0, Pd.dep, Pd.lay⟩
instance : Dn Str := ⟨.str, Pd.dp, 0, Pd.dep, Pd.lay⟩
instance : Dn Unit := ⟨fun _ => .none, Pd.dp, 0, Pd.dep, Pd.lay⟩
instance {n : Nat} : Dn (Dy n) := ⟨Dy.d, fun h => h.1, n, fun h => h.2.1, fun h => h.2.2⟩
section
variable {α β γ δ : Type} [Rp α] [Dn α] [Rp β] [Dn β] [Rp γ] [Dn γ] [Rp δ] [Dn δ] {K : Frag}
theorem dnAll {G : Hp} : ∀ {xs : List α} {vs : List V}, Al (fun x v => Rp.rep K x v G) xs vs → DpAll K G vs (xs.map Dn.toD)
  | [], [], _ => .nil
  | [], v :: vs, h => by have := h.1; simp at this
  | x :: xs, [], h => by have := h.1; simp at this
  | x :: xs, v :: vs, h => .cons (Dn.dp (h.2 0 x v rfl rfl)) (dnAll ⟨by have := h.1; simpa using this, fun i y w a b => h.2 (i + 1) y w a b⟩)
theorem dnDepAll {G : Hp} : ∀ {xs : List α} {vs : List V}, Al (fun x v => Rp.rep K x v G) xs vs → PyData.depthAll (xs.map Dn.toD) ≤ Dn.n α
  | [], [], _ => by simp [PyData.depthAll]
  | [], v :: vs, h => by have := h.1; simp at this
  | x :: xs, [], h => by have := h.1; simp at this
  | x :: xs, v :: vs, h => by
    have h1 := Dn.dep (h.2 0 x v rfl rfl)
    have h2 := dnDepAll (xs := xs) (vs := vs) ⟨by have := h.1; simpa using this, fun i y w a b => h.2 (i + 1) y w a b⟩
    simp only [List.map_cons, PyData.depthAll]
    omega
theorem dnLayAll {G : Hp} : ∀ {xs : List α} {vs : List V}, Al (fun x v => Rp.rep K x v G) xs vs → PyData.canLayAll0 (xs.map Dn.toD) = true
  | [], [], _ => by simp [PyData.canLayAll0]
  | [], v :: vs, h => by have := h.1; simp at this
  | x :: xs, [], h => by have := h.1; simp at this
  | x :: xs, v :: vs, h => by
    have h1 := Dn.lay (h.2 0 x v rfl rfl)
    have h2 := dnLayAll (xs := xs) (vs := vs) ⟨by have := h.1; simpa using this, fun i y w a b => h.2 (i + 1) y w a b⟩
    simp only [List.map_cons, PyData.canLayAll0, h1, h2, Bool.and_self]
instance : Dn (List α) := ⟨fun xs => .list (xs.map Dn.toD), fun ⟨p, vs, e, h, al, l⟩ => by subst e; exact .lst (.inl (.inl h)) (dnAll al), Dn.n α + 1, fun ⟨p, vs, e, h, al, l⟩ => by
  simp only [PyData.depth]; have := dnDepAll al; omega, fun ⟨p, vs, e, h, al, l⟩ => by simp only [PyData.canLay0]; exact dnLayAll al⟩
instance : Dn (Tup α) := ⟨fun xs => .tuple (xs.l.map Dn.toD), fun ⟨p, vs, e, h, al, l⟩ => by subst e; exact .tup h (dnAll al), Dn.n α + 1, fun ⟨p, vs, e, h, al, l⟩ => by
  simp only [PyData.depth]; have := dnDepAll al; omega, fun ⟨p, vs, e, h, al, l⟩ => by simp only [PyData.canLay0]; exact dnLayAll al⟩
instance : Dn (α × β) := ⟨fun x => .tuple [Dn.toD x.1, Dn.toD x.2], fun ⟨p, a, b, e, h, r1, r2⟩ => by subst e; exact .tup h (.cons (Dn.dp r1) (.cons (Dn.dp r2) .nil)), max (Dn.n α) (Dn.n β) + 1, fun ⟨p, a, b, e, h, r1, r2⟩ => by
  simp only [PyData.depth, PyData.depthAll]; have := Dn.dep r1; have := Dn.dep r2; omega, fun ⟨p, a, b, e, h, r1, r2⟩ => by simp only [PyData.canLay0, PyData.canLayAll0, Dn.lay r1, Dn.lay r2, Bool.and_self]⟩
instance : Dn (T3 α β γ) := ⟨fun x => .tuple [Dn.toD x.a, Dn.toD x.b, Dn.toD x.c], fun ⟨p, a, b, d, e, h, r1, r2, r3⟩ => by subst e; exact .tup h (.cons (Dn.dp r1) (.cons (Dn.dp r2) (.cons (Dn.dp r3) .nil))), max (Dn.n α) (max (Dn.n β) (Dn.n γ)) + 1, fun ⟨p, a, b, d, e, h, r1, r2, r3⟩ => by
  simp only [PyData.depth, PyData.depthAll]; have := Dn.dep r1; have := Dn.dep r2; have := Dn.dep r3; omega, fun ⟨p, a, b, d, e, h, r1, r2, r3⟩ => by simp only [PyData.canLay0, PyData.canLayAll0, Dn.lay r1, Dn.lay r2, Dn.lay r3, Bool.and_self]⟩
instance : Dn (T4 α β γ δ) := ⟨fun x => .tuple [Dn.toD x.a, Dn.toD x.b, Dn.toD x.c, Dn.toD x.d], fun ⟨p, a, b, d, f, e, h, r1, r2, r3, r4⟩ => by subst e; exact .tup h (.cons (Dn.dp r1) (.cons (Dn.dp r2) (.cons (Dn.dp r3) (.cons (Dn.dp r4) .nil)))), max (Dn.n α) (max (Dn.n β) (max (Dn.n γ) (Dn.n δ))) + 1, fun ⟨p, a, b, d, f, e, h, r1, r2, r3, r4⟩ => by
  simp only [PyData.depth, PyData.depthAll]; have := Dn.dep r1; have := Dn.dep r2; have := Dn.dep r3; have := Dn.dep r4; omega, fun ⟨p, a, b, d, f, e, h, r1, r2, r3, r4⟩ => by simp only [PyData.canLay0, PyData.canLayAll0, Dn.lay r1, Dn.lay r2, Dn.lay r3, Dn.lay r4, Bool.and_self]⟩
instance : Dn (α ⊕ β) where
  toD x := match x with
    | .inl a => Dn.toD a
    | .inr b => Dn.toD b
  dp := fun {K x v G} h => by
    cases x with
    | inl a => exact Dn.dp (α := α) h
    | inr b => exact Dn.dp (α := β) h
  n := max (Dn.n α) (Dn.n β)
  dep := fun {K x v G} h => by
    cases x with
    | inl a => have := Dn.dep (α := α) h; dsimp only; omega
    | inr b => have := Dn.dep (α := β) h; dsimp only; omega
  lay := fun {K x v G} h => by
    cases x with
    | inl a => exact Dn.lay (α := α) h
    | inr b => exact Dn.lay (α := β) h
def dyOf (n : Nat) (x : α) : Dy n := ⟨Dn.toD x⟩
def dysOf (n : Nat) (xs : List α) : List (Dy n) := xs.map (dyOf n)
theorem dy_rep {n : Nat} (hn : Dn.n α ≤ n) {x : α} {v : V} {G : Hp} (h : Rp.rep K x v G) : Rp.rep K (dyOf n x) v G := ⟨Dn.dp h, Nat.le_trans (Dn.dep h) hn, Dn.lay h⟩
theorem al_map {β' γ' : Type} {r : β' → V → Prop} {s : γ' → V → Prop} {f : β' → γ'} {xs : List β'} {vs : List V} (h : Al r xs vs) (hf : ∀ x v, r x v → s (f x) v) : Al s (xs.map f) vs := ⟨by rw [List.length_map]; exact h.1, fun i x v h1 h2 => by
  rw [List.getElem?_map] at h1
  cases e : xs[i]? with
  | none => rw [e] at h1; cases h1
  | some y =>
    rw [e] at h1
    have := Option.some.inj h1
    subst this
    exact hf y v (h.2 i y v e h2)⟩
theorem dys_rep {n : Nat} (hn : Dn.n α ≤ n) {xs : List α} {v : V} {G : Hp} (h : Rp.rep K xs v G) : Rp.rep K (dysOf n xs) v G := by
  obtain ⟨p, vs, e, hp, al, l⟩ := h
  exact ⟨p, vs, e, hp, al_map al fun x v h => dy_rep hn h, by unfold dysOf; rw [List.length_map]; exact l⟩
end
section
variable {α β : Type} [Rp α] [Rp β] {c : Cn} {W0 : Wd} {X : WX} {As : List Sl}
/-- looked at as another type -/
theorem e_as {te : TE} {x : α} {f : α → β} (hf : ∀ {x : α} {v : V} {G : Hp}, Rp.rep c.K x v G → Rp.rep c.K (f x) v G) (h : Exp c W0 te As (kFr c.K x)) : Exp c W0 te As (kFr c.K (f x)) := exp_w h fun _ _ _ => hf
theorem r_as {te : TE} {m : R α} {f : α → β} (hf : ∀ {x : α} {v : V} {G : Hp}, Rp.rep c.K x v G → Rp.rep c.K (f x) v G) (h : Exr c W0 X te As m fun x => kFr c.K x) : Exr c W0 X te As (m.bind fun x => .ok (f x)) fun x => kFr c.K x := fun σ W a => by
  have h' := h σ W a
  cases m with
  | no => trivial
  | ex e => exact h'
  | ok x => exact fun W1 e Q q => h' W1 e Q fun v W2 e2 p => q v W2 e2 (hf p)
structure Cast (f : α → R β) : Prop where
  ex : ∀ x e, f x ≠ .ex e
  ok : ∀ {K : Frag} {x : α} {y : β} {v : V} {G : Hp}, f x = .ok y → Rp.rep K x v G → Rp.rep K y v G
end
section
variable {n : Nat} {K : Frag}
/-! == a text, in (a text, a text) -/
/-! list of a tuple -/
/-! isinstance -/
end
end Fw

/-! a text == a dict -/
namespace PySem.SeqAt
open AutoSeq1 (wpAny_loadPart')
open MeetsSeq
section
variable {A : Around} {s : Shared}
end
end PySem.SeqAt
namespace Fw
open PySem PySem.Spec PyProof.Rows L2
/-! ### values of many kinds, dicts among them -/
mutual
inductive Dx (K : Frag) (H : Hp) : V → PyData → Prop
  | non : Dx K H .non .none
  | bl (b : Bool) : Dx K H (.bl b) (.bool b)
  | int (i : Int) : Dx K H (.int i) (.int i)
  | str (x : Str) : Dx K H (.str x) (.str x)
  | lst {a : Addr} {xs : List V} {ds : List PyData} : SqL K H a xs → DxAll K H xs ds → Dx K H (.ref a) (.list ds)
  | tup {a : Addr} {xs : List V} {ds : List PyData} : SqT K H a xs → DxAll K H xs ds → Dx K H (.ref a) (.tuple ds)
  | dct {a : Addr} {o : Obj} {kvs : List (L2.Key × V)} : H a = some (.frz o (.dK kvs)) → Dx K H (.ref a) (.dict [])
inductive DxAll (K : Frag) (H : Hp) : List V → List PyData → Prop
  | nil : DxAll K H [] []
  | cons {v : V} {vs : List V} {d : PyData} {ds : List PyData} : Dx K H v d → DxAll K H vs ds → DxAll K H (v :: vs) (d :: ds)
end
section
variable {K : Frag}
mutual
theorem dx_mono {G H : Hp} (s : Inc G H) : ∀ {v : V} {d : PyData}, Dx K G v d → Dx K H v d
  | _, _, .non => .non
  | _, _, .bl b => .bl b
  | _, _, .int i => .int i
  | _, _, .str x => .str x
  | _, _, .lst h a => .lst (s.sql h) (dxAll_mono s a)
  | _, _, .tup h a => .tup (s.sqt h) (dxAll_mono s a)
  | _, _, .dct h => .dct (s _ _ h)
theorem dxAll_mono {G H : Hp} (s : Inc G H) : ∀ {vs : List V} {ds : List PyData}, DxAll K G vs ds → DxAll K H vs ds
  | _, _, .nil => .nil
  | _, _, .cons h t => .cons (dx_mono s h) (dxAll_mono s t)
end
mutual
theorem dp_dx {G : Hp} : ∀ {v : V} {d : PyData}, Dp K G v d → Dx K G v d
  | _, _, .non => .non
  | _, _, .bl b => .bl b
  | _, _, .int i => .int i
  | _, _, .str x => .str x
  | _, _, .lst h a => .lst h (dpAll_dx a)
  | _, _, .tup h a => .tup h (dpAll_dx a)
theorem dpAll_dx {G : Hp} : ∀ {vs : List V} {ds : List PyData}, DpAll K G vs ds → DxAll K G vs ds
  | _, _, .nil => .nil
  | _, _, .cons h t => .cons (dp_dx h) (dpAll_dx t)
end
mutual
theorem dx_dp {G : Hp} : ∀ {v : V} {d : PyData}, Dx K G v d → d.canLay0 = true → Dp K G v d
  | _, _, .non, _ => .non
  | _, _, .bl b, _ => .bl b
  | _, _, .int i, _ => .int i
  | _, _, .str x, _ => .str x
  | _, _, .lst h a, c => .lst h (dxAll_dp a (by simpa [PyData.canLay0] using c))
  | _, _, .tup h a, c => .tup h (dxAll_dp a (by simpa [PyData.canLay0] using c))
  | _, _, .dct h, c => by simp [PyData.canLay0] at c
theorem dxAll_dp {G : Hp} : ∀ {vs : List V} {ds : List PyData}, DxAll K G vs ds → PyData.canLayAll0 ds = true → DpAll K G vs ds
  | _, _, .nil, _ => .nil
  | _, _, .cons h t, c => by
    simp only [PyData.canLayAll0, Bool.and_eq_true] at c
    exact .cons (dx_dp h c.1) (dxAll_dp t c.2)
end
end
structure Dz where
  d : PyData
instance : Rp Dz := ⟨fun K x v G => Dx K G v x.d, fun s h => dx_mono s h⟩
class Dm (α : Type) [Rp α] where
  toX : α → PyData
  dx : ∀ {K : Frag} {x : α} {v : V} {G : Hp}, Rp.rep K x v G → Dx K G v (toX x)
instance : Dm Int := ⟨.int, fun h => dp_dx (Pd.dp h)⟩
instance : Dm Bool := ⟨.bool, fun h => dp_dx (Pd.dp h)⟩
instance : Dm Str := ⟨.str, fun h => dp_dx (Pd.dp h)⟩
instance : Dm Unit := ⟨fun _ => .none, fun h => dp_dx (Pd.dp h)⟩
instance : Dm Dz := ⟨Dz.d, fun h => h⟩
instance {α : Type} [Rp α] : Dm (Dk Int α) := ⟨fun _ => .dict [], fun ⟨p, q, o, e, h, a, l⟩ => by subst e; exact .dct h⟩
section
variable {α β γ δ : Type} [Rp α] [Dm α] [Rp β] [Dm β] [Rp γ] [Dm γ] [Rp δ] [Dm δ] {K : Frag}
theorem dmAll {G : Hp} : ∀ {xs : List α} {vs : List V}, Al (fun x v => Rp.rep K x v G) xs vs → DxAll K G vs (xs.map Dm.toX)
  | [], [], _ => .nil
  | [], v :: vs, h => by have := h.1; simp at this
  | x :: xs, [], h => by have := h.1; simp at this
  | x :: xs, v :: vs, h => .cons (Dm.dx (h.2 0 x v rfl rfl)) (dmAll ⟨by have := h.1; simpa using this, fun i y w a b => h.2 (i + 1) y w a b⟩)
instance : Dm (List α) := ⟨fun xs => .list (xs.map Dm.toX), fun ⟨p, vs, e, h, al, l⟩ => by subst e; exact .lst (.inl (.inl h)) (dmAll al)⟩
instance : Dm (Tup α) := ⟨fun xs => .tuple (xs.l.map Dm.toX), fun ⟨p, vs, e, h, al, l⟩ => by subst e; exact .tup h (dmAll al)⟩
instance : Dm (α × β) := ⟨fun x => .tuple [Dm.toX x.1, Dm.toX x.2], fun ⟨p, a, b, e, h, r1, r2⟩ => by subst e; exact .tup h (.cons (Dm.dx r1) (.cons (Dm.dx r2) .nil))⟩
instance : Dm (T3 α β γ) := ⟨fun x => .tuple [Dm.toX x.a, Dm.toX x.b, Dm.toX x.c], fun ⟨p, a, b, d, e, h, r1, r2, r3⟩ => by subst e; exact .tup h (.cons (Dm.dx r1) (.cons (Dm.dx r2) (.cons (Dm.dx r3) .nil)))⟩
instance : Dm (T4 α β γ δ) := ⟨fun x => .tuple [Dm.toX x.a, Dm.toX x.b, Dm.toX x.c, Dm.toX x.d], fun ⟨p, a, b, d, f, e, h, r1, r2, r3, r4⟩ => by subst e; exact .tup h (.cons (Dm.dx r1) (.cons (Dm.dx r2) (.cons (Dm.dx r3) (.cons (Dm.dx r4) .nil))))⟩
end
section
variable {K : Frag}
/-! == a text, in (a text, a text) -/
def isD : PyData → Bool
  | .dict _ => true
  | _ => false
/-! isinstance -/
end
end Fw

namespace Fw
open PySem L2
end Fw

namespace Fw
open PySem L2
/-! ### the keys of a dict by numbers, walked -/
section
variable {c : Cn} {W0 : Wd} {X : WX} {As : List Sl} {α : Type} [Rp α]
end
end Fw

namespace Fw
open PySem L2
/-! ### xss[i][j] = y -/
section
variable {α : Type} [Rp α] {K : Frag}
theorem DRows.at {W : Wd} : ∀ {xs : List (List α)} {qs : List Addr} {j : Nat} {r : List α}, DRows K xs qs W → xs[j]? = some r → ∃ q vs, qs[j]? = some q ∧ W.G q = none ∧ W.H q = some (.lst vs) ∧ Al (fun x v => Rp.rep K x v W.G) r vs ∧ r.length ≤ sizeLine
  | [], _, _, _, _, h => by simp at h
  | x :: xs, [], _, _, h, _ => h.elim
  | x :: xs, q :: qs, 0, r, h, e => by
    cases e
    obtain ⟨g, vs, hh, al, l⟩ := h.1
    exact ⟨q, vs, rfl, g, hh, al, l⟩
  | x :: xs, q :: qs, j + 1, r, h, e => DRows.at (j := j) h.2 e
variable {c : Cn} {X : WX} {As : List Sl} {J S ρ : Type} {kr : ρ → Kd} {Ls : List Sl} {Js : J → List Sl} {B : Bd} {Bs : S → List Sl}
end
end Fw

namespace Fw
open PySem L2
/-! ### raise C('text'), C an own class without own __init__ -/
abbrev vE : List Value := [.type "ValueError", .type "Exception", .type "BaseException", .type "object"]
section
variable {J S ρ : Type} {c : Cn} {X : WX} {kr : ρ → Kd} {Ls : List Sl} {Js : J → List Sl} {B : Bd} {As : List Sl} {Bs : S → List Sl}
theorem d_raise0 {u : TS} {n : Str} {C : Addr} (hM : c.M n = .ref C) (lx : Lx Ls As) : Den c X kr Ls Js B (tSeq (fun _ σ H => X (.ref C) none σ H) u) As (.ex ⟨n, []⟩) Bs := fun D σ W a f =>
  f (.ref C) none σ W (lx_at lx a) ⟨hM.symm, rfl, fun p hp => absurd hp (by simp)⟩
end
theorem pmk_z {X : Cx} {C : Addr} {x m : Str} {j : Nat} {p p2 pos : Pos} (x_ : OexC X.K C) (q : PySem.W.excIn X.K C vE "ValueError.__new__" = true) (gC : X.mg x = some (.ref C)) (hg : Gl X x) (hdb : (x == ("__debug__" : Str)) = false := by decide) :
    PMk X (.Call (.Name x p) [.Constant (.str m) j p2] [] pos) (fun _ H Q => Q (.ref C) none H) :=
  pmk_own PySem.F.excBase_ValueError q gC x_.kC (raises_own x_.exC x_.tyC) hg hdb
end Fw

namespace Fw
open PySem PySem.Spec L2
open PyProof.Rows hiding St
/-! ### dict(zip(keys, values)) -/
end Fw
namespace Fw
open PySem L2
section
variable {c : Cn} {W0 : Wd} {X : WX} {As : List Sl} {β : Type} [Rp β] {K : Frag}
end
end Fw

namespace Fw
open PySem L2
/-! ### x < y of tuples and lists -/
section
variable {α β γ : Type} [Rp α] [Rp β] [Rp γ] [Pd α] [Pd β] [Pd γ] [DecidableEq α] [DecidableEq β] [DecidableEq γ] [Lt α] [Lt β] [Lt γ]
def llt : List α → List α → Bool
  | [], [] => false
  | [], _ :: _ => true
  | _ :: _, [] => false
  | x :: xs, y :: ys => if x = y then llt xs ys else Lt.lt x y
theorem llt_is : ∀ xs ys : List α, PyProof.Rows.lexLt PyProof.Rows.itemOrd (PySem.W.keyToksAll (xs.map Pd.pd)) (PySem.W.keyToksAll (ys.map Pd.pd)) = llt xs ys
  | [], [] => PyProof.Rows.lex_irrefl _
  | [], y :: ys => by
    rw [List.map_nil, List.map_cons]
    simp only [PySem.W.keyToksAll]
    rfl
  | x :: xs, [] => by
    rw [List.map_nil, List.map_cons]
    simp only [PySem.W.keyToksAll]
    rfl
  | x :: xs, y :: ys => by
    rw [List.map_cons, List.map_cons, PySem.W.dataLt_cons (Lt.al _ _), eqv_if rfl, llt_is xs ys, Lt.is]
    rfl
theorem llt_al : ∀ xs ys : List α, PySem.W.alikeAll (xs.map Pd.pd) (ys.map Pd.pd) = true
  | [], _ => by rw [List.map_nil, PySem.W.alikeAll]
  | x :: xs, [] => by simp [PySem.W.alikeAll]
  | x :: xs, y :: ys => by simp only [List.map_cons, PySem.W.alikeAll, Lt.al, llt_al xs ys, Bool.and_self]
instance : Lt (List α) := ⟨llt, fun a b => (PySem.W.dataLt_list _ _).trans (llt_is a b), fun a b => by
  show PySem.W.alike (.list _) (.list _) = true
  rw [PySem.W.alike]
  exact llt_al a b⟩
instance : Lt (Tup α) := ⟨fun a b => llt a.l b.l, fun a b => (PySem.W.dataLt_tuple _ _).trans (llt_is a.l b.l), fun a b => by
  show PySem.W.alike (.tuple _) (.tuple _) = true
  rw [PySem.W.alike]
  exact llt_al a.l b.l⟩
instance : Lt (T3 α β γ) := ⟨fun a b => if a.a = b.a then (if a.b = b.b then Lt.lt a.c b.c else Lt.lt a.b b.b) else Lt.lt a.a b.a, fun a b => by
  show PySem.W.dataLt (.tuple [Pd.pd a.a, Pd.pd a.b, Pd.pd a.c]) (.tuple [Pd.pd b.a, Pd.pd b.b, Pd.pd b.c]) = _
  rw [PySem.W.dataLt_tuple, PySem.W.dataLt_cons (Lt.al _ _), eqv_if rfl, PySem.W.dataLt_cons (Lt.al _ _), eqv_if rfl, PySem.W.dataLt_cons (Lt.al _ _), eqv_if rfl, Lt.is, Lt.is, Lt.is]
  by_cases q : a.a = b.a
  · rw [if_pos q, if_pos q]
    by_cases q1 : a.b = b.b
    · rw [if_pos q1, if_pos q1]
      by_cases q2 : a.c = b.c
      · rw [if_pos q2, q2, ← Lt.is, dataLt_self']; rfl
      · rw [if_neg q2]
    · rw [if_neg q1, if_neg q1]
  · rw [if_neg q, if_neg q], fun a b => by simp [Pd.pd, PySem.W.alike, PySem.W.alikeAll, Lt.al]⟩
end
section
variable {α : Type} [Rp α] [Pd α] [DecidableEq α] [Lt α] {K : Frag}
end
end Fw

namespace Fw
open PySem L2
/-! ### try .. except X: without a name -/
section
variable {X : Cx} {x : Str} {cv : Value} {body suite : List Stmt} {b₀ : Stmt} {np pos pos' : Pos} {tb : WX → TS} {ts : TS}
end
section
variable {c : Cn} {X : WX} {As : List Sl} {J S ρ : Type} {kr : ρ → Kd} {Ls : List Sl} {Js : J → List Sl} {B : Bd} {Bs : S → List Sl} {Js' : List Sl}
end
end Fw

namespace PySem
open Sem (wp)
open L2 PyProof.Rows
/-! ### enumerate(d): the keys of a locked dict with their places -/
section
variable {prog : Program} {w : World} {A : Around} {E : Value → Shared → Prop} {s : Shared}
end
end PySem
namespace Fw
open PySem L2 PySem.Spec
open PyProof.Rows hiding St
section
variable {c : Cn} {W0 : Wd} {X : WX} {As : List Sl} {α : Type} [Rp α]
end
end Fw

namespace Fw
open PySem L2
/-! ### a list of three things of unlike kinds, frozen -/
structure H3 (α β γ : Type) where
  a : α
  b : β
  c : γ
deriving DecidableEq
section
variable {α β γ : Type} [Rp α] [Rp β] [Rp γ]
instance : Rp (H3 α β γ) := ⟨fun K x v G => ∃ p a b c, v = .ref p ∧ G p = some (.lst [a, b, c]) ∧ Rp.rep K x.a a G ∧ Rp.rep K x.b b G ∧ Rp.rep K x.c c G,
  fun s ⟨p, a, b, c, e, h, r1, r2, r3⟩ => ⟨p, a, b, c, e, s _ _ h, Rp.mono s r1, Rp.mono s r2, Rp.mono s r3⟩⟩
variable {J S ρ : Type} {c : Cn} {X : WX} {kr : ρ → Kd} {Ls : List Sl} {Js : J → List Sl} {B : Bd} {As : List Sl} {Bs : S → List Sl} {W0 : Wd}
def R.to3H (m : R (H3 α β γ)) (k : α → β → γ → Out S J ρ) : Out S J ρ := m.to fun z => k z.a z.b z.c
omit [Rp α] [Rp β] [Rp γ] in
@[simp] theorem R.to3H_ok (x : H3 α β γ) (k : α → β → γ → Out S J ρ) : R.to3H (R.ok x) k = k x.a x.b x.c := rfl
end
end Fw

namespace Fw
open PySem L2
/-! ### a thing of one's own, or None -/
def ownO {α : Type} [Ob α] (K : Frag) (x : Option α) (v : V) (f : List Addr) (W : Wd) : Prop := match x with
  | none => v = .non ∧ f = []
  | some y => v ≠ .non ∧ Ob.own K y v f W
instance {α : Type} [Fz α] : Fz (Option α) where
  own := ownO
  keep := fun {K x v f W W'} h s n k => by
    cases x with
    | none => exact h
    | some y => exact ⟨h.1, Ob.keep h.2 s n k⟩
  foot := fun {K x v f W} h a ha => by
    cases x with
    | none =>
      have h' : v = .non ∧ f = [] := h
      rw [h'.2] at ha; cases ha
    | some y => exact Ob.foot h.2 a ha
  fz := fun {K x v f W} h => by
    cases x with
    | none => exact h.1
    | some y => exact ⟨h.1, Fz.fz h.2⟩
instance {α : Type} [Fz α] [UfO α] : UfO (Option α) := ⟨fun {K x v f W W'} t n k h => by
  cases x with
  | none => exact h
  | some y => exact ⟨h.1, UfO.uf t n k h.2⟩⟩
/-- no such thing is None -/
class NNo (α : Type) [Ob α] where
  nn : ∀ {K : Frag} {x : α} {v : V} {f : List Addr} {W : Wd}, Ob.own K x v f W → v ≠ .non
instance {α : Type} [Rp α] : NNo (List α) := ⟨fun ⟨p, vs, e, _⟩ => by rw [e]; exact fun z => nomatch z⟩
instance {κ α : Type} [DecidableEq κ] [Rp κ] [DKy κ] [Rp α] : NNo (Dk κ α) := ⟨fun ⟨p, vs, e, _⟩ => by rw [e]; exact fun z => nomatch z⟩
instance {κ α : Type} [DecidableEq κ] [Rp κ] [DKy κ] [Rp α] : NNo (Dq κ α) := ⟨fun ⟨p, vs, e, _⟩ => by rw [e]; exact fun z => nomatch z⟩
instance {α β : Type} [Ob α] [Rp β] : NNo (PF α β) := ⟨fun ⟨p, va, vb, e, _⟩ => by rw [e]; exact fun z => nomatch z⟩
/-- a pair of a thing of one's own and a frozen one may be frozen -/
instance {α β : Type} [Rp α] [Rp β] : Rp (PF α β) := ⟨fun K x v G => ∃ p a b, v = .ref p ∧ SqT K G p [a, b] ∧ Rp.rep K x.a a G ∧ Rp.rep K x.b b G, fun s ⟨p, a, b, e, h, r1, r2⟩ => ⟨p, a, b, e, s.sqt h, Rp.mono s r1, Rp.mono s r2⟩⟩
instance {α β : Type} [Fz α] [Rp β] : Fz (PF α β) where
  fz := fun {K x v f W} ⟨p, va, vb, e, hp, o, r⟩ => ⟨p, va, vb, e, .inl (.inl (Wd.fz_sub _ _ hp)), Fz.fz o, Rp.mono Wd.fz_sub r⟩
section
variable {J S ρ α β : Type} {c : Cn} {X : WX} {kr : ρ → Kd} {Ls : List Sl} {Js : J → List Sl} {B : Bd} {As : List Sl} {Bs : S → List Sl} {W0 : Wd} {K : Frag}
end
instance {α : Type} [Rp α] : Pt (Dq Str α) := ⟨"dict", fun ⟨p, q, e, h, _⟩ => by subst e; exact .base (.dK h)⟩
instance {α β : Type} [Rp α] [Rp β] : Pt (PF α β) := ⟨"tuple", fun ⟨p, a, b, e, h, _⟩ => by subst e; exact sqt_ty h⟩
end Fw

namespace Fw
open PySem L2
/-! ### sum(xs, []) of a list of lists -/
section
open PySem.Spec PyProof.Rows PySem.Calls
open Sem (wp)
variable {prog : Program} {w : World} {A : Around} {R : Result → Shared → Prop}
end
section
open PySem.Spec PyProof.Rows
variable {X : Cx}
end
section
variable {α : Type} [Rp α]
end
end Fw

namespace Fw
open PySem L2
/-! ### x.setdefault(k, v), x one's own dict by texts -/
section
variable {J S ρ α : Type} [Rp α] {c : Cn} {X : WX} {kr : ρ → Kd} {Ls : List Sl} {Js : J → List Sl} {B : Bd} {As : List Sl} {Bs : S → List Sl}
end
/-! ### x[k] = v, x one's own dict that is not locked -/
section
variable {κ α : Type} [DecidableEq κ] [Rp κ] [DKy κ] [Rp α] {J S ρ : Type} {c : Cn} {X : WX} {kr : ρ → Kd} {Ls : List Sl} {Js : J → List Sl} {B : Bd} {As : List Sl} {Bs : S → List Sl}
end
section
variable {α : Type} [Fz α] [NNo α] {J S ρ : Type} {c : Cn} {X : WX} {kr : ρ → Kd} {Ls : List Sl} {Js : J → List Sl} {B : Bd} {As : List Sl} {Bs : S → List Sl}
end
end Fw

namespace Fw
open PySem L2
/-! ### r = xss[a]; r[b] = y: a row by a name of its own, which is not looked at behind it -/
section
variable {α : Type} [Rp α] {c : Cn} {X : WX} {As : List Sl} {J S ρ : Type} {kr : ρ → Kd} {Ls : List Sl} {Js : J → List Sl} {B : Bd} {Bs : S → List Sl}
end
end Fw

namespace Fw
open PySem L2
/-! ### == of lists of values of many kinds -/
section
variable {α β : Type} [Rp α] [Dn α] [Rp β] [Dn β] {K : Frag}
theorem dn_shaped {x : α} {v : V} {G : Hp} (h : Rp.rep K x v G) (hn : Dn.n α ≤ 64) : SeqAt.shaped (Dn.toD x) = true := by
  unfold SeqAt.shaped
  rw [Bool.and_eq_true]
  exact ⟨Dn.lay h, decide_eq_true (Nat.le_trans (Dn.dep h) hn)⟩
def eqDn (x : α) (y : β) : Bool := PyData.eqv (Dn.toD x) (Dn.toD y)
theorem o_neDn (hn : Dn.n α ≤ 64 := by decide) (hm : Dn.n β ≤ 64 := by decide) : Op2 (rNeD K) (fun x : α => kFr K x) (fun x : β => kFr K x) (fun x y => .ok (!eqDn x y)) (fun z : Bool => kFr K z) := fun x y W0 W v w hv hw Q q =>
  ⟨Dn.toD x, Dn.toD y, dp_mono W.sub (Dn.dp hv), dp_mono W.sub (Dn.dp hw), dn_shaped hv hn, dn_shaped hw hm, q _ W (Le.refl _) rfl⟩
end
end Fw

namespace PySem.OrdBoolInt
open PyProof.Rows PyProof PySem.SeqAt
section
variable {prog : Program} {w : World} {A : Around} {E : Value → Shared → Prop} {s : Shared} {Q : Value → Shared → Prop}
end
end PySem.OrdBoolInt
namespace Fw
open PySem PySem.Spec PyProof.Rows L2
/-! ### i <= x and x < i of a value of many kinds that is a whole number or a truth -/
def nb : Int ⊕ Bool → Int
  | .inl i => i
  | .inr b => if b = true then 1 else 0
section
variable {n : Nat} {K : Frag}
end
end Fw

namespace Fw
open PySem PySem.Spec PyProof.Rows L2
/-! ### xs.index(k) of a list of whole numbers -/
/-! ### a tuple of some alike things, one partial -/
end Fw

namespace Fw
open PySem PySem.Spec PyProof.Rows L2
/-! ### (a dict, a number) == (a dict, a number): true where it is -/
/-- the world with more things -/
def exG (W : Wd) (H' : Hp) : Hp := fun a => match W.H a with
  | some _ => W.G a
  | none => match H' a with
    | some u => if imm u = true then some u else none
    | none => none
theorem exG_old {W : Wd} {H' : Hp} {a : Addr} {z : HO} (h : W.H a = some z) : exG W H' a = W.G a := by unfold exG; rw [h]
theorem exG_new {W : Wd} {H' : Hp} {a : Addr} {u : HO} (h : W.H a = none) (h2 : H' a = some u) : exG W H' a = if imm u = true then some u else none := by unfold exG; rw [h]; dsimp only; rw [h2]
theorem exG_no {W : Wd} {H' : Hp} {a : Addr} (h : W.H a = none) (h2 : H' a = none) : exG W H' a = none := by unfold exG; rw [h]; dsimp only; rw [h2]
def Wd.ext (W : Wd) (H' : Hp) (e : Ext W.H H') : Wd where
  G := exG W H'
  H := H'
  sub := fun a o h => by
    cases h1 : W.H a with
    | some z => rw [exG_old h1] at h; exact e a o (W.sub a o h)
    | none =>
      cases h2 : H' a with
      | some u =>
        rw [exG_new h1 h2] at h
        split at h
        · exact h
        · cases h
      | none => rw [exG_no h1 h2] at h; cases h
  im := fun a u h i => by
    cases h1 : W.H a with
    | some z =>
      have := e a z h1
      rw [h] at this
      cases this
      rw [exG_old h1]
      exact W.im a u h1 i
    | none => rw [exG_new h1 h, if_pos i]
theorem Le.ext {W : Wd} {H' : Hp} {e : Ext W.H H'} : Le W (W.ext H' e) where
  g := fun a o h => by
    show exG W H' a = some o
    rw [exG_old (W.sub a o h)]
    exact h
  h := e
  o := fun a h n => by
    show exG W H' a = none
    cases h1 : W.H a with
    | some z => rw [exG_old h1]; exact h
    | none => exact absurd h1 n
section
variable {c : Cn} {W0 : Wd} {X : WX} {As : List Sl} {α : Type} [Rp α]
variable [DecidableEq α] [Pd α]
end
end Fw

namespace Fw
open PySem L2
/-! ### a part of an expression evaluated ahead: places where a part stands first -/
/-- from here te brings about P -/
def Est (te : TE) (σ : L2.St) (H : Hp) (P : V → Hp → Prop) : Prop := ∀ Q : VK, (∀ v H1, P v H1 → Q v H1) → te σ H Q
section
variable {c : Cn} {W0 : Wd} {As : List Sl}
def HsE (c : Cn) (W0 : Wd) (As : List Sl) (F : TE → TE) : Prop := ∀ (te : TE) σ W P, At c.K W0 As σ W → Est te σ W.H P → ∀ Q : VK, (∀ v H1, P v H1 → F (tC v) σ H1 Q) → F te σ W.H Q
def HsA (c : Cn) (W0 : Wd) (As : List Sl) (F : TE → TA) : Prop := ∀ (te : TE) σ W P, At c.K W0 As σ W → Est te σ W.H P → ∀ Q : List V → Hp → Prop, (∀ v H1, P v H1 → F (tC v) σ H1 Q) → F te σ W.H Q
def HsT (c : Cn) (W0 : Wd) (As : List Sl) (F : TE → TT) : Prop := ∀ (te : TE) σ W P, At c.K W0 As σ W → Est te σ W.H P → ∀ Q : Bool → Hp → Prop, (∀ v H1, P v H1 → F (tC v) σ H1 Q) → F te σ W.H Q
def HsI (c : Cn) (W0 : Wd) (As : List Sl) (F : TE → TI) : Prop := ∀ (te : TE) σ W P, At c.K W0 As σ W → Est te σ W.H P → ∀ Q : It → Hp → Prop, (∀ v H1, P v H1 → F (tC v) σ H1 Q) → F te σ W.H Q
def HsS (c : Cn) (W0 : Wd) (As : List Sl) (F : TE → TS) : Prop := ∀ (te : TE) σ W P, At c.K W0 As σ W → Est te σ W.H P → ∀ D : Ends, (∀ v H1, P v H1 → F (tC v) D σ H1) → F te D σ W.H
theorem hs_id : HsE c W0 As fun t => t := fun te σ W P a e Q h => e Q h
theorem hs_opL {F : TE → TE} {r : R2} {tb : TE} (h : HsE c W0 As F) : HsE c W0 As fun t => tOp r (F t) tb := fun te σ W P a e Q z => h te σ W P a e _ z
theorem hs_opC {F : TE → TE} {r : R2} {x : V} (h : HsE c W0 As F) : HsE c W0 As fun t => tOp r (tC x) (F t) := fun te σ W P a e Q z => h te σ W P a e _ z
/-- a name that holds something -/
def Set_ (c : Cn) (W0 : Wd) (As : List Sl) (i : Nat) : Prop := ∀ σ W, At c.K W0 As σ W → ∃ v, σ[i]? = some (some v)
theorem set_fr {i : Nat} {α : Type} [Rp α] {x : α} (h : Exp c W0 (tVar i) As (kFr c.K x)) : Set_ c W0 As i := fun σ W a => by
  obtain ⟨v, hv, _⟩ := h σ W a W (Le.refl _) (fun _ _ => True) fun _ _ _ _ => trivial
  exact ⟨v, hv⟩
theorem ha_here {F : TE → TE} {ta : TA} (h : HsE c W0 As F) : HsA c W0 As fun t => tCons (F t) ta := fun te σ W P a e Q z => h te σ W P a e _ z
theorem ha_C {F : TE → TA} {x : V} (h : HsA c W0 As F) : HsA c W0 As fun t => tCons (tC x) (F t) := fun te σ W P a e Q z => h te σ W P a e _ z
theorem ha_V {F : TE → TA} (i : Nat) (hi : Set_ c W0 As i) (h : HsA c W0 As F) : HsA c W0 As fun t => tCons (tVar i) (F t) := fun te σ W P a e Q z => by
  obtain ⟨w, hw⟩ := hi σ W a
  refine ⟨w, hw, h te σ W P a e _ fun v H1 p => ?_⟩
  obtain ⟨w', hw', q⟩ := z v H1 p
  rw [hw] at hw'
  cases hw'
  exact q
theorem hs_call {F : TE → TA} {sp : Sp} {E : L2.St → XK} (h : HsA c W0 As F) : HsE c W0 As fun t => tCallS sp E (F t) := fun te σ W P a e Q z => h te σ W P a e _ z
theorem hs_tup {F : TE → TA} (h : HsA c W0 As F) : HsE c W0 As fun t => tTup (F t) := fun te σ W P a e Q z => h te σ W P a e _ z
theorem ht_test {F : TE → TE} (h : HsE c W0 As F) : HsT c W0 As fun t => tTest (F t) := fun te σ W P a e Q z => h te σ W P a e _ z
theorem hs_asg {F : TE → TE} {g : TG} {u : TS} (h : HsE c W0 As F) : HsS c W0 As fun t => tSeq (tAsg (F t) g) u := fun te σ W P a e D z => h te σ W P a e _ z
theorem hs_ret {F : TE → TE} {u : TS} (h : HsE c W0 As F) : HsS c W0 As fun t => tSeq (tRet (F t)) u := fun te σ W P a e D z => h te σ W P a e _ z
theorem hs_drop {F : TE → TE} {u : TS} (h : HsE c W0 As F) : HsS c W0 As fun t => tSeq (tDrop (F t)) u := fun te σ W P a e D z => h te σ W P a e _ z
theorem hs_if {F : TE → TT} {t1 t2 u : TS} (h : HsT c W0 As F) : HsS c W0 As fun t => tSeq (tIfS (F t) t1 t2) u := fun te σ W P a e D z => h te σ W P a e _ z
theorem hs_for {F : TE → TI} {g : TG} {tb u : TS} (h : HsI c W0 As F) : HsS c W0 As fun t => tSeq (tFor (F t) g tb) u := fun te σ W P a e D z => h te σ W P a e _ z
theorem hi_rng {F : TE → TA} (h : HsA c W0 As F) : HsI c W0 As fun t => iRng1 (F t) := fun te σ W P a e Q z => h te σ W P a e _ z
/-- xs.m(..): the list is known ahead -/
theorem hs_bm {α : Type} [Rp α] {F : TE → TA} {r : V → List V → Hp → VK → Prop} {pin : Option V} {xs : List α} (i : Nat) (hi : As[i]? = some (.ow pin xs)) (h : HsA c W0 As F) : HsE c W0 As fun t => tBM c.K "list" r (tVar i) (F t) := fun te σ W P a e Q z => by
  obtain ⟨w, fp, hw, ⟨p, vs, ew, ef, g, hh, al, l⟩, _⟩ := a.varO hi
  subst ew ef
  refine ⟨_, hw, .inl ⟨rfl, vs, .inl (.inl hh)⟩, h te σ W P a e _ fun v H1 p => ?_⟩
  obtain ⟨w', hw', _, q⟩ := z v H1 p
  rw [hw] at hw'
  cases hw'
  exact q
end
/-! ### a call that changes x and tells a number, within a statement -/
section
variable {c : Cn} {X : WX} {As : List Sl} {J S ρ α : Type} {kr : ρ → Kd} {Ls : List Sl} {Js : J → List Sl} {B : Bd} {Bs : S → List Sl}
theorem d_hoistIO {τ τ' : Type} [Args τ] [Args τ'] [Ob α] {f : τ → α → τ' → R (Int × α)} {ta : TA} {m : R (τ × τ')} {x : α} {pin : Option V} {t : TS} {F : TE → TS} {k : Int → α → Out S J ρ} (i : Nat) (hi : As[i]? = some (.ow pin x)) (lx : Lx Ls As)
    (h : Axo c B.W0 X ta As i m) (hs : HsS c B.W0 As F) (et : t = F (tCallS (spIO c f fun n : Int => kFr c.K n) (WE X) ta)) (hk : ∀ (b : Int) (y : α), Den c X kr Ls Js B (F (tC (.int b))) (As.set i (.ow pin y)) (k b y) Bs) :
    Den c X kr Ls Js B t As (m.to fun z => (f z.1 x z.2).np.to fun r => k r.1 r.2) Bs := fun D σ W a fn => by
  subst et
  obtain ⟨w, fp, hw, _⟩ := a.varO hi
  have h' := h σ W w a hw
  cases m with
  | no => exact False.elim fn
  | ex e =>
    refine hs _ σ W (fun _ _ => False) a (fun Q _ => ?_) D fun _ _ z => z.elim
    exact h' W (Le.refl _) _ fun cls d W2 e2 z => fn cls d σ W2 (lx_at lx (a.mono e2)) z
  | ok z =>
    have fn' : Fin c X kr Ls Js B Bs D ((f z.1 x z.2).np.to fun r => k r.1 r.2) := fn
    cases hf : f z.1 x z.2 with
    | no => rw [hf] at fn'; exact False.elim fn'
    | ex e => rw [hf] at fn'; exact False.elim fn'
    | ok r =>
      rw [hf] at fn'
      refine hs _ σ W (fun v H1 => v = .int r.1 ∧ ∃ W3, H1 = W3.H ∧ At c.K B.W0 (As.set i (.ow pin r.2)) σ W3) a (fun Q q => ?_) D ?_
      · refine h' W (Le.refl _) _ fun vs W2 e2 ⟨v1, v2, ev, r1, r2⟩ => ?_
        obtain ⟨w', fp', hw', o, n0, chg⟩ := (a.mono e2).chg (β := α) (y := r.2) hi
        rw [hw] at hw'
        cases hw'
        refine ⟨W2, z.1, x, z.2, v1, w, v2, fp', rfl, ev, r1, o, r2, ?_⟩
        rw [hf]
        exact fun u W3 f3 lx3 hu o3 h3 => q u W3.H ⟨hu, W3, rfl, chg W3 f3 lx3.g lx3.o lx3.h o3 h3⟩
      · rintro v H1 ⟨rfl, W3, rfl, a3⟩
        exact hk r.1 r.2 D σ W3 a3 fn'
/-- a text evaluated ahead -/
theorem d_hoistS {te : TE} {m : R Str} {t : TS} {F : TE → TS} {k : Str → Out S J ρ} (lx : Lx Ls As) (h : Exr c B.W0 X te As m fun x => kFr c.K x) (hs : HsS c B.W0 As F) (et : t = F te) (hk : ∀ s : Str, SOk s → Den c X kr Ls Js B (F (tC (.str s))) As (k s) Bs) :
    Den c X kr Ls Js B t As (m.to k) Bs := fun D σ W a fn => by
  subst et
  have h' := h σ W a
  cases m with
  | no => exact False.elim fn
  | ex e =>
    refine hs _ σ W (fun _ _ => False) a (fun Q _ => ?_) D fun _ _ z => z.elim
    exact h' W (Le.refl _) _ fun cls d W2 e2 z => fn cls d σ W2 (lx_at lx (a.mono e2)) z
  | ok s =>
    refine hs _ σ W (fun v H1 => v = .str s ∧ SOk s ∧ ∃ W3, H1 = W3.H ∧ At c.K B.W0 As σ W3) a (fun Q q => ?_) D ?_
    · exact h' W (Le.refl _) _ fun v W2 e2 r => q v W2.H ⟨r.1, r.2, W2, rfl, a.mono e2⟩
    · rintro v H1 ⟨rfl, sk, W3, rfl, a3⟩
      exact hk s sk D σ W3 a3 fn
end
end Fw

namespace Fw
open PySem L2
/-! ### x = xs.pop(i) -/
theorem Al.erase {α : Type} {P : α → V → Prop} {xs : List α} {vs : List V} (h : Al P xs vs) (i : Nat) : Al P (xs.eraseIdx i) (vs.eraseIdx i) := by
  refine ⟨by rw [List.length_eraseIdx, List.length_eraseIdx, h.1], fun j y w a b => ?_⟩
  rw [List.getElem?_eraseIdx] at a b
  split at a
  · rename_i q
    rw [if_pos q] at b
    exact h.2 j y w a b
  · rename_i q
    rw [if_neg q] at b
    exact h.2 (j + 1) y w a b
@[irreducible] def R.popI {α : Type} (xs : List α) (i : Int) : R (α × List α) := if 0 ≤ i ∧ i < 2 ^ 63 then (match xs[i.toNat]? with
  | some y => .ok (y, xs.eraseIdx i.toNat)
  | none => .no) else .no
section
variable {J S ρ α : Type} {c : Cn} {X : WX} {kr : ρ → Kd} {Ls : List Sl} {Js : J → List Sl} {B : Bd} {As : List Sl} {Bs : S → List Sl}
theorem d_popI [Rp α] {pin : Option V} {te : TE} {u : TS} {xs : List α} {n : Int} {k : α → List α → Out S J ρ} (i j : Nat) (ij : i ≠ j) (hi : As[i]? = some (.ow pin xs)) (hte : Exp c B.W0 te As (kFr c.K n)) (hk : ∀ (y : α) (ys : List α), Den c X kr Ls Js B u ((As.set i (.ow pin ys)).set j (.fr y)) (k y ys) Bs) :
    Den c X kr Ls Js B (tSeq (tAsg (tBM c.K "list" rPopAt (tVar i) (tCons te tNil)) (gName j)) u) As ((R.popI xs n).to fun r => k r.1 r.2) Bs := fun D σ W a f => by
  unfold R.popI at f
  by_cases hn : 0 ≤ n ∧ n < 2 ^ 63
  case neg => rw [if_neg hn] at f; exact False.elim f
  rw [if_pos hn] at f
  obtain ⟨w, fp, hw, rw_, n0, chg⟩ := a.chg (β := List α) (y := xs.eraseIdx n.toNat) hi
  obtain ⟨p, vs, ew, ef, g, hh, al, l⟩ := rw_
  subst ew ef
  refine ⟨_, hw, .inl ⟨rfl, vs, .inl (.inl hh)⟩, ?_⟩
  cases hy : xs[n.toNat]? with
  | none => rw [hy] at f; exact False.elim f
  | some y =>
    rw [hy] at f
    have hlt := (List.getElem?_eq_some_iff.mp hy).1
    have hv : ∃ v, vs[n.toNat]? = some v := ⟨_, List.getElem?_eq_getElem (by rw [← al.1]; exact hlt)⟩
    obtain ⟨v, hv⟩ := hv
    have r : Rp.rep c.K y v W.G := al.2 _ y v hy hv
    refine hte σ W a W (Le.refl _) _ fun iv W2 e2 hiv => ?_
    have ev : iv = .int n := hiv
    subst ev
    have g2 : W2.G p = none := e2.o p g (by rw [hh]; exact fun z => nomatch z)
    refine ⟨p, vs, n, n.toNat, v, rfl, rfl, e2.h _ _ hh, by omega, hn.2, ?_, hv, ?_⟩
    · unfold seqIndex?
      have := al.1
      simp
      omega
    · obtain ⟨w', fp', hw', rw', n0', chg'⟩ := (a.mono e2).chg (β := List α) (y := xs.eraseIdx n.toNat) hi
      rw [hw] at hw'
      cases hw'
      obtain ⟨p', vs', ep, ef', _⟩ := rw'
      cases ep
      subst ef'
      have a3 := chg' (W2.mt p (.lst (vs.eraseIdx n.toNat)) g2) [p] (Inc.refl _) (fun b _ hb _ => hb) (fun b hb n => mut_keep g2 b hb n) ⟨p, _, rfl, rfl, g2, upd_same, al_mono (al.erase _) e2.g, Nat.le_trans (List.length_eraseIdx_le _ _) l⟩ (fun b hb => .inl hb)
      exact hk y (xs.eraseIdx n.toNat) D _ _ (a3.setF (show Rp.rep c.K y v W2.G from Rp.mono e2.g r)) f
end
/-! ### a def that changes what it is handed, called with a new thing that nobody else knows -/
section
variable {c : Cn} {W0 : Wd} {X : WX} {As : List Sl}
theorem r_callN {α ρ : Type} [Ob α] {f : Unit → α → Unit → R (ρ × α)} {kr : ρ → Kd} {te : TE} {m : R α} (pl : Plain kr) (h : Exr c W0 X te As m fun x => kNw c.K x) :
    Exr c W0 X (tCallS (spIO c f kr) (WE X) (tCons te tNil)) As (m.bind fun x => (f () x ()).np.bind fun r => .ok r.1) kr := fun σ W a => by
  have h' := h σ W a
  match m, h' with
  | .no, _ => trivial
  | .ex e, h' =>
    intro W1 e1 Q q
    exact h' W1 e1 _ q
  | .ok x, h' =>
    show SatR ((f () x ()).np.bind fun r => .ok r.1) _ _
    cases hf : f () x () with
    | no => trivial
    | ex e => trivial
    | ok r =>
      intro W1 e1 Q q
      refine h' W1 e1 _ fun v W2 e2 ⟨fp, o, n⟩ => ?_
      refine ⟨W2, (), x, (), [], v, [], fp, rfl, rfl, rfl, o, rfl, ?_⟩
      rw [hf]
      intro u W3 fp' lx hu o3 hn
      refine q u W3 ?_ (pl _ _ _ _ _ hu)
      refine ⟨e2.g.trans lx.g, fun b ob hb => ?_, fun b hb nb => ?_⟩
      · have hb2 := e2.h _ _ hb
        have hnf : b ∉ fp := fun hm => by
          have := n b hm
          rw [hb] at this
          cases this
        rw [lx.h b hnf (by rw [hb2]; exact fun z => nomatch z)]
        exact hb2
      · have hnf : b ∉ fp := fun hm => nb (n b hm)
        have g2 := e2.o b hb nb
        refine lx.o b hnf g2 ?_
        cases hq : W1.H b with
        | none => exact absurd hq nb
        | some ob => rw [e2.h _ _ hq]; exact fun z => nomatch z
end
end Fw

namespace Fw
open PySem L2
open PyProof PyProof.Rows
/-! ### a op b op c op d -/
section
variable {c : Cn} {W0 : Wd} {X : WX} {As Bs : List Sl} {α β γ δ : Type}
end
/-! ### tuples of any length, as values of many kinds -/
section
variable {α : Type} [Rp α] [Dn α] {K : Frag}
end
end Fw

namespace Fw
open PySem L2
/-! ### any frozen thing told by a call that changes, evaluated ahead -/
section
variable {c : Cn} {X : WX} {As : List Sl} {J S ρ α : Type} {kr : ρ → Kd} {Ls : List Sl} {Js : J → List Sl} {B : Bd} {Bs : S → List Sl}
theorem e_cst {ρ' : Type} [Rp ρ'] {W0 : Wd} {x : ρ'} {v : V} (h : Rp.rep c.K x v W0.G) : Exp c W0 (tC v) As (kFr c.K x) := fun σ W a W1 e Q q => q v W1 (Le.refl _) (Rp.mono (a.le.trans e).g h)
theorem fin_re {Wb : Wd} {eb : Le B.W0 Wb} {D : Ends} {m : Out S J ρ} (f : Fin c X kr Ls Js B Bs D m) : Fin c X kr Ls Js (B.re Wb eb) Bs D m := by
  revert f
  cases m with
  | nx s => exact fun f σ W a => f σ W (a.re eb)
  | rt r => exact fun f v W l p => f v W (eb.trans l) p
  | bk j => exact fun f σ W a => f σ W (a.re eb)
  | ct j => exact fun f σ W a => f σ W (a.re eb)
  | ex e => exact fun f => f
  | no => exact fun f => f
theorem d_hoistX {ρ' τ τ' : Type} [Rp ρ'] [Args τ] [Args τ'] [Ob α] {f : τ → α → τ' → R (ρ' × α)} {ta : TA} {m : R (τ × τ')} {x : α} {pin : Option V} {t : TS} {F : TE → TS} {k : ρ' → α → Out S J ρ} (i : Nat) (hi : As[i]? = some (.ow pin x)) (lx : Lx Ls As)
    (h : Axo c B.W0 X ta As i m) (hs : HsS c B.W0 As F) (et : t = F (tCallS (spIO c f fun n : ρ' => kFr c.K n) (WE X) ta)) (hk : ∀ (b : ρ') (y : α) (B : Bd) (v : V), Rp.rep c.K b v B.W0.G → Den c X kr Ls Js B (F (tC v)) (As.set i (.ow pin y)) (k b y) Bs) :
    Den c X kr Ls Js B t As (m.to fun z => (f z.1 x z.2).np.to fun r => k r.1 r.2) Bs := fun D σ W a fn => by
  subst et
  obtain ⟨w, fp, hw, _⟩ := a.varO hi
  have h' := h σ W w a hw
  cases m with
  | no => exact False.elim fn
  | ex e =>
    refine hs _ σ W (fun _ _ => False) a (fun Q _ => ?_) D fun _ _ z => z.elim
    exact h' W (Le.refl _) _ fun cls d W2 e2 z => fn cls d σ W2 (lx_at lx (a.mono e2)) z
  | ok z =>
    have fn' : Fin c X kr Ls Js B Bs D ((f z.1 x z.2).np.to fun r => k r.1 r.2) := fn
    cases hf : f z.1 x z.2 with
    | no => rw [hf] at fn'; exact False.elim fn'
    | ex e => rw [hf] at fn'; exact False.elim fn'
    | ok r =>
      rw [hf] at fn'
      refine hs _ σ W (fun v H1 => ∃ W3, H1 = W3.H ∧ Rp.rep c.K r.1 v W3.G ∧ At c.K B.W0 (As.set i (.ow pin r.2)) σ W3) a (fun Q q => ?_) D ?_
      · refine h' W (Le.refl _) _ fun vs W2 e2 ⟨v1, v2, ev, r1, r2⟩ => ?_
        obtain ⟨w', fp', hw', o, n0, chg⟩ := (a.mono e2).chg (β := α) (y := r.2) hi
        rw [hw] at hw'
        cases hw'
        refine ⟨W2, z.1, x, z.2, v1, w, v2, fp', rfl, ev, r1, o, r2, ?_⟩
        rw [hf]
        exact fun u W3 f3 lx3 hu o3 h3 => q u W3.H ⟨W3, rfl, hu, chg W3 f3 lx3.g lx3.o lx3.h o3 h3⟩
      · rintro v H1 ⟨W3, rfl, rv, a3⟩
        exact hk r.1 r.2 (B.re (B.W0.rb W3 a3.le) (Le.rb0 a3.le)) v rv D σ W3 a3.rb (fin_re fn')
end
/-! ### a body that may raise, and that may end without a return -/
def Out.finX {ρ : Type} (m : Out Unit Unit ρ) (d : Unit → R ρ) : R ρ := match m with
  | .nx s => d s
  | .rt r => .ok r
  | .ex e => .ex e
  | _ => .no
section
variable {c : Cn} {τ : Type}
theorem fn_finX [Args τ] {f : τ → R Unit} {m : τ → Out Unit Unit Unit} {N : List Str} {n : Nat} {t : TS} {vs : List V} {H : Hp} {Q : VK} {E : XK} {Bs : Unit → List Sl} (h : spF c f (fun x => kFr c.K x) vs H Q E) (hN : N.length = Args.num τ + n) (hm : ∀ x, f x = (m x).finX fun _ => .ok ())
    (hd : ∀ (W : Wd) x, Den c (x0 E) (fun x : Unit => kFr c.K x) (uns N.length) (fun _ : Unit => []) (bd0 W) t (Args.sl x ++ uns n) (m x) Bs) : t { nx := fun _ H' => Q .non H', rt := Q } (start N vs) H := by
  obtain ⟨W, x, eh, r, k⟩ := h
  subst eh
  have hl := Args.len r
  have a0 : At c.K W (Args.sl x ++ uns n) (start N vs) W := by
    unfold L2.start
    rw [hl, hN, Nat.add_sub_cancel_left]
    exact Args.at_ r (at_uns n)
  refine hd W x _ _ W a0 ?_
  rw [hm x] at k
  revert k
  generalize m x = o
  intro k
  cases o with
  | nx s => exact fun σ' W' a => k .non W' a.le rfl
  | rt r => exact fun v W' l p => k v W' l p
  | bk j => exact k.elim
  | ct j => exact k.elim
  | ex e => exact fun cls d σ' W' a z => k cls d W' a.le z
  | no => exact k.elim
end
end Fw

namespace Fw
open PySem L2
section
variable {J S ρ α β : Type} {c : Cn} {X : WX} {kr : ρ → Kd} {Ls : List Sl} {Js : J → List Sl} {B : Bd} {As : List Sl} {Bs : S → List Sl}
end
section
variable {φ φ' α κ : Type} {n cls : Str} [Fs φ] [Fs φ'] {J S ρ' : Type} {c : Cn} {X : WX} {kr : ρ' → Kd} {Ls : List Sl} {Js : J → List Sl} {B : Bd} {As : List Sl} {Bs : S → List Sl} {C : Addr} {ns : List Str} {x : Ins cls φ} {pin : Option V}
variable [DecidableEq κ] [Rp κ] [DKy κ]
theorem d_dputF2 [Rp α] {te ti : TE} {u : TS} {mo : R α} {no : R κ} {k : Ins cls φ' → Out S J ρ'} {s : Sel φ φ' n (Dq κ α) (Dq κ α)} {i : Nat} {g : Dq κ α} {v : Dq κ α → Ins cls φ'} (ct : ClT c.K cls C ns) (hn : n ∈ ns) (hi : As[i]? = some (.ow pin x)) (lx : Lx Ls As) (h : Exr c B.W0 X te As mo fun x => kFr c.K x) (hk1 : Exr c B.W0 X ti As no fun x => kFr c.K x)
    (hg : s.get x.f = g) (hv : ∀ d, Ins.mk (s.set x.f d) = v d) (hk : ∀ z : Ins cls φ', Den c X kr Ls Js B u (As.set i (.ow pin z)) (k z) Bs) :
    Den c X kr Ls Js B (tSeq (sDPut (tFld c.K (tVar i) n) ti te) u) As (mo.to fun y => no.to fun j => (R.dput (Dk.mk g.l) j y).to fun z => lt (v (Dq.mk z.l)) k) Bs := d_dputF s ct hn i hi lx h hk1 g hg v hv hk
end
end Fw

namespace Fw
open PySem L2 PySem.Spec
open PyProof.Rows hiding St
/-! ### isinstance of a caught exception, or of None -/
def rIsKO (K : Frag) : List V → Hp → VK → Prop := fun xs H Q => rIsK K xs H Q ∨ ∃ (c : V) (u : Value), xs = [.non, c] ∧ ClsV c u ∧ PySem.W.kitOne K (.type "NoneType") u = some false ∧ Q (.bl false) H
theorem call_isKO {X : Cx} : CallR X (.builtin "isinstance") (rIsKO X.K) := by
  intro pins s σ H xs us Q I r h
  rcases h with h | ⟨c, u, rfl, k, e, q⟩
  · exact call_isK pins s σ H xs us Q I r h
  · exact call_isi pins s σ H _ us Q I r ⟨.non, c, _, u, false, rfl, k, .base .non, e, q⟩
def R.isKO (tb : List (Str × Bool)) (x : Option Exc) : R Bool := match x with
  | none => .ok false
  | some e => R.isK tb e
section
variable {K : Frag}
theorem o_isKO {cv : V} {cV : Value} (tb : List (Str × Bool)) (hcv : ∀ u, RelV cv u → u = cV) (htb : ∀ p ∈ tb, ∀ C, PySem.W.nsIn K mainGlobals p.1 = some (some (.ref C)) → ExcC K C ∧ PySem.W.kitOne K (.ref C) cV = some p.2) (hcl : ClsV cv cV) (hno : PySem.W.kitOne K (.type "NoneType") cV = some false) :
    OpA (rIsKO K) (fun z : Option Exc × Unit => aCons (kFr K z.1) (aCons (kV cv) aNil)) (fun z => R.isKO tb z.1) (fun b : Bool => kFr K b) := fun z => by
  obtain ⟨x, _⟩ := z
  cases x with
  | none =>
    show ∀ (W0 W : Wd) vs, _ → ∀ Q : VK, _ → _
    rintro W0 W vs ⟨v, r, e, ev, w, r2, e2, ew, en⟩ Q q
    have ew' : w = cv := ew
    have ev' : v = .non := ev
    subst e e2 en ew' ev'
    exact .inr ⟨w, cV, rfl, hcl, hno, q _ W (Le.refl _) rfl⟩
  | some e =>
    have h := o_isK (K := K) tb hcv htb (e, ())
    dsimp only at h ⊢
    have hd : R.isKO tb (some e) = R.isK tb e := rfl
    rw [hd]
    cases hr : R.isK tb e with
    | no => trivial
    | ex e => rw [hr] at h; exact h
    | ok b =>
      rw [hr] at h
      refine fun W0 W vs ⟨v, r, e1, ev, rest⟩ Q q => .inl (h W0 W vs ⟨v, r, e1, ev.2, rest⟩ Q q)
end
theorem kit_none {K : Frag} {D : Addr} (hd : PySem.W.hasDictIn K D = true) (ty : PySem.W.typeIn K (.ref D) = some (.type "type")) (hs : PySem.W.subIn K (.type "NoneType") (.ref D) = some false) : PySem.W.kitOne K (.type "NoneType") (.ref D) = some false := by
  have he : (Value.type "NoneType" == Value.ref D) = false := rfl
  obtain ⟨cd, h1, h2⟩ := PySem.W.any_some hd
  unfold PySem.W.kitOne PySem.W.kitCls
  rw [he, if_neg (by decide)]
  dsimp only
  rw [h1, ty, if_pos (by rfl)]
  exact hs
end Fw

namespace Fw
open PySem L2
/-! ### a dict of own lists: a new key, d[k] = [] -/
section
variable {κ α : Type} [DecidableEq κ] [Rp κ] [DKy κ] [Rp α]
variable {c : Cn} {W0 : Wd} {X : WX} {As : List Sl} {J S ρ : Type} {kr : ρ → Kd} {Ls : List Sl} {Js : J → List Sl} {B : Bd} {Bs : S → List Sl}
@[irreducible] def R.dnew (x : DGk κ α) (k : κ) : R (DGk κ α) := if x.l.length < sizeLine ∧ (Fw.dval x.l k).isNone then .ok ⟨x.l ++ [(k, [])]⟩ else .no
theorem d_newP {td tk : TE} {u : TS} {x : DGk κ α} {up : DGk κ α → List Sl} {n : R κ} {kk : DGk κ α → Out S J ρ} (pl : Plc c B.W0 td As x up) (lx : Lx Ls As) (hn : Exr c B.W0 X tk As n fun x => kFr c.K x)
    (hk : ∀ z : DGk κ α, Den c X kr Ls Js B u (up z) (kk z) Bs) :
    Den c X kr Ls Js B (tSeq (sDPut td tk (tLst tNil)) u) As (n.to fun k => (R.dnew x k).to kk) Bs := fun D σ W a f => by
  have h' := hn σ W a
  obtain ⟨v, fp, ev, o, chg, _⟩ := pl σ W a
  obtain ⟨p, q, qs, e, ef, nd, g, hh, k1, k2, kn, dr, l⟩ := o
  subst e ef
  refine ⟨Nat.zero_le _, fun r hr => ?_⟩
  have e0 : Le W (W.no r (.lst []) hr) := Le.no hr
  refine ev _ e0 _ fun W1 e01 => ?_
  have e1 := e0.trans e01
  cases n with
  | no => exact False.elim f
  | ex e => exact h' W1 e1 _ fun cls d W2 e2 z => f cls d σ W2 (lx_at lx (a.mono (e1.trans e2))) z
  | ok k =>
    refine h' W1 e1 _ fun w W2 e2 rw_ => ?_
    have e02 := e01.trans e2
    have e12 := e1.trans e2
    have f2 : Fin c X kr Ls Js B Bs D ((if x.l.length < sizeLine ∧ (Fw.dval x.l k).isNone = true then R.ok (⟨x.l ++ [(k, [])]⟩ : DGk κ α) else .no).to kk) := by
      have f1 : Fin c X kr Ls Js B Bs D ((R.dnew x k).to kk) := f
      unfold R.dnew at f1
      exact f1
    by_cases cz : x.l.length < sizeLine ∧ (Fw.dval x.l k).isNone = true
    case neg => rw [if_neg cz] at f2; exact False.elim f2
    rw [if_pos cz] at f2
    have f' : Fin c X kr Ls Js B Bs D (kk ⟨x.l ++ [(k, [])]⟩) := f2
    have qlen : q.length = x.l.length := by have := congrArg List.length k1; simpa using this
    have fW : ∀ d ∈ p :: qs, W.G d = none ∧ W.H d ≠ none := Ob.foot (show Ob.own c.K x (.ref p) (p :: qs) W from ⟨p, q, qs, rfl, rfl, nd, g, hh, k1, k2, kn, dr, l⟩)
    have hq : valV q k = none := by
      cases hq : valV q k with
      | none => rfl
      | some v =>
        obtain ⟨_, _, _, _, _, _, j4⟩ := k_find k1 k2 hq
        have := cz.2
        rw [j4] at this
        cases this
    obtain ⟨n1, n2⟩ := k_none k1 hq
    have rn : r ∉ p :: qs := fun z => (fW r z).2 hr
    have rp : r ≠ p := fun z => rn (by rw [z]; simp)
    have pnq := (List.nodup_cons.mp nd).1
    have gr0 : (W.no r (.lst []) hr).G r = none := W.sub.nope hr
    have hr0 : (W.no r (.lst []) hr).H r = some (.lst []) := upd_same
    have gr2 : W2.G r = none := e02.o r gr0 (by rw [hr0]; exact fun z => nomatch z)
    have hr2 : W2.H r = some (.lst []) := e02.h _ _ hr0
    have gp2 : W2.G p = none := e12.o p g (fW p (by simp)).2
    have hp2 : W2.H p = some (DKy.ho q) := e12.h _ _ hh
    refine ⟨p, _, rfl, DKy.put (v := .ref r) rw_ W2.sub hp2 (by omega), ?_⟩
    have eput : putK q k (.ref r) = q ++ [(k, V.ref r)] := by
      unfold putK
      rw [valV_any, hq]
      rfl
    rw [eput]
    have keep : ∀ d, d ∉ p :: qs → W.H d ≠ none → (W2.mt p (DKy.ho (q ++ [(k, V.ref r)])) gp2 (ho_mut _)).H d = W.H d := fun d hd nd => by
      show upd W2.H p _ d = _
      rw [upd_ne (show d ≠ p from fun z => hd (by rw [z]; simp))]
      cases q9 : W.H d with
      | none => exact absurd q9 nd
      | some u => exact e12.h d u q9
    have keepq : ∀ d ∈ qs, (W2.mt p (DKy.ho (q ++ [(k, V.ref r)])) gp2 (ho_mut _)).H d = W.H d := fun d hd => by
      show upd W2.H p _ d = _
      rw [upd_ne (show d ≠ p from fun z => pnq (z ▸ hd))]
      cases q9 : W.H d with
      | none => exact absurd q9 (fW d (List.mem_cons_of_mem _ hd)).2
      | some u => exact e12.h d u q9
    have dr4 : DRows c.K (x.l.map (·.2)) qs (W2.mt p (DKy.ho (q ++ [(k, V.ref r)])) gp2 (ho_mut _)) := dr.keep e12.g (fun d hd => e12.o d (dr.foot d hd).1 (dr.foot d hd).2) keepq
    have r4 : DRow c.K ([] : List α) r (W2.mt p (DKy.ho (q ++ [(k, V.ref r)])) gp2 (ho_mut _)) := ⟨gr2, [], (upd_ne rp).trans hr2, Al.nil, Nat.zero_le _⟩
    have lx4 : LeX W (p :: qs) (W2.mt p (DKy.ho (q ++ [(k, V.ref r)])) gp2 (ho_mut _)) := ⟨e12.g, fun d _ gd nd => e12.o d gd nd, keep⟩
    refine hk _ D _ _ (chg W (Le.refl _) _ ⟨x.l ++ [(k, [])]⟩ (p :: (qs ++ [r])) lx4 ⟨p, q ++ [(k, V.ref r)], qs ++ [r], rfl, rfl, ?_, gp2, upd_same, by rw [List.map_append, List.map_append, k1]; rfl, by rw [List.map_append, List.map_append, k2]; rfl, ?_, ?_, by have := cz.1; simp; omega⟩ fun d hd => ?_) f'
    · rw [← List.cons_append, List.nodup_append]
      exact ⟨nd, by simp, fun b hb d hd z => rn (by rw [List.mem_singleton] at hd; subst hd; subst z; exact hb)⟩
    · show ((x.l ++ [(k, [])]).map fun e : κ × List α => e.1).Nodup
      rw [List.map_append, List.nodup_append]
      exact ⟨kn, by simp, fun b hb d hd z => n2 (by
        have hd' : d = k := by simpa using hd
        rw [← hd', ← z]; exact hb)⟩
    · show DRows c.K ((x.l ++ [(k, [])]).map fun e : κ × List α => e.2) _ _
      rw [List.map_append]
      exact dr4.snoc r4
    · rcases List.mem_cons.mp hd with z | hd
      · exact .inl (by rw [z]; simp)
      · rcases List.mem_append.mp hd with z | z
        · exact .inl (List.mem_cons_of_mem _ z)
        · rw [List.mem_singleton.mp z]; exact .inr hr
end
section
variable {φ φ' α κ : Type} {n cls : Str} [Fs φ] [Fs φ'] {J S ρ' : Type} {c : Cn} {X : WX} {kr : ρ' → Kd} {Ls : List Sl} {Js : J → List Sl} {B : Bd} {As : List Sl} {Bs : S → List Sl} {C : Addr} {ns : List Str} {x : Ins cls φ} {pin : Option V}
variable [DecidableEq κ] [Rp κ] [DKy κ] [Rp α]
theorem d_newF {tk : TE} {u : TS} {no : R κ} {k : Ins cls φ' → Out S J ρ'} {s : Sel φ φ' n (DGk κ α) (DGk κ α)} {i : Nat} {g : DGk κ α} {v : DGk κ α → Ins cls φ'} (ct : ClT c.K cls C ns) (hn : n ∈ ns) (hi : As[i]? = some (.ow pin x)) (lx : Lx Ls As) (h : Exr c B.W0 X tk As no fun x => kFr c.K x)
    (hg : s.get x.f = g) (hv : ∀ d, Ins.mk (s.set x.f d) = v d) (hk : ∀ z : Ins cls φ', Den c X kr Ls Js B u (As.set i (.ow pin z)) (k z) Bs) :
    Den c X kr Ls Js B (tSeq (sDPut (tFld c.K (tVar i) n) tk (tLst tNil)) u) As (no.to fun q => (R.dnew g q).to fun z => lt (v z) k) Bs := by
  obtain rfl : (fun d => Ins.mk (s.set x.f d)) = v := funext hv
  subst hg
  exact d_newP (kk := fun d => k (Ins.mk (s.set x.f d))) (plc_fld s ct hn i hi) lx h fun ys => hk _
end
end Fw

namespace Fw
open PySem L2
/-! ### a frozen thing whose value is known -/
structure Pn (α : Type) where
  x : α
  v : V
instance {α : Type} [Rp α] : Rp (Pn α) := ⟨fun K p v G => v = p.v ∧ Rp.rep K p.x v G, fun s h => ⟨h.1, Rp.mono s h.2⟩⟩
section
variable {α : Type} {c : Cn} {W0 : Wd} {As : List Sl}
/-- own slots looked at as frozen things whose values are known -/
inductive FvP : List Sl → List V → List Sl → Prop
  | nil : FvP [] [] []
  | un {As Bs : List Sl} {vs : List V} {v : V} : FvP As vs Bs → FvP (.un :: As) (v :: vs) (.un :: Bs)
  | fr {α : Type} [Rp α] {x : α} {As Bs : List Sl} {vs : List V} {v : V} : FvP As vs Bs → FvP (.fr x :: As) (v :: vs) (.fr x :: Bs)
  | ow {α : Type} [Fz α] {pin : Option V} {x : α} {As Bs : List Sl} {vs : List V} {v : V} : FvP As vs Bs → FvP (.ow pin x :: As) (v :: vs) (.fr (Pn.mk x v) :: Bs)
  | pf {α : Type} [Rp α] {x : α} {As Bs : List Sl} {vs : List V} {v : V} : FvP As vs Bs → FvP (.fr x :: As) (v :: vs) (.fr (Pn.mk x v) :: Bs)
theorem FvP.len {As Bs : List Sl} {vs : List V} (h : FvP As vs Bs) : As.length = Bs.length ∧ vs.length = As.length := by
  induction h with
  | nil => exact ⟨rfl, rfl⟩
  | _ _ ih => exact ⟨congrArg (· + 1) ih.1, congrArg (· + 1) ih.2⟩
theorem FvP.at {K : Frag} {W : Wd} {As Bs : List Sl} {vs : List V} (h : FvP As vs Bs) : ∀ {σ : St}, (∀ (i : Nat) v o, vs[i]? = some v → σ[i]? = some (some o) → v = o) → (∀ (i : Nat) A o, As[i]? = some A → σ[i]? = some o → ∃ f, Hd K A o W f) → ∀ (i : Nat) B o, Bs[i]? = some B → σ[i]? = some o → Hd K B o (.all W.H) [] := by
  induction h with
  | nil => intro σ _ _ i B o e; simp at e
  | @un As Bs vs v _ ih =>
    intro σ hv hh i B o e1 e2
    cases σ with
    | nil => simp at e2
    | cons s σ =>
      cases i with
      | zero => cases e1; trivial
      | succ i => exact ih (σ := σ) (fun j v o a b => hv (j + 1) v o a b) (fun j A o a b => hh (j + 1) A o a b) i B o e1 e2
  | @fr α _ x As Bs vs v _ ih =>
    intro σ hv hh i B o e1 e2
    cases σ with
    | nil => simp at e2
    | cons s σ =>
      cases i with
      | zero =>
        cases e1
        obtain ⟨f, w, e, r⟩ := hh 0 _ o rfl e2
        exact ⟨w, e, Rp.mono W.sub r⟩
      | succ i => exact ih (σ := σ) (fun j v o a b => hv (j + 1) v o a b) (fun j A o a b => hh (j + 1) A o a b) i B o e1 e2
  | @ow α _ pin x As Bs vs v _ ih =>
    intro σ hv hh i B o e1 e2
    cases σ with
    | nil => simp at e2
    | cons s σ =>
      cases i with
      | zero =>
        cases e1
        obtain ⟨f, w, e, r, _⟩ := hh 0 _ o rfl e2
        subst e
        have : v = w := hv 0 v w rfl e2
        exact ⟨w, rfl, this.symm, own_bw (A := W) r⟩
      | succ i => exact ih (σ := σ) (fun j v o a b => hv (j + 1) v o a b) (fun j A o a b => hh (j + 1) A o a b) i B o e1 e2
  | @pf α _ x As Bs vs v _ ih =>
    intro σ hv hh i B o e1 e2
    cases σ with
    | nil => simp at e2
    | cons s σ =>
      cases i with
      | zero =>
        cases e1
        obtain ⟨f, w, e, r⟩ := hh 0 _ o rfl e2
        subst e
        have : v = w := hv 0 v w rfl e2
        exact ⟨w, rfl, this.symm, Rp.mono W.sub r⟩
      | succ i => exact ih (σ := σ) (fun j v o a b => hv (j + 1) v o a b) (fun j A o a b => hh (j + 1) A o a b) i B o e1 e2
/-- the end's slots: what they were, what they are looked at, what they are -/
inductive FvB : List Sl → List V → List Sl → List Sl → Prop
  | nil : FvB [] [] [] []
  | un {A B : Sl} {As Bs Cs : List Sl} {vs : List V} {v : V} : FvB As vs Bs Cs → FvB (A :: As) (v :: vs) (B :: Bs) (.un :: Cs)
  | fr {α : Type} [Rp α] [Uf α] {A : Sl} {x : α} {As Bs Cs : List Sl} {vs : List V} {v : V} : FvB As vs Bs Cs → FvB (A :: As) (v :: vs) (.fr x :: Bs) (.fr x :: Cs)
  | ow {α : Type} [Fz α] {pin : Option V} {x : α} {As Bs Cs : List Sl} {vs : List V} {v : V} : FvB As vs Bs Cs → FvB (.ow pin x :: As) (v :: vs) (.fr (Pn.mk x v) :: Bs) (.ow pin x :: Cs)
  | pf {α : Type} [Rp α] {x : α} {As Bs Cs : List Sl} {vs : List V} {v : V} : FvB As vs Bs Cs → FvB (.fr x :: As) (v :: vs) (.fr (Pn.mk x v) :: Bs) (.fr x :: Cs)
theorem FvB.len {As Bs Cs : List Sl} {vs : List V} (h : FvB As vs Bs Cs) : Bs.length = Cs.length := by
  induction h with
  | nil => rfl
  | _ _ ih => exact congrArg (· + 1) ih
theorem FvB.at {K : Frag} {W W3 : Wd} {e : Le (.all W.H) W3} {As Bs Cs : List Sl} {vs : List V} (h : FvB As vs Bs Cs) : ∀ {σ σ3 : St} {F : Nat → List Addr}, σ.length = As.length → (∀ (i : Nat) v o, vs[i]? = some v → σ[i]? = some (some o) → v = o) → (∀ (i : Nat) A o, As[i]? = some A → σ[i]? = some o → Hd K A o W (F i)) → (∀ i a, a ∈ F i → W.G a = none ∧ W.H a ≠ none) →
    (∀ (i : Nat) B o, Bs[i]? = some B → σ3[i]? = some o → ∃ f, Hd K B o W3 f) → ∀ (i : Nat) C o, Cs[i]? = some C → σ3[i]? = some o → Hd K C o (W.bk W3 e) (F i) := by
  induction h with
  | nil => intro σ σ3 F _ _ _ _ _ i C o e; simp at e
  | @un A B As Bs Cs vs v _ ih =>
    intro σ σ3 F hl hv hh hf hb i C o e1 e2
    cases σ3 with
    | nil => simp at e2
    | cons s3 σ3 =>
      cases σ with
      | nil => simp at hl
      | cons s σ =>
        cases i with
        | zero => cases e1; trivial
        | succ i => exact ih (σ := σ) (σ3 := σ3) (F := fun j => F (j + 1)) (by simpa using hl) (fun j v o a b => hv (j + 1) v o a b) (fun j A o a b => hh (j + 1) A o a b) (fun j => hf (j + 1)) (fun j B o a b => hb (j + 1) B o a b) i C o e1 e2
  | @fr α _ _ A x As Bs Cs vs v _ ih =>
    intro σ σ3 F hl hv hh hf hb i C o e1 e2
    cases σ3 with
    | nil => simp at e2
    | cons s3 σ3 =>
      cases σ with
      | nil => simp at hl
      | cons s σ =>
        cases i with
        | zero =>
          cases e1
          obtain ⟨f, w, ew, r⟩ := hb 0 _ o rfl e2
          exact ⟨w, ew, Uf.uf bk_tk r⟩
        | succ i => exact ih (σ := σ) (σ3 := σ3) (F := fun j => F (j + 1)) (by simpa using hl) (fun j v o a b => hv (j + 1) v o a b) (fun j A o a b => hh (j + 1) A o a b) (fun j => hf (j + 1)) (fun j B o a b => hb (j + 1) B o a b) i C o e1 e2
  | @ow α _ pin x As Bs Cs vs v _ ih =>
    intro σ σ3 F hl hv hh hf hb i C o e1 e2
    cases σ3 with
    | nil => simp at e2
    | cons s3 σ3 =>
      cases σ with
      | nil => simp at hl
      | cons s σ =>
        cases i with
        | zero =>
          cases e1
          obtain ⟨f, w, ew, rv, _⟩ := hb 0 _ o rfl e2
          have h0 := hh 0 _ s rfl rfl
          have h1 := Hd.mono (bk_le (e := e)) (hf 0) h0
          obtain ⟨w0, es, _⟩ := h0
          have : v = w0 := hv 0 v w0 rfl (by rw [es]; rfl)
          have eo : o = s := by rw [ew, es, rv, ← this]
          rw [eo]
          exact h1
        | succ i => exact ih (σ := σ) (σ3 := σ3) (F := fun j => F (j + 1)) (by simpa using hl) (fun j v o a b => hv (j + 1) v o a b) (fun j A o a b => hh (j + 1) A o a b) (fun j => hf (j + 1)) (fun j B o a b => hb (j + 1) B o a b) i C o e1 e2
  | @pf α _ x As Bs Cs vs v _ ih =>
    intro σ σ3 F hl hv hh hf hb i C o e1 e2
    cases σ3 with
    | nil => simp at e2
    | cons s3 σ3 =>
      cases σ with
      | nil => simp at hl
      | cons s σ =>
        cases i with
        | zero =>
          cases e1
          obtain ⟨f, w, ew, rv, _⟩ := hb 0 _ o rfl e2
          have h0 := hh 0 _ s rfl rfl
          have h1 := Hd.mono (bk_le (e := e)) (hf 0) h0
          obtain ⟨w0, es, _⟩ := h0
          have : v = w0 := hv 0 v w0 rfl (by rw [es]; rfl)
          have eo : o = s := by rw [ew, es, rv, ← this]
          rw [eo]
          exact h1
        | succ i => exact ih (σ := σ) (σ3 := σ3) (F := fun j => F (j + 1)) (by simpa using hl) (fun j v o a b => hv (j + 1) v o a b) (fun j A o a b => hh (j + 1) A o a b) (fun j => hf (j + 1)) (fun j B o a b => hb (j + 1) B o a b) i C o e1 e2
theorem At.back {K : Frag} {W W3 : Wd} {Bs Cs : List Sl} {vs : List V} {σ σ3 : St} (h : At K W0 As σ W) (hv : ∀ (i : Nat) v o, vs[i]? = some v → σ[i]? = some (some o) → v = o) (h3 : At K (.all W.H) Bs σ3 W3) (z : FvB As vs Bs Cs) : At K W0 Cs σ3 (W.bk W3 h3.le) := by
  have l3 := h3.len
  have le3 := h3.le
  obtain ⟨l, le, F, f1, f2, f3⟩ := h
  obtain ⟨_, _, G, g1, _, _⟩ := h3
  refine ⟨l3.trans z.len, le.trans bk_le, F, z.at l hv f1 (fun i a ha => ⟨(f3 i a ha).1, (f3 i a ha).2.1⟩) fun i B o a b => ⟨G i, g1 i B o a b⟩, f2, fun i a ha => ?_⟩
  obtain ⟨p1, p2, p3⟩ := f3 i a ha
  have hk := (bk_le (W := W) (e := le3)).o a p1 p2
  refine ⟨hk, fun q => ?_, p3⟩
  cases q9 : W.H a with
  | none => exact p2 q9
  | some u =>
    have := (bk_le (W := W) (e := le3)).h a u q9
    rw [q] at this
    cases this
end
section
variable {J S ρ : Type} {c : Cn} {X : WX} {kr : ρ → Kd} {Ls : List Sl} {Js : J → List Sl} {B : Bd} {As : List Sl} {Cs : S → List Sl}
end
end Fw

namespace Fw
open PySem L2
/-! ### a list of two things of unlike kinds, frozen -/
structure H2 (α β : Type) where
  a : α
  b : β
deriving DecidableEq
section
variable {α β : Type} [Rp α] [Rp β]
instance : Rp (H2 α β) := ⟨fun K x v G => ∃ p a b, v = .ref p ∧ G p = some (.lst [a, b]) ∧ Rp.rep K x.a a G ∧ Rp.rep K x.b b G,
  fun s ⟨p, a, b, e, h, r1, r2⟩ => ⟨p, a, b, e, s _ _ h, Rp.mono s r1, Rp.mono s r2⟩⟩
instance [Pd α] [Pd β] : Pd (H2 α β) := ⟨fun x => .list [Pd.pd x.a, Pd.pd x.b], fun ⟨p, a, b, e, h, r1, r2⟩ => by subst e; exact .lst (.inl (.inl h)) (.cons (Pd.dp r1) (.cons (Pd.dp r2) .nil)), max (Pd.n α) (Pd.n β) + 1, fun ⟨p, a, b, e, h, r1, r2⟩ => by
  simp only [PyData.depth, PyData.depthAll]; have := Pd.dep r1; have := Pd.dep r2; omega, fun ⟨p, a, b, e, h, r1, r2⟩ => by simp only [PyData.canLay0, PyData.canLayAll0, Pd.lay r1, Pd.lay r2, Bool.and_self], fun x y => by
  simp only [PyData.eqv, PyData.eqvAll, Bool.and_eq_true, Pd.eq, and_true]; cases x; cases y; simp⟩
variable {c : Cn} {X : WX} {As : List Sl} {W0 : Wd}
/-! ### None as a value of many kinds -/
instance [Dn α] : Dn (Option α) where
  toD x := match x with
    | none => .none
    | some y => Dn.toD y
  dp := fun {K x v G} h => by
    cases x with
    | none => have e : v = .non := h; subst e; exact .non
    | some y => exact Dn.dp h.2
  n := Dn.n α
  dep := fun {K x v G} h => by
    cases x with
    | none => simp [PyData.depth]
    | some y => exact Dn.dep h.2
  lay := fun {K x v G} h => by
    cases x with
    | none => simp [PyData.canLay0]
    | some y => exact Dn.lay h.2
instance [Dn α] [Dn β] : Dn (H2 α β) := ⟨fun x => .list [Dn.toD x.a, Dn.toD x.b], fun ⟨p, a, b, e, h, r1, r2⟩ => by subst e; exact .lst (.inl (.inl h)) (.cons (Dn.dp r1) (.cons (Dn.dp r2) .nil)), max (Dn.n α) (Dn.n β) + 1, fun ⟨p, a, b, e, h, r1, r2⟩ => by
  simp only [PyData.depth, PyData.depthAll]; have := Dn.dep r1; have := Dn.dep r2; omega, fun ⟨p, a, b, e, h, r1, r2⟩ => by simp only [PyData.canLay0, PyData.canLayAll0, Dn.lay r1, Dn.lay r2, Bool.and_self]⟩
end
section
variable {n : Nat} {K : Frag}
end
end Fw

namespace Fw
open PySem L2
/-! ### try .. except X as n: .. except Y: .. : several handlers, with a name (the exception is kept) or without -/
section
open PySem.Spec PyProof.Rows
inductive HdsX (X : Cx) : List ExceptHandler → List (Value × Option Nat × TS) → Prop
  | nil {hds : List ExceptHandler} : HdsX X hds []
  | anon {x : Str} {c : Value} {ts : TS} {b₀ : Stmt} {suite : List Stmt} {np pos' : Pos} {hds : List ExceptHandler} {l : List (Value × Option Nat × TS)} (hc : Names X x c)
      (hsu : ∀ (a : Addr) (pn : List (Addr × Obj)), PSs (X.suite a pn) (b₀ :: suite) ts) (r : HdsX X hds l) :
      HdsX X (.ExceptHandler (some (.Name x np)) none (b₀ :: suite) pos' :: hds) ((c, none, ts) :: l)
  | as {x n : Str} {i : Nat} {c : Value} {ts : TS} {b₀ : Stmt} {suite : List Stmt} {np pos' : Pos} {hds : List ExceptHandler} {l : List (Value × Option Nat × TS)} (hi : X.N[i]? = some n) (hln : X.env.kindOf n = some .local) (hc : Names X x c)
      (hsu : ∀ (a : Addr) (pn : List (Addr × Obj)), PSs (X.suite a pn) (b₀ :: suite) ts) (r : HdsX X hds l) :
      HdsX X (.ExceptHandler (some (.Name x np)) (some n) (b₀ :: suite) pos' :: hds) ((c, some i, ts) :: l)
variable {X : Cx} {body : List Stmt} {h₀ : ExceptHandler} {hds : List ExceptHandler} {l : List (Value × Option Nat × TS)} {pos : Pos} {tb : WX → TS}
end
/-! the mirror -/
section
variable {J S ρ : Type}
def CatB (K : Frag) (M : Str → Value) (tb : List (Str × Bool)) (cv : Value) : Prop := ∀ n b, tb.lookup n = some b → ∃ C, M n = .ref C ∧ PySem.W.nsIn K mainGlobals n = some (some (.ref C)) ∧ PySem.W.exmOne K (.ref C) cv = some b
variable {c : Cn} {X : WX} {As : List Sl} {kr : ρ → Kd} {Ls : List Sl} {Js : J → List Sl} {B : Bd} {Bs : S → List Sl}
inductive DHs (c : Cn) (kr : ρ → Kd) (Js : J → List Sl) (B : Bd) (As : List Sl) (Bs : S → List Sl) : List (Value × Option Nat × TS) → List (List (Str × Bool) × (Exc → Out S J ρ)) → Prop
  | nil : DHs c kr Js B As Bs [] []
  | anon {cv : Value} {ts : TS} {tb : List (Str × Bool)} {h : Out S J ρ} {l : List (Value × Option Nat × TS)} {hs : List (List (Str × Bool) × (Exc → Out S J ρ))} {Js' : List Sl} (hc : CatB c.K c.M tb cv) (hd : Den c (fun _ _ _ _ => False) kr Js' Js B ts As h Bs) (r : DHs c kr Js B As Bs l hs) :
      DHs c kr Js B As Bs ((cv, none, ts) :: l) ((tb, fun _ => h) :: hs)
  | as {cv : Value} {ts : TS} {tb : List (Str × Bool)} {h : Exc → Out S J ρ} {l : List (Value × Option Nat × TS)} {hs : List (List (Str × Bool) × (Exc → Out S J ρ))} {Js' : List Sl} {Cs : Exc → S → List Sl} (i : Nat) (hc : CatB c.K c.M tb cv)
      (hd : ∀ e : Exc, Den c (fun _ _ _ _ => False) kr Js' Js B ts (As.set i (.fr e)) (h e) (Cs e)) (hw : ∀ e s, Wk ((Cs e s).set i .un) (Bs s)) (hj : ∀ j σ W, At c.K B.W0 (Js j) σ W → At c.K B.W0 (Js j) (σ.set i none) W) (r : DHs c kr Js B As Bs l hs) :
      DHs c kr Js B As Bs ((cv, some i, ts) :: l) ((tb, h) :: hs)
end
end Fw

namespace Fw
open PySem L2
/-! ### a def that changes its first argument, called with a new thing that nobody else knows -/
section
variable {c : Cn} {W0 : Wd} {X : WX} {As : List Sl}
end
end Fw

namespace Fw
open PySem L2
/-! ### defs that change any things handed in: the promise by slots -/
structure AtF (K : Frag) (As : List Sl) (σ : St) (W : Wd) (F : Nat → List Addr) : Prop where
  len : σ.length = As.length
  hd : ∀ (i : Nat) A o, As[i]? = some A → σ[i]? = some o → Hd K A o W (F i)
  dj : ∀ i j a, i ≠ j → a ∈ F i → a ∉ F j
  ft : ∀ i a, a ∈ F i → W.G a = none ∧ W.H a ≠ none
  out : ∀ i, As.length ≤ i → F i = []
theorem AtF.mono {K : Frag} {As : List Sl} {σ : St} {W W' : Wd} {F : Nat → List Addr} (h : AtF K As σ W F) (e : Le W W') : AtF K As σ W' F :=
  ⟨h.len, fun i A o a b => Hd.mono e (fun x hx => h.ft i x hx) (h.hd i A o a b), h.dj, fun i a ha => ⟨e.o a (h.ft i a ha).1 (h.ft i a ha).2, fun q => (h.ft i a ha).2 (e.h.nope q)⟩, h.out⟩
def fl (F : Nat → List Addr) (n : Nat) : List Addr := (List.range n).flatMap F
theorem mem_fl {F : Nat → List Addr} {n : Nat} {a : Addr} : a ∈ fl F n ↔ ∃ i, i < n ∧ a ∈ F i := by
  unfold fl
  rw [List.mem_flatMap]
  exact ⟨fun ⟨i, h, k⟩ => ⟨i, List.mem_range.mp h, k⟩, fun ⟨i, h, k⟩ => ⟨i, List.mem_range.mpr h, k⟩⟩
theorem AtF.mem {K : Frag} {As : List Sl} {σ : St} {W : Wd} {F : Nat → List Addr} (h : AtF K As σ W F) {a : Addr} : a ∈ fl F As.length ↔ ∃ i, a ∈ F i := by
  rw [mem_fl]
  refine ⟨fun ⟨i, _, k⟩ => ⟨i, k⟩, fun ⟨i, k⟩ => ⟨i, ?_, k⟩⟩
  apply Decidable.byContradiction
  intro q
  rw [h.out i (by omega)] at k
  cases k
/-! the def itself -/
section
variable {τ S : Type} {c : Cn} {ins : τ → List Sl} {outs : S → List Sl}
/-- the slots at the end tell what the promise tells -/
inductive OutOk : List Sl → List V → List Sl → Prop
  | nil {As : List Sl} : OutOk As [] []
  | un {A : Sl} {As Os : List Sl} {v : V} {vs : List V} : OutOk As vs Os → OutOk (A :: As) (v :: vs) (.un :: Os)
  | ow {α : Type} [Ob α] {y : α} {As Os : List Sl} {v : V} {vs : List V} : OutOk As vs Os → OutOk (.ow (some v) y :: As) (v :: vs) (.ow none y :: Os)
theorem OutOk.len {As : List Sl} {vs : List V} {Os : List Sl} (h : OutOk As vs Os) : vs.length = Os.length := by
  induction h with
  | nil => rfl
  | _ _ ih => exact congrArg (· + 1) ih
theorem OutOk.at {K : Frag} {W : Wd} {As : List Sl} {vs : List V} {Os : List Sl} (h : OutOk As vs Os) : ∀ {σ : St} {F : Nat → List Addr}, σ.length = As.length → (∀ (i : Nat) A o, As[i]? = some A → σ[i]? = some o → Hd K A o W (F i)) → ∀ (i : Nat) O v, Os[i]? = some O → vs[i]? = some v → Hd K O (some v) W (F i) := by
  induction h with
  | nil => intro σ F _ _ i O v e; simp at e
  | @un A As Os v vs _ ih =>
    intro σ F hl hh i O w e1 e2
    cases σ with
    | nil => simp at hl
    | cons s σ =>
      cases i with
      | zero => cases e1; trivial
      | succ i => exact ih (σ := σ) (F := fun j => F (j + 1)) (by simpa using hl) (fun j A o a b => hh (j + 1) A o a b) i O w e1 e2
  | @ow α _ y As Os v vs _ ih =>
    intro σ F hl hh i O w e1 e2
    cases σ with
    | nil => simp at hl
    | cons s σ =>
      cases i with
      | zero =>
        cases e1
        cases e2
        obtain ⟨w, es, r, pn⟩ := hh 0 _ s rfl rfl
        have := pn v rfl
        subst this
        exact ⟨w, rfl, r, fun u z => nomatch z⟩
      | succ i => exact ih (σ := σ) (F := fun j => F (j + 1)) (by simpa using hl) (fun j A o a b => hh (j + 1) A o a b) i O w e1 e2
variable {N : List Str} {n k : Nat} {t : TS} {vs : List V} {H : Hp} {Q : VK} {E : XK}
/-! return e: frozen, new, own -/
variable {J ρ' S' : Type} {X : WX} {Ls : List Sl} {Js : J → List Sl} {B : Bd} {As : List Sl} {Bs : S' → List Sl}
end
end Fw

namespace Fw
open PySem L2
/-! ### calls of defs that change any things handed in -/
/-- what a call's arguments are: frozen, a slot's own thing, a new thing -/
inductive GArgs (K : Frag) (As : List Sl) (σ : St) (A W : Wd) : List (Option Nat) → List Sl → List V → List (List Addr) → Prop
  | nil : GArgs K As σ A W [] [] [] []
  | fr {α : Type} [Rp α] {x : α} {v : V} {J : List (Option Nat)} {Is : List Sl} {vs : List V} {fs : List (List Addr)} : Rp.rep K x v W.G → GArgs K As σ A W J Is vs fs → GArgs K As σ A W (none :: J) (.fr x :: Is) (v :: vs) ([] :: fs)
  | ow {α : Type} [Ob α] {y : α} {pin : Option V} {i : Nat} {v : V} {J : List (Option Nat)} {Is : List Sl} {vs : List V} {fs : List (List Addr)} : As[i]? = some (.ow pin y) → σ[i]? = some (some v) → GArgs K As σ A W J Is vs fs → GArgs K As σ A W (some i :: J) (.ow none y :: Is) (v :: vs) ([] :: fs)
  | nw {α : Type} [Ob α] {y : α} {v : V} {f : List Addr} {J : List (Option Nat)} {Is : List Sl} {vs : List V} {fs : List (List Addr)} : Ob.own K y v f W → (∀ a ∈ f, A.H a = none) → (∀ g ∈ fs, ∀ a ∈ f, a ∉ g) → GArgs K As σ A W J Is vs fs → GArgs K As σ A W (none :: J) (.ow none y :: Is) (v :: vs) (f :: fs)
section
variable {K : Frag} {As : List Sl} {σ : St}
theorem GArgs.mono {A W W' : Wd} {J : List (Option Nat)} {Is : List Sl} {vs : List V} {fs : List (List Addr)} (h : GArgs K As σ A W J Is vs fs) (e : Le W W') : GArgs K As σ A W' J Is vs fs := by
  induction h with
  | nil => exact .nil
  | fr r _ ih => exact .fr (Rp.mono e.g r) ih
  | ow h1 h2 _ ih => exact .ow h1 h2 ih
  | nw o n d _ ih => exact .nw (own_up o e) n d ih
theorem GArgs.dn {A A' W : Wd} {J : List (Option Nat)} {Is : List Sl} {vs : List V} {fs : List (List Addr)} (h : GArgs K As σ A W J Is vs fs) (e : Le A' A) : GArgs K As σ A' W J Is vs fs := by
  induction h with
  | nil => exact .nil
  | fr r _ ih => exact .fr r ih
  | ow h1 h2 _ ih => exact .ow h1 h2 ih
  | nw o n d _ ih => exact .nw o (fun a ha => e.h.nope (n a ha)) d ih
theorem GArgs.new {A W : Wd} {J : List (Option Nat)} {Is : List Sl} {vs : List V} {fs : List (List Addr)} (h : GArgs K As σ A W J Is vs fs) : ∀ g ∈ fs, ∀ a ∈ g, A.H a = none ∧ W.G a = none ∧ W.H a ≠ none := by
  induction h with
  | nil => intro g hg; cases hg
  | fr r _ ih => intro g hg a ha; rcases List.mem_cons.mp hg with z | z; · subst z; cases ha
                 · exact ih g z a ha
  | ow h1 h2 _ ih => intro g hg a ha; rcases List.mem_cons.mp hg with z | z; · subst z; cases ha
                     · exact ih g z a ha
  | nw o n d _ ih => intro g hg a ha; rcases List.mem_cons.mp hg with z | z; · subst z; exact ⟨n a ha, Ob.foot o a ha⟩
                     · exact ih g z a ha
/-- footprints of a call's arguments -/
def gFp (F : Nat → List Addr) : List (Option Nat) → List (List Addr) → Nat → List Addr
  | some i :: _, _ :: _, 0 => F i
  | none :: _, f :: _, 0 => f
  | _ :: J, _ :: fs, p + 1 => gFp F J fs p
  | _, _, _ => []
theorem GArgs.len {A W : Wd} {J : List (Option Nat)} {Is : List Sl} {vs : List V} {fs : List (List Addr)} (h : GArgs K As σ A W J Is vs fs) : vs.length = Is.length ∧ J.length = Is.length ∧ fs.length = Is.length := by
  induction h with
  | nil => exact ⟨rfl, rfl, rfl⟩
  | _ => simp_all
theorem GArgs.mem {A W : Wd} {J : List (Option Nat)} {Is : List Sl} {vs : List V} {fs : List (List Addr)} (h : GArgs K As σ A W J Is vs fs) {F : Nat → List Addr} : ∀ (p : Nat) a, a ∈ gFp F J fs p → (∃ i, J[p]? = some (some i) ∧ a ∈ F i) ∨ (J[p]? = some none ∧ ∃ f, fs[p]? = some f ∧ a ∈ f) := by
  induction h with
  | nil => intro p a ha; cases ha
  | @fr α _ x v J Is vs fs r _ ih =>
    intro p a ha
    cases p with
    | zero => cases ha
    | succ p => exact ih p a ha
  | @ow α _ y pin i v J Is vs fs h1 h2 _ ih =>
    intro p a ha
    cases p with
    | zero => exact .inl ⟨i, rfl, ha⟩
    | succ p => exact ih p a ha
  | @nw α _ y v f J Is vs fs o n d _ ih =>
    intro p a ha
    cases p with
    | zero => exact .inr ⟨rfl, f, rfl, ha⟩
    | succ p => exact ih p a ha
theorem GArgs.hd {A W : Wd} {J : List (Option Nat)} {Is : List Sl} {vs : List V} {fs : List (List Addr)} (h : GArgs K As σ A W J Is vs fs) {F : Nat → List Addr} (h1 : ∀ (i : Nat) A o, As[i]? = some A → σ[i]? = some o → Hd K A o W (F i)) : ∀ (p : Nat) B v, Is[p]? = some B → vs[p]? = some v → Hd K B (some v) W (gFp F J fs p) := by
  induction h with
  | nil => intro p B v e; simp at e
  | @fr α _ x v J Is vs fs r _ ih =>
    intro p B w e1 e2
    cases p with
    | zero => cases e1; cases e2; exact ⟨v, rfl, r⟩
    | succ p => exact ih p B w e1 e2
  | @ow α _ y pin i v J Is vs fs q1 q2 _ ih =>
    intro p B w e1 e2
    cases p with
    | zero =>
      cases e1; cases e2
      obtain ⟨w, ew, r, _⟩ := h1 i _ _ q1 q2
      exact ⟨w, ew, r, fun u z => nomatch z⟩
    | succ p => exact ih p B w e1 e2
  | @nw α _ y v f J Is vs fs o n d _ ih =>
    intro p B w e1 e2
    cases p with
    | zero => cases e1; cases e2; exact ⟨v, rfl, o, fun u z => nomatch z⟩
    | succ p => exact ih p B w e1 e2
end
section
variable {K : Frag} {W0 : Wd} {As : List Sl}
end
/-! the slots behind a call -/
section
variable {τ τ' S α β : Type} {c : Cn} {W0 : Wd} {X : WX} {As : List Sl}
variable {J' S' ρ : Type} {kr : ρ → Kd} {Ls : List Sl} {Js : J' → List Sl} {B : Bd} {Bs : S' → List Sl} {ins : τ → List Sl} {outs : S → List Sl} {f : τ → R S}
end
end Fw

namespace Fw
open PySem L2
/-! ### an expression looked at with a dict of one's own lists locked for its time -/
inductive FvAt : Sl → Sl → Prop
  | un {A : Sl} : FvAt A .un
  | fr {α : Type} [Rp α] {x : α} : FvAt (.fr x) (.fr x)
  | ow {α : Type} [Fz α] {pin : Option V} {x : α} : FvAt (.ow pin x) (.fr x)
theorem FvW.get {As Bs : List Sl} (h : FvW As Bs) : ∀ (j : Nat) B, Bs[j]? = some B → ∃ A, As[j]? = some A ∧ FvAt A B := by
  induction h with
  | nil => intro j B e; simp at e
  | un _ ih => intro j B e; cases j with
    | zero => cases e; exact ⟨_, rfl, .un⟩
    | succ j => exact ih j B e
  | fr _ ih => intro j B e; cases j with
    | zero => cases e; exact ⟨_, rfl, .fr⟩
    | succ j => exact ih j B e
  | ow _ ih => intro j B e; cases j with
    | zero => cases e; exact ⟨_, rfl, .ow⟩
    | succ j => exact ih j B e
  | no _ ih => intro j B e; cases j with
    | zero => cases e; exact ⟨_, rfl, .un⟩
    | succ j => exact ih j B e
section
variable {κ α : Type} [DecidableEq κ] [Rp κ] [DKy κ] [Rp α] {K : Frag} {W0 W : Wd} {As Bs : List Sl} {σ : St}
variable {c : Cn} {X : WX} {ρ : Type}
end
end Fw

namespace Fw
open PySem L2
/-! ### values of many kinds that are no lists, no tuples -/
instance : Uf (Dy 0) := ⟨fun {K x v G G'} t h => by
  obtain ⟨d⟩ := x
  obtain ⟨h1, h2, h3⟩ := h
  dsimp only at h1 h2 h3
  refine ⟨?_, h2, h3⟩
  cases h1 with
  | non => exact .non
  | bl b => exact .bl b
  | int i => exact .int i
  | str s => exact .str s
  | lst _ _ => simp only [PyData.depth] at h2; omega
  | tup _ _ => simp only [PyData.depth] at h2; omega⟩
/-! ### a statement that changes nothing of one's own, neither returns nor jumps -/
section
variable {J S ρ : Type}
def Out.jabs (m : Out S Empty Empty) : Out S J ρ := match m with
  | .nx s => .nx s
  | .rt r => nomatch r
  | .bk j => nomatch j
  | .ct j => nomatch j
  | .ex e => .ex e
  | .no => .no
@[simp] theorem Out.jabs_nx (s : S) : (Out.nx s : Out S Empty Empty).jabs = (Out.nx s : Out S J ρ) := rfl
@[simp] theorem Out.jabs_ex (e : Exc) : (Out.ex e : Out S Empty Empty).jabs = (Out.ex e : Out S J ρ) := rfl
@[simp] theorem Out.jabs_no : (Out.no : Out S Empty Empty).jabs = (Out.no : Out S J ρ) := rfl
variable {c : Cn} {X : WX} {kr : ρ → Kd} {Ls : List Sl} {Js : J → List Sl} {B : Bd} {As : List Sl} {Cs : S → List Sl}
end
end Fw

namespace Fw
open PySem L2
/-! ### a dict of own lists held by a name -/
section
variable {κ α : Type} [DecidableEq κ] [Rp κ] [DKy κ] [Rp α]
variable {c : Cn} {W0 : Wd} {X : WX} {As : List Sl} {J S ρ : Type} {kr : ρ → Kd} {Ls : List Sl} {Js : J → List Sl} {B : Bd} {Bs : S → List Sl}
end
end Fw

namespace Fw
open PySem L2
/-! ### a comprehension within a comprehension -/
end Fw

namespace Fw
open PySem L2
/-! ### str of a text or a number; a pair looked at as a tuple of its kinds -/
section
variable {X : Cx}
end
section
variable {K : Frag} {X : WX}
end
/-! ### d.pop(k), d a dict of own lists -/
section
variable {κ α : Type} [DecidableEq κ] [Rp κ] [PKy κ] [Rp α]
theorem gk_drop {K : Frag} {k : κ} : ∀ {q : List (κ × V)} {xl : List (κ × List α)} {qs : List Addr}, q.map (·.1) = xl.map (·.1) → q.map (·.2) = qs.map V.ref →
    ∃ qs' : List Addr, (dropK q k).map (·.1) = (xl.filter fun p => decide (p.1 ≠ k)).map (·.1) ∧ (dropK q k).map (·.2) = qs'.map V.ref ∧ qs'.Sublist qs ∧ ∀ W : Wd, DRows K (xl.map (·.2)) qs W → DRows K ((xl.filter fun p => decide (p.1 ≠ k)).map (·.2)) qs' W
  | [], [], [], _, _ => ⟨[], rfl, rfl, List.Sublist.refl _, fun _ h => h⟩
  | e :: q, p :: xl, a :: qs, h1, h2 => by
    rw [List.map_cons, List.map_cons] at h1 h2
    injection h1 with e1 h1
    injection h2 with e2 h2
    obtain ⟨qs', a1, a2, a3, a4⟩ := gk_drop (K := K) (k := k) h1 h2
    unfold dropK
    rw [List.filter_cons, List.filter_cons]
    by_cases z : e.1 = k
    · rw [decide_eq_false (show ¬ p.1 ≠ k from fun w => w (e1 ▸ z)), decide_eq_false (show ¬ e.1 ≠ k from fun w => w z)]
      exact ⟨qs', a1, a2, a3.cons a, fun W h => a4 W h.2⟩
    · rw [decide_eq_true (show p.1 ≠ k from fun w => z (e1 ▸ w)), decide_eq_true (show e.1 ≠ k from z), if_pos rfl, if_pos rfl]
      refine ⟨a :: qs', ?_, ?_, a3.cons_cons a, fun W h => ⟨h.1, a4 W h.2⟩⟩
      · rw [List.map_cons, List.map_cons, e1]; exact congrArg _ a1
      · rw [List.map_cons, List.map_cons, e2]; exact congrArg _ a2
  | [], [], _ :: _, _, h => by cases h
  | [], _ :: _, _, h, _ => by cases h
  | _ :: _, [], _, h, _ => by cases h
  | _ :: _, _ :: _, [], _, h => by cases h
@[irreducible] def R.popGk (x : DGk κ α) (k : κ) : R (DGk κ α) := if (Fw.dval x.l k).isSome then .ok ⟨x.l.filter fun p => decide (p.1 ≠ k)⟩ else .no
variable {c : Cn} {W0 : Wd} {X : WX} {As : List Sl} {J S ρ : Type} {kr : ρ → Kd} {Ls : List Sl} {Js : J → List Sl} {B : Bd} {Bs : S → List Sl}
theorem d_popP {td tk : TE} {u : TS} {x : DGk κ α} {up : DGk κ α → List Sl} {n : R κ} {kk : DGk κ α → Out S J ρ} (pl : Plc c B.W0 td As x up) (lx : Lx Ls As) (hn : Exr c B.W0 X tk As n fun x => kFr c.K x)
    (hk : ∀ z : DGk κ α, Den c X kr Ls Js B u (up z) (kk z) Bs) :
    Den c X kr Ls Js B (tSeq (tDrop (tDPopG td tk)) u) As (n.to fun k => (R.popGk x k).to kk) Bs := fun D σ W a f => by
  have h' := hn σ W a
  obtain ⟨v, fp, ev, o, chg, _⟩ := pl σ W a
  obtain ⟨p, q, qs, e, ef, nd, g, hh, k1, k2, kn, dr, l⟩ := o
  subst e ef
  have fW : ∀ d ∈ p :: qs, W.G d = none ∧ W.H d ≠ none := Ob.foot (show Ob.own c.K x (.ref p) (p :: qs) W from ⟨p, q, qs, rfl, rfl, nd, g, hh, k1, k2, kn, dr, l⟩)
  refine ev W (Le.refl _) _ fun W1 e1 => ⟨p, rfl, DKy.isD (.inl (e1.h _ _ hh)), ?_⟩
  cases n with
  | no => exact False.elim f
  | ex e => exact h' W1 e1 _ fun cls d W2 e2 z => f cls d σ W2 (lx_at lx (a.mono (e1.trans e2))) z
  | ok k =>
    refine h' W1 e1 _ fun w W2 e2 rw_ => ?_
    have e12 := e1.trans e2
    have f2 : Fin c X kr Ls Js B Bs D ((if (Fw.dval x.l k).isSome = true then R.ok (⟨x.l.filter fun p => decide (p.1 ≠ k)⟩ : DGk κ α) else .no).to kk) := by
      have f1 : Fin c X kr Ls Js B Bs D ((R.popGk x k).to kk) := f
      unfold R.popGk at f1
      exact f1
    by_cases cz : (Fw.dval x.l k).isSome = true
    case neg => rw [if_neg cz] at f2; exact False.elim f2
    rw [if_pos cz] at f2
    have f' : Fin c X kr Ls Js B Bs D (kk ⟨x.l.filter fun p => decide (p.1 ≠ k)⟩) := f2
    cases hq : valV q k with
    | none =>
      obtain ⟨n1, n2⟩ := k_none k1 hq
      exfalso
      have : Fw.dval x.l k = none := by
        refine Classical.byContradiction fun c => ?_
        obtain ⟨y, hy⟩ := Option.ne_none_iff_exists'.mp c
        exact n2 (by
          clear n1 n2 f f2 f' cz k1 dr kn l
          generalize x.l = xl at hy
          induction xl with
          | nil => cases hy
          | cons a xl ih =>
            unfold Fw.dval at hy
            by_cases e : a.1 = k
            · rw [List.map_cons, e]; exact List.mem_cons_self
            · rw [if_neg e] at hy
              exact List.mem_cons_of_mem _ (ih (by assumption)))
      rw [this] at cz
      cases cz
    | some y =>
      have pnq := (List.nodup_cons.mp nd).1
      have gp2 : W2.G p = none := e12.o p g (fW p (by simp)).2
      have hp2 : W2.H p = some (DKy.ho q) := e12.h _ _ hh
      obtain ⟨qs', a1, a2, a3, a4⟩ := gk_drop (K := c.K) (k := k) k1 k2
      refine ⟨y, _, PKy.pop rw_ W2.sub hp2 hq, ?_⟩
      have keep : ∀ d, d ∉ p :: qs → W.H d ≠ none → (W2.mt p (DKy.ho (dropK q k)) gp2 (ho_mut _)).H d = W.H d := fun d hd nd => by
        show upd W2.H p _ d = _
        rw [upd_ne (show d ≠ p from fun z => hd (by rw [z]; simp))]
        cases q9 : W.H d with
        | none => exact absurd q9 nd
        | some u => exact e12.h d u q9
      have keepq : ∀ d ∈ qs, (W2.mt p (DKy.ho (dropK q k)) gp2 (ho_mut _)).H d = W.H d := fun d hd => by
        show upd W2.H p _ d = _
        rw [upd_ne (show d ≠ p from fun z => pnq (z ▸ hd))]
        cases q9 : W.H d with
        | none => exact absurd q9 (fW d (List.mem_cons_of_mem _ hd)).2
        | some u => exact e12.h d u q9
      have dr4 : DRows c.K (x.l.map (·.2)) qs (W2.mt p (DKy.ho (dropK q k)) gp2 (ho_mut _)) := dr.keep e12.g (fun d hd => e12.o d (dr.foot d hd).1 (dr.foot d hd).2) keepq
      have lx4 : LeX W (p :: qs) (W2.mt p (DKy.ho (dropK q k)) gp2 (ho_mut _)) := ⟨e12.g, fun d _ gd nd => e12.o d gd nd, keep⟩
      refine hk _ D _ _ (chg W (Le.refl _) _ ⟨x.l.filter fun p => decide (p.1 ≠ k)⟩ (p :: qs') lx4 ⟨p, dropK q k, qs', rfl, rfl, ?_, gp2, upd_same, a1, a2, ?_, a4 _ dr4, Nat.le_trans (List.length_filter_le _ _) l⟩ fun d hd => ?_) f'
      · rw [List.nodup_cons] at nd ⊢
        exact ⟨fun z => nd.1 (a3.subset z), nd.2.sublist a3⟩
      · exact kn.sublist (List.Sublist.map _ List.filter_sublist)
      · rcases List.mem_cons.mp hd with z | hd
        · exact .inl (by rw [z]; simp)
        · exact .inl (List.mem_cons_of_mem _ (a3.subset hd))
end
section
variable {φ φ' α κ : Type} {n cls : Str} [Fs φ] [Fs φ'] {J S ρ' : Type} {c : Cn} {X : WX} {kr : ρ' → Kd} {Ls : List Sl} {Js : J → List Sl} {B : Bd} {As : List Sl} {Bs : S → List Sl} {C : Addr} {ns : List Str} {x : Ins cls φ} {pin : Option V}
variable [DecidableEq κ] [Rp κ] [PKy κ] [Rp α]
theorem d_popF {tk : TE} {u : TS} {no : R κ} {k : Ins cls φ' → Out S J ρ'} {s : Sel φ φ' n (DGk κ α) (DGk κ α)} {i : Nat} {g : DGk κ α} {v : DGk κ α → Ins cls φ'} (ct : ClT c.K cls C ns) (hn : n ∈ ns) (hi : As[i]? = some (.ow pin x)) (lx : Lx Ls As) (h : Exr c B.W0 X tk As no fun x => kFr c.K x)
    (hg : s.get x.f = g) (hv : ∀ d, Ins.mk (s.set x.f d) = v d) (hk : ∀ z : Ins cls φ', Den c X kr Ls Js B u (As.set i (.ow pin z)) (k z) Bs) :
    Den c X kr Ls Js B (tSeq (tDrop (tDPopG (tFld c.K (tVar i) n) tk)) u) As (no.to fun q => (R.popGk g q).to fun z => lt (v z) k) Bs := by
  obtain rfl : (fun d => Ins.mk (s.set x.f d)) = v := funext hv
  subst hg
  exact d_popP (kk := fun d => k (Ins.mk (s.set x.f d))) (plc_fld s ct hn i hi) lx h fun ys => hk _
end
/-! ### o.f.m(..), where the method changes the field -/
section
variable {φ ψ τ ρ : Type} {n m cls cls2 : Str} [Fs φ] [Fs ψ] [Args τ] {J S ρ' : Type} {c : Cn} {X : WX} {kr : ρ' → Kd} {Ls : List Sl} {Js : J → List Sl} {B : Bd} {As : List Sl} {Bs : S → List Sl} {C C2 : Addr} {ns ns2 : List Str} {x : Ins cls φ} {pin : Option V}
end
/-! ### an if whose else never goes on -/
section
variable {J S T ρ : Type} {c : Cn} {X : WX} {kr : ρ → Kd} {Ls : List Sl} {Js : J → List Sl} {B : Bd} {As : List Sl} {Bs : S → List Sl} {Cs : T → List Sl}
end
end Fw

namespace Fw
open PySem L2
/-! ### a method that changes its object and tells something, within a statement -/
section
variable {φ τ ρ' ρ S J β : Type} {m cls : Str} [Fs φ] [Args τ] [Rp ρ'] {c : Cn} {X : WX} {kr : ρ → Kd} {Ls : List Sl} {Js : J → List Sl} {B : Bd} {As : List Sl} {Bs : S → List Sl} {C : Addr} {ns : List Str}
end
/-! ### a test of several parts, of which a later one changes things: one if after the other -/
section
variable {J S ρ : Type} {c : Cn} {X : WX} {kr : ρ → Kd} {Ls : List Sl} {Js : J → List Sl} {B : Bd} {As : List Sl} {Bs : S → List Sl} {m : Out S J ρ}
end
/-! ### e.replace of two written texts -/
section
variable {c : Cn} {W0 : Wd} {X : WX} {As : List Sl}
end
/-! ### return of what cannot raise, where a thing handed in was changed -/
section
variable {S ρ α : Type} {c : Cn} {X : WX} {As : List Sl} {Bs : S → List Sl}
end
/-! ### tokens: a comprehension within which one token is out -/
section
open PySem.Spec PyProof.Rows
variable {X : Cx}
end
structure PSsU (X : Cx) (st : List Stmt) (t : TS) : Prop where
  h : PSsT X st t
/-! ### behind o.m('..') a token is out -/
structure PST1 (X : Cx) (st : Stmt) (t : TS) : Prop where
  h : ∀ (pins : List (Addr × Obj)) (s : Shared) (σ : L2.St) (H : Hp) (D : Ends), Inv X pins σ H s → t D σ H → wpAny (model X.prog X.w) X.A (exec st X.env) (fun f s' => 1 ≤ s'.toks ∧ SP X pins D f s') X.xe s
section
open PySem.Spec PyProof.Rows
variable {X : Cx} {CX : CXT} {k : Nat} {f C : Addr} {fd : FuncData} {ps : List Str} {sp : Sp} {E : L2.St → XK} {m : Str} {p pos apos epos cpos : Pos} {o : Expr} {ta : TE} {rest : List Stmt} {u : TS} {x : Str} {j : Nat}
end
/-! ### .. as structures, for the elaborator -/
structure PEU (X : Cx) (e : Expr) (t : TE) : Prop where
  h : PET X e t
section
open PySem.Spec PyProof.Rows
variable {X : Cx}
end
/-! ### f() -/
section
open PySem.Spec PyProof.Rows
variable {X : Cx} {CX : CXT} {k : Nat} {f : Addr} {fd : FuncData} {ps : List Str} {sp : Sp} {E : L2.St → XK} {x : Str} {p pos : Pos}
end
end Fw

namespace Fw
open PySem L2
/-! ### expressions that change things, within a comprehension -/
section
variable {c : Cn} {W0 : Wd} {X : WX} {As : List Sl} {α β γ ρ τ : Type} {Bs : α → List Sl}
end
/-! ### .. the comprehension -/
section
variable {α β γ : Type}
end
section
variable {K : Frag} {W0 Wb W W' : Wd} {As : List Sl} {σ σ2 : L2.St} {D : Addr} {o : HO} {vs : List Nat}
theorem Hd.same {A : Sl} {o : Option V} {f : List Addr} (hg : W'.G = W.G) (hf : ∀ a ∈ f, W.G a = none ∧ W'.H a = W.H a) (h : Hd K A o W f) : Hd K A o W' f := by
  cases A with
  | un => trivial
  | fr x => obtain ⟨v, e1, r⟩ := h; exact ⟨v, e1, hg ▸ r⟩
  | ow x =>
    obtain ⟨v, e1, r, pn⟩ := h
    refine ⟨v, e1, Ob.keep r (hg ▸ Inc.refl _) (fun a ha => hg ▸ (hf a ha).1) fun a ha => (hf a ha).2, pn⟩
end
section
variable {c : Cn} {W0 : Wd} {α β γ : Type}
end
/-! ### within a statement -/
section
variable {c : Cn} {X : WX} {As : List Sl} {J S ρ α : Type} {kr : ρ → Kd} {Ls : List Sl} {Js : J → List Sl} {B : Bd} {Bs : S → List Sl}
end
end Fw

namespace Fw
open PySem L2
/-! ### list(d.values()), d of tuples -/
section
open PySem.Spec PyProof.Rows
variable {X : Cx} {e : Expr} {te : TE} {p apos cpos pos : Pos}
end
section
variable {α β : Type} [Rp α] [KT α] [DecidableEq α] [Rp β] {c : Cn} {W0 : Wd} {X : WX} {As : List Sl}
end
/-! ### a for over a list, a call within -/
section
variable {c : Cn} {W0 : Wd} {As : List Sl} {α β γ : Type}
end
end Fw

namespace Fw
open PySem L2
/-! ### a call that changes, within a test: not .. -/
section
variable {c : Cn} {W0 : Wd} {As : List Sl}
end
end Fw

namespace Fw
open PySem L2
/-! ### a call that changes several own things and tells something frozen, within a statement -/
section
variable {c : Cn} {X : WX} {As : List Sl} {γ τ S J' S' ρ : Type} {kr : ρ → Kd} {Ls : List Sl} {Js : J' → List Sl} {B : Bd} {Bs : S' → List Sl} {ins : τ → List Sl} {outs : S → List Sl} {f : τ → R S}
end
/-! ### flat things told by a call: whatever the ground -/
section
variable {c : Cn} {W0 : Wd} {As : List Sl} {v : V} {G : Hp}
end
end Fw

namespace Fw
open PySem L2
/-! ### a dict of own lists: d[k] = a new list -/
section
variable {κ α : Type} [DecidableEq κ] [Rp κ] [DKy κ] [Rp α]
variable {c : Cn} {W0 : Wd} {X : WX} {As : List Sl} {J S ρ : Type} {kr : ρ → Kd} {Ls : List Sl} {Js : J → List Sl} {B : Bd} {Bs : S → List Sl}
end
end Fw

namespace Fw
open PySem L2
/-! ### a dict of own lists whose addresses are known: for x in d[k] -/
structure DGq (κ α : Type) where
  x : DGk κ α
  p : Addr
  q : List (κ × V)
section
variable {κ α : Type} [DecidableEq κ] [Rp κ] [DKy κ] [Rp α]
def ownQ (K : Frag) (y : DGq κ α) (v : V) (f : List Addr) (W : Wd) : Prop := ∃ qs : List Addr, v = .ref y.p ∧ f = y.p :: qs ∧ (y.p :: qs).Nodup ∧ W.G y.p = none ∧ W.H y.p = some (DKy.ho y.q) ∧ y.q.map (·.1) = y.x.l.map (·.1) ∧ y.q.map (·.2) = qs.map V.ref ∧ (y.x.l.map (·.1)).Nodup ∧ DRows K (y.x.l.map (·.2)) qs W ∧ y.x.l.length ≤ sizeLine
theorem ownQ_ownK {K : Frag} {y : DGq κ α} {v : V} {f : List Addr} {W : Wd} (h : ownQ K y v f W) : ownK K y.x v f W := by
  obtain ⟨qs, e, ef, nd, g, hh, k1, k2, kn, dr, l⟩ := h
  exact ⟨y.p, y.q, qs, e, ef, nd, g, hh, k1, k2, kn, dr, l⟩
instance : Ob (DGq κ α) where
  own := ownQ
  keep := fun {K y v f W W'} ⟨qs, e, ef, nd, g, h, k1, k2, kn, r, l⟩ s n k => by
    subst ef
    exact ⟨qs, e, rfl, nd, n y.p (by simp), (k y.p (by simp)).trans h, k1, k2, kn, r.keep s (fun b hb => n b (List.mem_cons_of_mem _ hb)) fun b hb => k b (List.mem_cons_of_mem _ hb), l⟩
  foot := fun {K y v f W} h b hb => Ob.foot (show Ob.own K y.x v f W from ownQ_ownK h) b hb
variable {c : Cn} {X : WX} {As : List Sl} {J S T ρ : Type} {kr : ρ → Kd} {Ls : List Sl} {Js : J → List Sl} {B : Bd} {Bs : S → List Sl}
variable {Cs : T → List Sl}
end
end Fw

namespace Fw
open PySem L2
/-! ### a statement for whose time a dict of own lists is locked; own lists of plain values may change within -/
/-- a slot as it is, its value, as it is looked at -/
inductive FvE : Sl → V → Sl → Prop
  | un {A : Sl} {v : V} : FvE A v .un
  | fr {α : Type} [Rp α] {x : α} {v : V} : FvE (.fr x) v (.fr x)
  | ow {α : Type} [Fz α] {pin : Option V} {x : α} {v : V} : FvE (.ow pin x) v (.fr (Pn.mk x v))
  | pf {α : Type} [Rp α] {x : α} {v : V} : FvE (.fr x) v (.fr (Pn.mk x v))
  | ot {α : Type} [Sc α] {pin : Option V} {x : List α} {v : V} : FvE (.ow pin x) v (.ow none x)
inductive FvL : List Sl → List V → List Sl → Prop
  | nil : FvL [] [] []
  | cons {A B : Sl} {v : V} {As Bs : List Sl} {vs : List V} : FvE A v B → FvL As vs Bs → FvL (A :: As) (v :: vs) (B :: Bs)
/-- at the end: as it was, as it was looked at, as it is -/
inductive FvF : Sl → V → Sl → Sl → Prop
  | un {A B : Sl} {v : V} : FvF A v B .un
  | fr {α : Type} [Sc α] {A : Sl} {x : α} {v : V} : FvF A v (.fr x) (.fr x)
  | ow {α : Type} [Fz α] {pin : Option V} {x : α} {v : V} : FvF (.ow pin x) v (.fr (Pn.mk x v)) (.ow pin x)
  | pf {α : Type} [Rp α] {x : α} {v : V} : FvF (.fr x) v (.fr (Pn.mk x v)) (.fr x)
  | ot {α : Type} [Sc α] {x y : List α} {v : V} : FvF (.ow none x) v (.ow none y) (.ow none y)
inductive FvN : List Sl → List V → List Sl → List Sl → Prop
  | nil : FvN [] [] [] []
  | cons {A B C : Sl} {v : V} {As Bs Cs : List Sl} {vs : List V} : FvF A v B C → FvN As vs Bs Cs → FvN (A :: As) (v :: vs) (B :: Bs) (C :: Cs)
theorem FvL.len {As Bs : List Sl} {vs : List V} (h : FvL As vs Bs) : As.length = Bs.length ∧ vs.length = As.length := by
  induction h with
  | nil => exact ⟨rfl, rfl⟩
  | cons _ _ ih => exact ⟨congrArg (· + 1) ih.1, congrArg (· + 1) ih.2⟩
theorem FvL.get {As Bs : List Sl} {vs : List V} (h : FvL As vs Bs) : ∀ (k : Nat) B, Bs[k]? = some B → ∃ A v, As[k]? = some A ∧ vs[k]? = some v ∧ FvE A v B := by
  induction h with
  | nil => intro k B e; simp at e
  | cons h _ ih => intro k B e; cases k with
    | zero => cases e; exact ⟨_, _, rfl, rfl, h⟩
    | succ k => exact ih k B e
theorem FvN.len {As Bs Cs : List Sl} {vs : List V} (h : FvN As vs Bs Cs) : Bs.length = Cs.length := by
  induction h with
  | nil => rfl
  | cons _ _ ih => exact congrArg (· + 1) ih
theorem FvN.get {As Bs Cs : List Sl} {vs : List V} (h : FvN As vs Bs Cs) : ∀ (k : Nat) C, Cs[k]? = some C → ∃ A v B, As[k]? = some A ∧ vs[k]? = some v ∧ Bs[k]? = some B ∧ FvF A v B C := by
  induction h with
  | nil => intro k C e; simp at e
  | cons h _ ih => intro k C e; cases k with
    | zero => cases e; exact ⟨_, _, _, rfl, rfl, rfl, h⟩
    | succ k => exact ih k C e
section
open Classical
variable {κ α : Type} [DecidableEq κ] [Rp κ] [DKy κ] [Rp α] {K : Frag} {W0 W : Wd} {As Bs : List Sl} {σ : St}
end
section
variable {J S ρ : Type}
/-- neither returns nor jumps; a raise is not looked at -/
def Out.lkabs (m : Out S Empty Empty) : Out S J ρ := match m with
  | .nx s => .nx s
  | .rt r => nomatch r
  | .bk j => nomatch j
  | .ct j => nomatch j
  | .ex _ => .no
  | .no => .no
@[simp] theorem Out.lkabs_nx (s : S) : (Out.nx s : Out S Empty Empty).lkabs = (Out.nx s : Out S J ρ) := rfl
variable {κ α : Type} [DecidableEq κ] [Rp κ] [DKy κ] [Rp α]
variable {c : Cn} {X : WX} {kr : ρ → Kd} {Ls : List Sl} {Js : J → List Sl} {B : Bd} {As : List Sl} {Cs : S → List Sl}
end
end Fw

namespace Fw
open PySem L2
/-! ### a dict of own dicts: v = d.setdefault(k, {}) -/
structure DDk (κ κ' α : Type) where
  l : List (κ × List (κ' × α))
deriving DecidableEq
/-- the same, the dict at k lent to a name -/
structure DDh (κ κ' α : Type) where
  l : List (κ × List (κ' × α))
  k : κ
  b : Addr
section
variable {κ κ' α : Type} [DecidableEq κ] [Rp κ] [DKy κ] [DecidableEq κ'] [Rp κ'] [DKy κ'] [Rp α]
def ownDD (K : Frag) (x : DDk κ κ' α) (v : V) (f : List Addr) (W : Wd) : Prop := ∃ (p : Addr) (q : List (κ × V)) (qs : List Addr), v = .ref p ∧ f = p :: qs ∧ (p :: qs).Nodup ∧ W.G p = none ∧ W.H p = some (DKy.ho q) ∧ q.map (·.1) = x.l.map (·.1) ∧ q.map (·.2) = qs.map V.ref ∧ (x.l.map (·.1)).Nodup ∧ (∀ (j : Nat) xi b, (x.l.map (·.2))[j]? = some xi → qs[j]? = some b → Ob.own K (Dk.mk xi : Dk κ' α) (.ref b) [b] W) ∧ x.l.length ≤ sizeLine
def ownDH (K : Frag) (x : DDh κ κ' α) (v : V) (f : List Addr) (W : Wd) : Prop := ∃ (p : Addr) (q : List (κ × V)) (qs : List Addr), v = .ref p ∧ f = p :: qs.filter (fun a => decide (a ≠ x.b)) ∧ (p :: qs).Nodup ∧ W.G p = none ∧ W.H p = some (DKy.ho q) ∧ q.map (·.1) = x.l.map (·.1) ∧ q.map (·.2) = qs.map V.ref ∧ (x.l.map (·.1)).Nodup ∧ valV q x.k = some (.ref x.b) ∧ (∀ (j : Nat) xi b, (x.l.map (·.2))[j]? = some xi → qs[j]? = some b → b ≠ x.b → Ob.own K (Dk.mk xi : Dk κ' α) (.ref b) [b] W) ∧ x.l.length ≤ sizeLine
theorem dd_len {q : List (κ × V)} {l : List (κ × List (κ' × α))} {qs : List Addr} (k1 : q.map (·.1) = l.map (·.1)) (k2 : q.map (·.2) = qs.map V.ref) : qs.length = l.length := by
  have h1 := congrArg List.length k1
  have h2 := congrArg List.length k2
  simp at h1 h2
  omega
instance : Ob (DDk κ κ' α) where
  own := ownDD
  keep := fun {K x v f W W'} ⟨p, q, qs, e, ef, nd, g, h, k1, k2, kn, r, l⟩ s n k => by
    subst ef
    refine ⟨p, q, qs, e, rfl, nd, n p (by simp), (k p (by simp)).trans h, k1, k2, kn, fun j xi b h1 h2 => ?_, l⟩
    have hb : b ∈ p :: qs := List.mem_cons_of_mem _ (List.mem_of_getElem? h2)
    exact Ob.keep (r j xi b h1 h2) s (fun a ha => by rw [List.mem_singleton.mp ha]; exact n b hb) fun a ha => by rw [List.mem_singleton.mp ha]; exact k b hb
  foot := fun {K x v f W} ⟨p, q, qs, e, ef, nd, g, h, k1, k2, kn, r, l⟩ b hb => by
    subst ef
    rcases List.mem_cons.mp hb with z | hb
    · subst z
      exact ⟨g, by rw [h]; exact ho_ne q⟩
    · obtain ⟨j, hj, e⟩ := List.getElem_of_mem hb
      have hl := dd_len (l := x.l) k1 k2
      have h1 : (x.l.map (·.2))[j]? = some ((x.l.map (·.2))[j]'(by rw [List.length_map]; omega)) := List.getElem?_eq_getElem (show j < (x.l.map (·.2)).length by rw [List.length_map]; omega)
      exact Ob.foot (r j _ b h1 (by rw [List.getElem?_eq_getElem hj, e])) b (by simp)
instance : Ob (DDh κ κ' α) where
  own := ownDH
  keep := fun {K x v f W W'} ⟨p, q, qs, e, ef, nd, g, h, k1, k2, kn, hv, r, l⟩ s n k => by
    subst ef
    refine ⟨p, q, qs, e, rfl, nd, n p (by simp), (k p (by simp)).trans h, k1, k2, kn, hv, fun j xi b h1 h2 h3 => ?_, l⟩
    have hb : b ∈ p :: qs.filter (fun a => decide (a ≠ x.b)) := List.mem_cons_of_mem _ (List.mem_filter.mpr ⟨List.mem_of_getElem? h2, decide_eq_true h3⟩)
    exact Ob.keep (r j xi b h1 h2 h3) s (fun a ha => by rw [List.mem_singleton.mp ha]; exact n b hb) fun a ha => by rw [List.mem_singleton.mp ha]; exact k b hb
  foot := fun {K x v f W} ⟨p, q, qs, e, ef, nd, g, h, k1, k2, kn, hv, r, l⟩ b hb => by
    subst ef
    rcases List.mem_cons.mp hb with z | hb
    · subst z
      exact ⟨g, by rw [h]; exact ho_ne q⟩
    · obtain ⟨hb1, hb2⟩ := List.mem_filter.mp hb
      obtain ⟨j, hj, e⟩ := List.getElem_of_mem hb1
      have hl := dd_len (l := x.l) k1 k2
      have h1 : (x.l.map (·.2))[j]? = some ((x.l.map (·.2))[j]'(by rw [List.length_map]; omega)) := List.getElem?_eq_getElem (show j < (x.l.map (·.2)).length by rw [List.length_map]; omega)
      exact Ob.foot (r j _ b h1 (by rw [List.getElem?_eq_getElem hj, e]) (of_decide_eq_true hb2)) b (by simp)
end
section
variable {K : Frag} {W0 W : Wd} {As : List Sl} {σ : St} {i j : Nat}
end
section
variable {κ κ' α : Type} [DecidableEq κ] [Rp κ] [DKy κ] [DecidableEq κ'] [Rp κ'] [DKy κ'] [Rp α]
variable {c : Cn} {W0 : Wd} {X : WX} {As : List Sl} {J S ρ : Type} {kr : ρ → Kd} {Ls : List Sl} {Js : J → List Sl} {B : Bd} {Bs : S → List Sl}
end
end Fw

namespace Fw
open PySem L2
/-! ### for a, b in [(x, y), (x', y')]: x, x' new lists, changed in the body -/
/-- the ground with what is still pending -/
def Wd.gr (W0 W : Wd) (S : List Addr) (le : Le W0 W) : Wd := ⟨W.G, fun a => if a ∈ S then W.H a else (W0.rb W le).H a, fun a o e => by
  show (if a ∈ S then W.H a else (W0.rb W le).H a) = some o
  by_cases h : a ∈ S
  · rw [if_pos h]; exact W.sub a o e
  · rw [if_neg h]; exact (W0.rb W le).sub a o e, fun a u h i => by
  have h : (if a ∈ S then W.H a else (W0.rb W le).H a) = some u := h
  by_cases z : a ∈ S
  · rw [if_pos z] at h; exact W.im a u h i
  · rw [if_neg z] at h; exact (W0.rb W le).im a u h i⟩
section
variable {W0 W : Wd} {S S' : List Addr} {le : Le W0 W}
theorem gr_in {a : Addr} (h : a ∈ S) : (W0.gr W S le).H a = W.H a := if_pos h
theorem gr_ni {a : Addr} (h : a ∉ S) : (W0.gr W S le).H a = (W0.rb W le).H a := if_neg h
theorem Le.gr1 : Le (W0.gr W S le) W := ⟨Inc.refl _, fun a o e => by
  by_cases h : a ∈ S
  · rw [gr_in h] at e; exact e
  · rw [gr_ni h] at e; exact (Le.rb1 le).h a o e, fun _ g _ => g⟩
theorem Le.grS (hs : ∀ a ∈ S', a ∈ S) : Le (W0.gr W S' le) (W0.gr W S le) := ⟨Inc.refl _, fun a o e => by
  have w := (Le.gr1 (S := S')).h a o e
  by_cases h : a ∈ S
  · rw [gr_in h]; exact w
  · rw [gr_ni h]
    rw [gr_ni (fun z => h (hs a z))] at e
    exact e, fun _ g _ => g⟩
theorem Le.gr0 : Le W0 (W0.gr W S le) := (Le.rb0 le).trans ⟨Inc.refl _, fun a o e => by
  by_cases h : a ∈ S
  · rw [gr_in h]; exact (Le.rb1 le).h a o e
  · rw [gr_ni h]; exact e, fun _ g _ => g⟩
end
section
variable {K : Frag} {W0 W W2 : Wd} {As : List Sl} {σ : St}
theorem At.pend {S : List Addr} {le : Le W0 W2} (h : At K W0 As σ W) (e : Le W W2) (hS : ∀ a ∈ S, W.H a = none) : At K (W0.gr W2 S le) As σ W2 := by
  obtain ⟨l, _, F, h1, h2, h3⟩ := h
  refine ⟨l, Le.gr1, F, fun i B o a b => Hd.mono e (fun d hd => ⟨(h3 i d hd).1, (h3 i d hd).2.1⟩) (h1 i B o a b), h2, fun i a ha => ?_⟩
  obtain ⟨p1, p2, p3⟩ := h3 i a ha
  have g2 := e.o a p1 p2
  refine ⟨g2, fun z => ?_, ?_⟩
  · cases q : W.H a with
    | none => exact p2 q
    | some u => rw [e.h a u q] at z; cases z
  · rw [gr_ni (fun z => p2 (hS a z))]
    exact Wd.rb_none p3 g2
theorem At.take {α : Type} [Ob α] {x : α} {i : Nat} {p a : Addr} {S : List Addr} {le : Le W0 W2} (h : At K (W0.gr W2 (p :: a :: S) le) As σ W) (o : Ob.own K x (.ref a) [a] W2) (na : a ∉ p :: S) (a0 : W0.H a = none) : At K (W0.gr W2 (p :: S) le) (As.set i (.ow none x)) (σ.set i (some (.ref a))) W := by
  obtain ⟨l, lw, F, h1, h2, h3⟩ := h
  obtain ⟨ga, ha⟩ := Ob.foot o a (by simp)
  have ia : a ∈ p :: a :: S := by simp
  have hga : (W0.gr W2 (p :: a :: S) le).H a = W2.H a := gr_in ia
  have gW : W.G a = none := lw.o a ga (by rw [hga]; exact ha)
  have hW : W.H a = W2.H a := by
    cases q : W2.H a with
    | none => exact absurd q ha
    | some u => exact lw.h a u (by rw [hga, q])
  have nF : ∀ k b, b ∈ F k → b ≠ a := fun k b hb z => by
    have := (h3 k b hb).2.2
    rw [z, hga] at this
    exact ha this
  have sub : Le (W0.gr W2 (p :: S) le) (W0.gr W2 (p :: a :: S) le) := Le.grS fun b hb => by
    rcases List.mem_cons.mp hb with z | z
    · rw [z]; simp
    · exact List.mem_cons_of_mem _ (List.mem_cons_of_mem _ z)
  refine ⟨by simp [l], sub.trans lw, fun k => if k = i then [a] else F k, fun k B o' e1 e2 => ?_, fun k m b n hb hb2 => ?_, fun k b hb => ?_⟩
  · by_cases q : i = k
    · subst q
      rw [get_set_eq e1, get_set_eq e2]
      dsimp only
      rw [if_pos rfl]
      exact ⟨.ref a, rfl, Ob.keep o lw.g (fun d hd => by rw [List.mem_singleton.mp hd]; exact gW) (fun d hd => by rw [List.mem_singleton.mp hd]; exact hW), fun u e => nomatch e⟩
    · rw [get_set_ne q] at e1 e2
      dsimp only
      rw [if_neg (Ne.symm q)]
      exact h1 k B o' e1 e2
  · dsimp only at hb hb2
    by_cases q : k = i
    · rw [if_pos q] at hb
      by_cases q2 : m = i
      · exact n (q.trans q2.symm)
      · rw [if_neg q2] at hb2
        exact nF m b hb2 (List.mem_singleton.mp hb)
    · rw [if_neg q] at hb
      by_cases q2 : m = i
      · rw [if_pos q2] at hb2
        exact nF k b hb (List.mem_singleton.mp hb2)
      · rw [if_neg q2] at hb2
        exact h2 k m b n hb hb2
  · dsimp only at hb
    by_cases q : k = i
    · rw [if_pos q] at hb
      obtain rfl := List.mem_singleton.mp hb
      exact ⟨gW, by rw [hW]; exact ha, by rw [gr_ni na]; exact Wd.rb_none a0 ga⟩
    · rw [if_neg q] at hb
      obtain ⟨p1, p2, p3⟩ := h3 k b hb
      exact ⟨p1, p2, sub.h.nope p3⟩
end
section
variable {J S T ρ α β : Type} [Rp α] [Rp β] {c : Cn} {X : WX} {kr : ρ → Kd} {Ls : List Sl} {Js : J → List Sl} {B : Bd} {As : List Sl} {Bs : S → List Sl} {Cs : T → List Sl}
theorem for_pend {u tb : TS} {D : Ends} {σ : St} {xs : List (List α × β)} {p : Addr} {ts qs : List Addr} {W6 : Wd} {s0 : S} {f : S → (List α × β) → Out S S ρ} {kk : S → Out T J ρ} (i j : Nat) (le : Le B.W0 W6)
    (hl : ts.length = xs.length) (ql : qs.length = xs.length) (hp : W6.H p = some (.lst (ts.map V.ref)))
    (ht : ∀ (k : Nat) t x q, ts[k]? = some t → qs[k]? = some q → xs[k]? = some x → ∃ w, W6.G t = some (.tup [.ref q, w]) ∧ Rp.rep c.K x.2 w W6.G ∧ Ob.own c.K x.1 (.ref q) [q] W6)
    (nd : (p :: qs).Nodup) (fr : ∀ a ∈ qs, B.W0.H a = none)
    (hb : ∀ s (z : List α × β) B', Den c X kr Ls Bs B' tb (((Bs s).set i (.ow none z.1)).set j (.fr z.2)) (f s z) Bs) (hk : ∀ s, Den c X kr Ls Js B u (Bs s) (kk s) Cs)
    (a : At c.K (B.W0.gr W6 (p :: qs) le) (Bs s0) σ W6) (fn : Fin c X kr Ls Js B Cs D ((forL xs s0 f).bind kk)) :
    ∃ W : Nat → Nat → St → Hp → Prop, (∃ m, W 0 m σ W6.H) ∧ ∀ i' m σ H, W i' m σ H → ((Itl c.K p).stop i' H ∧ u D σ H) ∨ ((Itl c.K p).go i' H ∧ ∃ N : St → Hp → Prop, (∀ σ' H', N σ' H' → ∃ m', m' < m ∧ W (i' + 1) m' σ' H') ∧ ∀ x H', (Itl c.K p).yld i' H x H' → gTup c.K 2 (gCons (gName i) (gCons (gName j) gNil)) x σ H' fun σ2 H2 => tb { D with nx := N, ct := N, bk := u D } σ2 H2) := by
  have fin0 : Fin c X kr Ls Js B Bs { D with nx := u D } (forL xs s0 f) := by
    have fn' : Fin c X kr Ls Js B Cs D ((forL xs s0 f).bind kk) := fn
    revert fn'
    generalize (forL xs s0 f : Out S J ρ) = o
    intro fn'
    cases o with
    | nx s => exact fun σ' W' a' => hk s D σ' W' a' fn'
    | _ => exact fn'
  refine ⟨fun i' n σ H => ∃ (Wd' : Wd) (s : S), H = Wd'.H ∧ At c.K (B.W0.gr W6 (p :: qs.drop i') le) (Bs s) σ Wd' ∧ n = xs.length - i' ∧ i' ≤ xs.length ∧ Fin c X kr Ls Js B Bs { D with nx := u D } (forL (xs.drop i') s f), ⟨xs.length, W6, s0, rfl, a, by simp, Nat.zero_le _, fin0⟩, ?_⟩
  rintro m n σ H ⟨Wi, s, rfl, ai, rfl, il, fi⟩
  have hpi : Wi.H p = some (.lst (ts.map V.ref)) := ai.le.h p _ (by rw [gr_in (by simp)]; exact hp)
  have hs : SqL c.K Wi.H p (ts.map V.ref) := .inl (.inl hpi)
  by_cases ci : m = xs.length
  · refine .inl ⟨⟨_, hs, by rw [List.length_map]; omega⟩, ?_⟩
    rw [ci, List.drop_length] at fi
    exact fi σ Wi (ai.re Le.gr0)
  · have hx : xs[m]? = some (xs[m]'(by omega)) := List.getElem?_eq_getElem (by omega)
    have hq : qs[m]? = some (qs[m]'(by omega)) := List.getElem?_eq_getElem (by omega)
    have htm : ts[m]? = some (ts[m]'(by omega)) := List.getElem?_eq_getElem (by omega)
    generalize (xs[m]'(by omega)) = x at hx
    generalize (qs[m]'(by omega)) = q at hq
    generalize (ts[m]'(by omega)) = t at htm
    obtain ⟨w, gt, rw_, ow⟩ := ht m t x q htm hq hx
    have htm' : (ts.map V.ref)[m]? = some (.ref t) := by rw [List.getElem?_map, htm]; rfl
    rw [drop_cons hx] at fi
    have ai' := ai
    rw [drop_cons hq] at ai'
    have nq : q ∉ p :: qs.drop (m + 1) := fun z => by
      have hnd := List.nodup_cons.mp nd
      rcases List.mem_cons.mp z with z | z
      · exact hnd.1 (z ▸ List.mem_of_getElem? hq)
      · have h2 : (qs.drop m).Nodup := List.Pairwise.sublist (List.drop_sublist _ _) hnd.2
        rw [drop_cons hq] at h2
        exact (List.nodup_cons.mp h2).1 z
    refine .inr ⟨⟨_, _, hs, htm'⟩, fun σ' H' => ∃ (Wd' : Wd) (s : S), H' = Wd'.H ∧ At c.K (B.W0.gr W6 (p :: qs.drop (m + 1)) le) (Bs s) σ' Wd' ∧ Fin c X kr Ls Js B Bs { D with nx := u D } (forL (xs.drop (m + 1)) s f), fun σ' H' ⟨W', s', e1, e2', e3⟩ => ⟨xs.length - (m + 1), by omega, W', s', e1, e2', rfl, by omega, e3⟩, fun v H' hy => ?_⟩
    obtain ⟨eh, kv⟩ := hy
    subst eh
    have e5 := kv _ hs
    rw [htm'] at e5
    cases e5
    have a3 := ai'.take (i := i) ow nq (fr q (List.mem_of_getElem? hq))
    have g6 : Inc W6.G Wi.G := ai.le.g
    have hgt : Wi.H t = some (.tup [.ref q, w]) := Wi.sub _ _ (g6 _ _ gt)
    refine ⟨t, [.ref q, w], rfl, .inl (.inl hgt), rfl, .ref q, [w], rfl, w, [], rfl, rfl, ?_⟩
    refine hb s x (B.re (B.W0.gr W6 (p :: qs.drop (m + 1)) le) Le.gr0) _ _ Wi (a3.setF (i := j) (Rp.mono g6 rw_)) ?_
    have fi' : Fin c X kr Ls Js B Bs { D with nx := u D } (match f s x with
      | .nx s' => forL (xs.drop (m + 1)) s' f
      | .ct s' => forL (xs.drop (m + 1)) s' f
      | .bk s' => .nx s'
      | .rt r => .rt r
      | .ex e => .ex e
      | .no => .no) := fi
    revert fi'
    show _ → Fin c X kr Ls Bs (B.re (B.W0.gr W6 (p :: qs.drop (m + 1)) le) Le.gr0) Bs _ (f s x)
    generalize f s x = o
    intro fi'
    cases o with
    | nx s' => exact fun σ3 W3 a3 => ⟨W3, s', rfl, a3, fi'⟩
    | ct s' => exact fun σ3 W3 a3 => ⟨W3, s', rfl, a3, fi'⟩
    | bk s' => exact fun σ3 W3 a3 => fi' σ3 W3 (a3.re Le.gr0)
    | rt r => exact fun v W3 l p => fi' v W3 (Le.gr0.trans l) p
    | ex e => exact fi'
    | no => exact fi'
theorem d_for2P {ta1 tb1 ta2 tb2 : TE} {u tb : TS} {m1 m2 : R (List α)} {n1 n2 : R β} {s0 : S} {f : S → (List α × β) → Out S S ρ} {kk : S → Out T J ρ} (i j : Nat) (lx : Lx Ls As) (w : Wk As (Bs s0))
    (h1 : Exr c B.W0 X ta1 As m1 fun x => kNw c.K x) (g1 : Exr c B.W0 X tb1 As n1 fun x => kFr c.K x) (h2 : Exr c B.W0 X ta2 As m2 fun x => kNw c.K x) (g2 : Exr c B.W0 X tb2 As n2 fun x => kFr c.K x)
    (hb : ∀ s (z : List α × β) B', Den c X kr Ls Bs B' tb (((Bs s).set i (.ow none z.1)).set j (.fr z.2)) (f s z) Bs) (hk : ∀ s, Den c X kr Ls Js B u (Bs s) (kk s) Cs) :
    Den c X kr Ls Js B (tSeq (tFor (iList c.K (tLst (tCons (tTup (tCons ta1 (tCons tb1 tNil))) (tCons (tTup (tCons ta2 (tCons tb2 tNil))) tNil)))) (gTup c.K 2 (gCons (gName i) (gCons (gName j) gNil))) tb) u) As (m1.to fun x1 => n1.to fun y1 => m2.to fun x2 => n2.to fun y2 => (forL [(x1, y1), (x2, y2)] s0 f).bind kk) Cs := fun D σ W a fn => by
  have e1 := h1 σ W a
  have e2 := g1 σ W a
  have e3 := h2 σ W a
  have e4 := g2 σ W a
  have two : (2 : Nat) ≤ sizeLine := by rw [sizeLine_eq]; decide
  cases m1 with
  | no => exact False.elim fn
  | ex e => exact e1 W (Le.refl _) _ fun cls d W2 l2 z => fn cls d σ W2 (lx_at lx (a.mono l2)) z
  | ok x1 =>
  refine e1 W (Le.refl _) _ fun v1 W1 l1 ⟨f1, o1, k1⟩ => ?_
  cases n1 with
  | no => exact False.elim fn
  | ex e => exact e2 W1 l1 _ fun cls d W2 l2 z => fn cls d σ W2 (lx_at lx (a.mono (l1.trans l2))) z
  | ok y1 =>
  refine e2 W1 l1 _ fun w1 W2 l2 r1 => ⟨two, fun t1 ht1 => ?_⟩
  have l3 : Le W2 (W2.nf t1 (.tup [v1, w1])) := Le.nf ht1
  have l03 := l1.trans (l2.trans l3)
  cases m2 with
  | no => exact False.elim fn
  | ex e => exact e3 (W2.nf t1 (.tup [v1, w1])) l03 _ fun cls d W2 l2 z => fn cls d σ W2 (lx_at lx (a.mono (l03.trans l2))) z
  | ok x2 =>
  refine e3 (W2.nf t1 (.tup [v1, w1])) l03 _ fun v2 W4 l4 ⟨f2, o2, k2⟩ => ?_
  have l04 := l03.trans l4
  cases n2 with
  | no => exact False.elim fn
  | ex e => exact e4 W4 l04 _ fun cls d W2 l2 z => fn cls d σ W2 (lx_at lx (a.mono (l04.trans l2))) z
  | ok y2 =>
  refine e4 W4 l04 _ fun w2 W5 l5 r2 => ⟨two, fun t2 ht2 => ?_⟩
  have l6 : Le W5 (W5.nf t2 (.tup [v2, w2])) := Le.nf ht2
  refine ⟨two, fun p hp => ?_⟩
  have l7 : Le (W5.nf t2 (.tup [v2, w2])) ((W5.nf t2 (.tup [v2, w2])).no p (.lst [.ref t1, .ref t2]) hp) := Le.no hp
  obtain ⟨q1, vs1, ev1, ef1, gq1, hq1, al1, ln1⟩ := o1
  obtain ⟨q2, vs2, ev2, ef2, gq2, hq2, al2, ln2⟩ := o2
  subst ev1 ef1 ev2 ef2
  have o1 : Ob.own c.K x1 (.ref q1) [q1] W1 := ⟨q1, vs1, rfl, rfl, gq1, hq1, al1, ln1⟩
  have o2 : Ob.own c.K x2 (.ref q2) [q2] W4 := ⟨q2, vs2, rfl, rfl, gq2, hq2, al2, ln2⟩
  have fq1 : W.H q1 = none := k1 q1 (by simp)
  have fq2' : (W2.nf t1 (.tup [.ref q1, w1])).H q2 = none := k2 q2 (by simp)
  have fq2 : W.H q2 = none := l03.h.nope fq2'
  have s17 : Le W1 ((W5.nf t2 (.tup [.ref q2, w2])).no p (.lst [.ref t1, .ref t2]) hp) := l2.trans (l3.trans (l4.trans (l5.trans (l6.trans l7))))
  have s47 : Le W4 ((W5.nf t2 (.tup [.ref q2, w2])).no p (.lst [.ref t1, .ref t2]) hp) := l5.trans (l6.trans l7)
  have l07 := l1.trans s17
  have fp : W.H p = none := (l04.trans (l5.trans l6)).h.nope hp
  have n12 : q1 ≠ q2 := fun z => by
    have h9 := (l2.trans l3).h _ _ hq1
    exact absurd fq2' (by rw [← z, h9]; exact fun z => nomatch z)
  have np1 : p ≠ q1 := fun z => by
    have h9 := (l2.trans (l3.trans (l4.trans (l5.trans l6)))).h _ _ hq1
    exact absurd hp (by rw [z]; show ¬ (W5.nf t2 (.tup [.ref q2, w2])).H q1 = none; rw [h9]; exact fun z => nomatch z)
  have np2 : p ≠ q2 := fun z => by
    have h9 := (l5.trans l6).h _ _ hq2
    exact absurd hp (by rw [z]; show ¬ (W5.nf t2 (.tup [.ref q2, w2])).H q2 = none; rw [h9]; exact fun z => nomatch z)
  refine ⟨p, rfl, ⟨_, .inl (.inl upd_same)⟩, ?_⟩
  refine for_pend (D := D) (u := u) (kk := kk) (xs := [(x1, y1), (x2, y2)]) (ts := [t1, t2]) (qs := [q1, q2]) i j (a.le.trans l07) rfl rfl upd_same (fun k t x q h1 h2 h3 => ?_) (by simp [np1, np2, n12]) (fun d hd => ?_) hb hk ((a.pend (S := [p, q1, q2]) l07 fun d hd => ?_).wk w) (show Fin c X kr Ls Js B Cs D ((forL [(x1, y1), (x2, y2)] s0 f).bind kk) from fn)
  · match k with
    | 0 =>
      cases h1; cases h2; cases h3
      exact ⟨w1, ((l4.trans (l5.trans (l6.trans l7))).g) _ _ upd_same, Rp.mono (l3.trans (l4.trans (l5.trans (l6.trans l7)))).g r1, own_up o1 s17⟩
    | 1 =>
      cases h1; cases h2; cases h3
      exact ⟨w2, l7.g _ _ upd_same, Rp.mono (l6.trans l7).g r2, own_up o2 s47⟩
    | k + 2 => simp at h1
  · simp only [List.mem_cons, List.not_mem_nil, or_false] at hd
    rcases hd with z | z <;> rw [z]
    · exact a.le.h.nope fq1
    · exact a.le.h.nope fq2
  · simp only [List.mem_cons, List.not_mem_nil, or_false] at hd
    rcases hd with z | z | z <;> rw [z]
    · exact fp
    · exact fq1
    · exact fq2
end
end Fw

namespace Fw
open PySem L2
/-! ### a pair of two own dicts, indexed by a number; upper -/
section
variable {α β : Type} {c : Cn} {W0 : Wd} {X : WX} {As : List Sl} {K : Frag}
theorem plc_pr0 [Fz α] [Fz β] {x : α × β} {pin : Option V} {ti : TE} (i : Nat) (hi : As[i]? = some (.ow pin x)) (hti : Exp c W0 ti As (kFr c.K (0 : Int))) : Plc c W0 (tOp (rIxT c.K) (tVar i) ti) As x.1 (fun y : α => As.set i (.ow pin (y, x.2))) := fun σ W a => by
  obtain ⟨v, f, hv, o, n0, chg⟩ := a.chgG hi
  obtain ⟨p, va, vb, fa, fb, e, hp, ef, o1, o2, d⟩ := o
  subst e ef
  have key : ∀ (z : α) W1, Le W W1 → ∀ (W' : Wd) (f' : List Addr), LeX W1 fa W' → Ob.own c.K z va f' W' → (∀ a ∈ f', a ∈ fa ∨ W1.H a = none) → At c.K W0 (As.set i (.ow pin (z, x.2))) σ W' := fun z W1 e W' f' lx o' hf => by
    have lx' := lx_of e lx
    have lx2 := lx_mono (g := fa ++ fb) (fun a ha => List.mem_append.mpr (.inl ha)) lx'
    refine chg (α × β) _ (z, x.2) W' (f' ++ fb) lx2.g lx2.o lx2.h ⟨p, va, vb, f', fb, rfl, lx2.g _ _ hp, rfl, o', Ob.keep o2 lx'.g (fun b hb => lx'.o b (fun z => d b z hb) (Ob.foot o2 b hb).1 (Ob.foot o2 b hb).2) (fun b hb => lx'.h b (fun z => d b z hb) (Ob.foot o2 b hb).2), fun b hb hb2 => ?_⟩ fun b hb => ?_
    · rcases hf b hb with q | q
      · exact d b q hb2
      · exact (Ob.foot o2 b hb2).2 (e.h.nope q)
    · rcases List.mem_append.mp hb with q | q
      · rcases hf b q with q | q
        · exact .inl (List.mem_append.mpr (.inl q))
        · exact .inr (e.h.nope q)
      · exact .inl (List.mem_append.mpr (.inr q))
  refine ⟨va, fa, fun W1 e Q q => ⟨_, hv, hti σ W a W1 e _ fun w W2 e2 hw => ?_⟩, o1, fun W1 e W' y f' lx o' hf => key y W1 e W' f' lx o' hf, fun W1 e W' f' lx o' hf => ?_⟩
  · have hw' : w = .int 0 := hw
    subst hw'
    exact ⟨p, [va, vb], 0, va, rfl, rfl, W2.sub.sqt (.inl (.inl ((e.trans e2).g _ _ hp))), rfl, q W2 e2⟩
  · have := key x.1 W1 e W' f' lx o' hf
    rwa [set_same hi] at this
theorem plc_pr1 [Fz α] [Fz β] {x : α × β} {pin : Option V} {ti : TE} (i : Nat) (hi : As[i]? = some (.ow pin x)) (hti : Exp c W0 ti As (kFr c.K (1 : Int))) : Plc c W0 (tOp (rIxT c.K) (tVar i) ti) As x.2 (fun y : β => As.set i (.ow pin (x.1, y))) := fun σ W a => by
  obtain ⟨v, f, hv, o, n0, chg⟩ := a.chgG hi
  obtain ⟨p, va, vb, fa, fb, e, hp, ef, o1, o2, d⟩ := o
  subst e ef
  have key : ∀ (z : β) W1, Le W W1 → ∀ (W' : Wd) (f' : List Addr), LeX W1 fb W' → Ob.own c.K z vb f' W' → (∀ a ∈ f', a ∈ fb ∨ W1.H a = none) → At c.K W0 (As.set i (.ow pin (x.1, z))) σ W' := fun z W1 e W' f' lx o' hf => by
    have lx' := lx_of e lx
    have lx2 := lx_mono (g := fa ++ fb) (fun a ha => List.mem_append.mpr (.inr ha)) lx'
    refine chg (α × β) _ (x.1, z) W' (fa ++ f') lx2.g lx2.o lx2.h ⟨p, va, vb, fa, f', rfl, lx2.g _ _ hp, rfl, Ob.keep o1 lx'.g (fun b hb => lx'.o b (fun z => d b hb z) (Ob.foot o1 b hb).1 (Ob.foot o1 b hb).2) (fun b hb => lx'.h b (fun z => d b hb z) (Ob.foot o1 b hb).2), o', fun b hb hb2 => ?_⟩ fun b hb => ?_
    · rcases hf b hb2 with q | q
      · exact d b hb q
      · exact (Ob.foot o1 b hb).2 (e.h.nope q)
    · rcases List.mem_append.mp hb with q | q
      · exact .inl (List.mem_append.mpr (.inl q))
      · rcases hf b q with q | q
        · exact .inl (List.mem_append.mpr (.inr q))
        · exact .inr (e.h.nope q)
  refine ⟨vb, fb, fun W1 e Q q => ⟨_, hv, hti σ W a W1 e _ fun w W2 e2 hw => ?_⟩, o2, fun W1 e W' y f' lx o' hf => key y W1 e W' f' lx o' hf, fun W1 e W' f' lx o' hf => ?_⟩
  · have hw' : w = .int 1 := hw
    subst hw'
    exact ⟨p, [va, vb], 1, vb, rfl, rfl, W2.sub.sqt (.inl (.inl ((e.trans e2).g _ _ hp))), rfl, q W2 e2⟩
  · have := key x.2 W1 e W' f' lx o' hf
    rwa [set_same hi] at this
/-- (a, b), both new -/
theorem e_prN [Fz α] [Fz β] {ta tb : TE} {x : α} {y : β} (h1 : Exp c W0 ta As (kNw c.K x)) (h2 : Exp c W0 tb As (kNw c.K y)) : Exp c W0 (tTup (tCons ta (tCons tb tNil))) As (kNw c.K (x, y)) := fun σ W a W1 e Q q =>
  h1 σ W a W1 e _ fun va W2 e2 ⟨fa, o1, n1⟩ => h2 σ W a W2 (e.trans e2) _ fun vb W3 e3 ⟨fb, o2, n2⟩ => ⟨by show (2 : Nat) ≤ sizeLine; rw [sizeLine_eq]; decide, fun p hp =>
    q _ (W3.nf p (.tup [va, vb])) (e2.trans (e3.trans (Le.nf hp))) ⟨fa ++ fb, ⟨p, va, vb, fa, fb, rfl, upd_same, rfl, own_up o1 (e3.trans (Le.nf hp)), own_up o2 (Le.nf hp), fun b hb hb2 => (Ob.foot o1 b hb).2 (n2 b hb2)⟩, fun b hb => by
      rcases List.mem_append.mp hb with z | z
      · exact n1 b z
      · exact e2.h.nope (n2 b z)⟩⟩
/-- a frozen pair of things alike, indexed by a number -/
@[irreducible] def R.ix2 (x : α × α) (n : Int) : R α := if n = 0 then .ok x.1 else if n = 1 then .ok x.2 else .no
theorem o_ix2 [Rp α] : Op2 (rIxT K) (fun x : α × α => kFr K x) (fun i : Int => kFr K i) R.ix2 (fun x : α => kFr K x) := fun x n => by
  unfold R.ix2
  by_cases h : n = 0
  · rw [if_pos h]
    subst h
    intro W0 W v w ⟨p, va, vb, ev, hp, r1, r2⟩ hw Q q
    have hw' : w = .int 0 := hw
    subst hw'
    exact ⟨p, [va, vb], 0, va, ev, rfl, W.sub.sqt hp, rfl, q va W (Le.refl _) r1⟩
  · rw [if_neg h]
    by_cases h1 : n = 1
    · rw [if_pos h1]
      subst h1
      intro W0 W v w ⟨p, va, vb, ev, hp, r1, r2⟩ hw Q q
      have hw' : w = .int 1 := hw
      subst hw'
      exact ⟨p, [va, vb], 1, vb, ev, rfl, W.sub.sqt hp, rfl, q vb W (Le.refl _) r2⟩
    · rw [if_neg h1]
      trivial
@[irreducible] def R.upper (s : Str) : R Str := if s.length ≤ 5592405 ∧ SOk (Txt.upper s) then .ok (Txt.upper s) else .no
end
section
variable {κ α β : Type} [DecidableEq κ] [Rp κ] [DKy κ] [Rp α] {c : Cn} {X : WX} {As : List Sl} {J S ρ : Type} {kr : ρ → Kd} {Ls : List Sl} {Js : J → List Sl} {B : Bd} {Bs : S → List Sl}
@[irreducible] def R.dputPr (x : Dq κ α × Dq κ α) (n : Int) (j : κ) (y : α) : R (Dq κ α × Dq κ α) := if n = 0 then (R.dput (Dk.mk x.1.l) j y).bind fun z => .ok (⟨z.l⟩, x.2) else if n = 1 then (R.dput (Dk.mk x.2.l) j y).bind fun z => .ok (x.1, ⟨z.l⟩) else .no
/-- x[n][k] = e -/
theorem d_dputPr {pin : Option V} {te ti tk : TE} {u : TS} {x : Dq κ α × Dq κ α} {m : R α} {j : κ} {q : Int} {k : Dq κ α × Dq κ α → Out S J ρ} (i : Nat) (hi : As[i]? = some (.ow pin x)) (lx : Lx Ls As) (h : Exr c B.W0 X te As m fun x => kFr c.K x) (hti : Exp c B.W0 ti As (kFr c.K q)) (hn : Exp c B.W0 tk As (kFr c.K j))
    (hk : ∀ z : Dq κ α × Dq κ α, Den c X kr Ls Js B u (As.set i (.ow pin z)) (k z) Bs) :
    Den c X kr Ls Js B (tSeq (sDPut (tOp (rIxT c.K) (tVar i) ti) tk te) u) As (m.to fun y => (R.dputPr x q j y).to k) Bs := by
  by_cases h0 : q = 0
  · subst h0
    have e : (fun y => (R.dputPr x 0 j y).to k) = fun y => (R.ok j).to fun j => (R.dput (Dk.mk x.1.l) j y).to fun z => k (Dq.mk z.l, x.2) := by
      funext y
      unfold R.dputPr
      rw [if_pos rfl]
      show _ = (R.dput (Dk.mk x.1.l) j y).to fun z => k (Dq.mk z.l, x.2)
      cases R.dput (Dk.mk x.1.l) j y <;> rfl
    rw [e]
    exact d_dputP (k := fun d => k (d, x.2)) (plc_pr0 i hi hti) lx h (exr_p hn) fun ys => hk _
  · by_cases h1 : q = 1
    · subst h1
      have e : (fun y => (R.dputPr x 1 j y).to k) = fun y => (R.ok j).to fun j => (R.dput (Dk.mk x.2.l) j y).to fun z => k (x.1, Dq.mk z.l) := by
        funext y
        unfold R.dputPr
        rw [if_neg (by decide), if_pos rfl]
        show _ = (R.dput (Dk.mk x.2.l) j y).to fun z => k (x.1, Dq.mk z.l)
        cases R.dput (Dk.mk x.2.l) j y <;> rfl
      rw [e]
      exact d_dputP (k := fun d => k (x.1, d)) (plc_pr1 i hi hti) lx h (exr_p hn) fun ys => hk _
    · have e : ∀ y, R.dputPr x q j y = .no := fun y => by
        unfold R.dputPr
        rw [if_neg h0, if_neg h1]
      intro D σ W a f
      have h' := h σ W a
      cases m with
      | no => exact False.elim f
      | ex e => exact h' W (Le.refl _) _ fun cls d W2 e2 z => f cls d σ W2 (lx_at lx (a.mono e2)) z
      | ok y =>
        have f2 : Fin c X kr Ls Js B Bs D ((R.dputPr x q j y).to k) := f
        rw [e] at f2
        exact False.elim f2
end
section
variable {κ α β : Type} [DecidableEq κ] [Rp κ] [PKy κ] [Rp α] {c : Cn} {X : WX} {As : List Sl} {J S ρ : Type} {kr : ρ → Kd} {Ls : List Sl} {Js : J → List Sl} {B : Bd} {Bs : S → List Sl}
@[irreducible] def R.popQ (x : Dq κ α) (k : κ) : R (Dq κ α) := if (Fw.dval x.l k).isSome then .ok ⟨x.l.filter fun p => decide (p.1 ≠ k)⟩ else .no
/-- P.pop(k) -/
theorem d_popQ {td tk : TE} {u : TS} {x : Dq κ α} {up : Dq κ α → List Sl} {n : R κ} {kk : Dq κ α → Out S J ρ} (pl : Plc c B.W0 td As x up) (lx : Lx Ls As) (hn : Exr c B.W0 X tk As n fun x => kFr c.K x)
    (hk : ∀ z : Dq κ α, Den c X kr Ls Js B u (up z) (kk z) Bs) :
    Den c X kr Ls Js B (tSeq (tDrop (tDPopG td tk)) u) As (n.to fun k => (R.popQ x k).to kk) Bs := fun D σ W a f => by
  have h' := hn σ W a
  obtain ⟨v, fp, ev, o, chg, _⟩ := pl σ W a
  obtain ⟨p, q, e, ef, g, hh, d, l⟩ := o
  subst e ef
  refine ev W (Le.refl _) _ fun W1 e1 => ⟨p, rfl, DKy.isD (.inl (e1.h _ _ hh)), ?_⟩
  cases n with
  | no => exact False.elim f
  | ex e => exact h' W1 e1 _ fun cls d W2 e2 z => f cls d σ W2 (lx_at lx (a.mono (e1.trans e2))) z
  | ok k =>
    refine h' W1 e1 _ fun w W2 e2 rw_ => ?_
    have e12 := e1.trans e2
    have f2 : Fin c X kr Ls Js B Bs D ((if (Fw.dval x.l k).isSome = true then R.ok (⟨x.l.filter fun p => decide (p.1 ≠ k)⟩ : Dq κ α) else .no).to kk) := by
      have f1 : Fin c X kr Ls Js B Bs D ((R.popQ x k).to kk) := f
      unfold R.popQ at f1
      exact f1
    cases ed : dval x.l k with
    | none => rw [ed] at f2; exact False.elim f2
    | some y =>
      rw [ed] at f2
      obtain ⟨v, ev, r⟩ := dr_valv d ed
      have g2 : W2.G p = none := e12.o p g (by rw [hh]; exact ho_ne _)
      refine ⟨v, _, PKy.pop rw_ W2.sub (e12.h _ _ hh) ev, ?_⟩
      exact hk _ D _ _ (chg W2 e12 (W2.mt p (DKy.ho (dropK q k)) g2 (ho_mut _)) ⟨x.l.filter fun p => decide (p.1 ≠ k)⟩ [p] lx_mt ⟨p, _, rfl, rfl, g2, upd_same, (d.mono e12.g).drop, Nat.le_trans (List.length_filter_le _ _) l⟩ fun b hb => .inl hb) f2
/-- x[1].pop(k) -/
theorem d_popPr1 {pin : Option V} {ti tk : TE} {u : TS} {x : Dq κ α × Dq κ α} {n : R κ} {kk : Dq κ α × Dq κ α → Out S J ρ} (i : Nat) (hi : As[i]? = some (.ow pin x)) (lx : Lx Ls As) (hti : Exp c B.W0 ti As (kFr c.K (1 : Int))) (hn : Exr c B.W0 X tk As n fun x => kFr c.K x)
    (hk : ∀ z : Dq κ α × Dq κ α, Den c X kr Ls Js B u (As.set i (.ow pin z)) (kk z) Bs) :
    Den c X kr Ls Js B (tSeq (tDrop (tDPopG (tOp (rIxT c.K) (tVar i) ti) tk)) u) As (n.to fun k => (R.popQ x.2 k).to fun d => kk (x.1, d)) Bs := d_popQ (kk := fun d => kk (x.1, d)) (plc_pr1 i hi hti) lx hn fun d => hk _
end
end Fw

namespace Fw
open PySem L2
instance {α β : Type} [Rp α] [Rp β] [NN α] [NN β] : NN (α ⊕ β) := ⟨fun {K x v G} h => by
  cases x with
  | inl a => exact NN.nn (α := α) (K := K) (G := G) (x := a) h
  | inr b => exact NN.nn (α := β) (K := K) (G := G) (x := b) h⟩
section
variable {c : Cn} {W0 : Wd} {X : WX} {As : List Sl}
/-- text.upper() -/
theorem r_upper {te : TE} {m : R Str} (h : Exr c W0 X te As m fun x => kFr c.K x) : Exr c W0 X (tM0 (fun x xs H Q => ∃ a, x = .str a ∧ xs = [] ∧ a.length ≤ 5592405 ∧ Q (.str (Txt.upper a)) H) te) As (m.bind R.upper) fun x : Str => kFr c.K x := fun σ W a => by
  have h' := h σ W a
  cases m with
  | no => trivial
  | ex e => exact fun W1 e1 Q q => h' W1 e1 _ q
  | ok s =>
    show SatR (R.upper s) _ _
    unfold R.upper
    by_cases z : s.length ≤ 5592405 ∧ SOk (Txt.upper s)
    · rw [if_pos z]
      exact fun W1 e1 Q q => h' W1 e1 _ fun v W2 e2 p => ⟨⟨s, p.1⟩, s, p.1, rfl, z.1, q _ W2 e2 ⟨rfl, z.2⟩⟩
    · rw [if_neg z]
      trivial
end
end Fw

namespace Mir
open PySem L2 Fw
noncomputable section
abbrev O_Shop:Type:=Ins "Shop" (Fd (Fd (Fd (Fd (Fd Fn "bench" (Fr (Str×(List (T3 Str Str (Str⊕(TZ (Str×Str)))))))) "size" (Fr (Int×Int))) "states" (Fr (List Int))) "woods" (Dq Str Int)) "prints" (DGk Str (Int×Int)))
@[irreducible] def m_pool_b (v_script:(Sq Int)) (v_k:Int):Out Unit Unit (List Int):=
  (lt (0:Int) fun (v_cell_1:Int)=>
  (Out.bind (if (decide (v_k < (v_script.l.length:Int))) then (R.to ((R.ok v_script.l).bind fun t28=>(R.ok v_k).bind fun t29=>(R.ix t28 t29)) fun (v_cell_30:Int)=>
  (.nx v_cell_30)) else (.nx v_cell_1)) fun (s2:Int)=>
  (if (decide (((10:Int) ^ (Int.toNat (18:Int))) ≤ s2)) then Out.abs (R.to ((((R.ok s2).bind fun t3=>(R.ok ((10:Int) ^ (Int.toNat (60:Int)))).bind fun t4=>(R.mod t3 t4)).bind fun t5=>(R.ok ()).bind fun t6=>(R.ok (t5,t6))).bind fun z7=>(R.ok [z7.1])) .rt) else
  (R.to (((R.ok (s2 % (2147483647:Int))).bind fun t10=>((R.ok ((48271:Int) * v_k)).bind fun t8=>(R.ok v_k).bind fun t9=>(R.mul t8 t9)).bind fun t11=>(R.ok (t10 + t11))).bind fun t12=>(R.ok (11:Int)).bind fun t13=>(R.ok (t12 + t13))) fun (v_number_14:Int)=>
  (lt (0:Int) fun (v_found_15:Int)=>
  (R.to ((R.ok (7:Int)).bind fun t16=>R.rng 0 t16) fun l26=>Out.bind (forL l26 (v_number_14,v_found_15) (fun (s17:(Int×Int)) (x18:Int)=>
   (lt (((s17.1 * (69621:Int)) + ((7919:Int) * x18)) % (2147483629:Int)) fun (v_number_19:Int)=>
  (R.to (((R.ok v_number_19).bind fun t20=>(R.ok v_number_19).bind fun t21=>(R.mul t20 t21)).bind fun t22=>(R.ok (t22 % (2147483587:Int)))) fun (v_number_23:Int)=>
  (lt ((s17.2 * (2147483629:Int)) + v_number_23) fun (v_found_24:Int)=>
  (.nx (v_number_23,v_found_24))))))) fun (s25:(Int×Int))=>
  (.rt [s25.2])))))))
@[irreducible] def m_pool (v_script:(Sq Int)) (v_k:Int):R (List Int):=(m_pool_b v_script v_k).run
@[irreducible] def m_take_b (v_pool_here:(List Int)) (v_many:Int):Out Empty Unit (Int×(List Int)):=
  (R.to (((R.ok v_pool_here).bind fun t1=>(R.ok (0:Int)).bind fun t2=>(R.ix t1 t2)).bind fun t3=>(R.ok v_many).bind fun t4=>(R.mod t3 t4)) fun (v_found_5:Int)=>
  (R.to (((R.ok v_pool_here).bind fun t6=>(R.ok (0:Int)).bind fun t7=>(R.ix t6 t7)).bind fun t8=>(R.ok v_many).bind fun t9=>(R.fdiv t8 t9)) fun t12=>R.to (R.ok (0:Int)) fun t13=>R.to (R.set v_pool_here t13 t12) fun (v_pool_here_10:(List Int))=>
  (R.to (R.ok v_found_5) fun r11=>.rt (r11,v_pool_here_10))))
@[irreducible] def m_take (v_pool_here:(List Int)) (v_many:Int):R (Int×(List Int)):=ioR (m_take_b v_pool_here v_many)
@[irreducible] def m_word_b (v_place:Int) (v_k:Int):Out Unit Unit Str:=
  (R.to ((((R.ok ("mmmm":Str)).bind fun t2=>(R.ok none).bind fun t3=>((R.ok v_place).bind fun t1=>(R.ok (some t1))).bind fun t4=>(R.ok (cutS t2 t3 t4))).bind fun t7=>((R.ok ("kxadzqbfwcgjyehtvn":Str)).bind fun t5=>(R.ok v_k).bind fun t6=>(R.ixS t5 t6)).bind fun t8=>(R.addS t7 t8)).bind fun t13=>((R.ok ("mmm":Str)).bind fun t10=>((R.ok v_place).bind fun t9=>(R.ok (some t9))).bind fun t11=>(R.ok none).bind fun t12=>(R.ok (cutS t10 t11 t12))).bind fun t14=>(R.addS t13 t14)) .rt)
@[irreducible] def m_word (v_place:Int) (v_k:Int):R Str:=(m_word_b v_place v_k).run
@[irreducible] def m_bench_b (v_pool_here:(List Int)):Out Empty Unit ((Str×(List (T3 Str Str (Str⊕(TZ (Str×Str))))))×(List Int)):=
  (R.to (((R.ok (4:Int)).bind fun t3=>(R.ok ()).bind fun t4=>(R.ok (t3,t4))).bind fun t5=>(R.ok ((),t5))) fun z6=>R.to (R.np (m_take v_pool_here z6.2.1)) fun r8=>(fun (h1:Int) (v_pool_here_7:(List Int))=>
  (lt h1 fun (v_place_9:Int)=>
  (R.to (((R.ok (6:Int)).bind fun t12=>(R.ok ()).bind fun t13=>(R.ok (t12,t13))).bind fun t14=>(R.ok ((),t14))) fun z15=>R.to (R.np (m_take v_pool_here_7 z15.2.1)) fun r17=>(fun (h10:Int) (v_pool_here_16:(List Int))=>
  (R.to (m_word v_place_9 h10) fun (v_paper_18:Str)=>
  (R.to (((R.ok (18:Int)).bind fun t21=>(R.ok ()).bind fun t22=>(R.ok (t21,t22))).bind fun t23=>(R.ok ((),t23))) fun z24=>R.to (R.np (m_take v_pool_here_16 z24.2.1)) fun r26=>(fun (h19:Int) (v_pool_here_25:(List Int))=>
  (lt h19 fun (v_shift_27:Int)=>
  (lt ([]:List (T3 Str Str (Str⊕(TZ (Str×Str))))) fun (v_inks_28:(List (T3 Str Str (Str⊕(TZ (Str×Str))))))=>
  (R.to (((R.ok (3:Int)).bind fun t31=>(R.ok ()).bind fun t32=>(R.ok (t31,t32))).bind fun t33=>(R.ok ((),t33))) fun z34=>R.to (R.np (m_take v_pool_here_25 z34.2.1)) fun r36=>(fun (h29:Int) (v_pool_here_35:(List Int))=>
  (R.to ((R.ok ((2:Int) + h29)).bind fun t37=>R.rng 0 t37) fun l117=>Out.bind (forL l117 (v_pool_here_35,v_inks_28) (fun (s38:((List Int)×(List (T3 Str Str (Str⊕(TZ (Str×Str))))))) (x39:Int)=>
   (R.to (m_word ((v_place_9 + (1:Int)) % (4:Int)) ((((7:Int) * x39) + v_shift_27) % (18:Int))) fun (v_name_40:Str)=>
  (R.to (((R.ok (3:Int)).bind fun t43=>(R.ok ()).bind fun t44=>(R.ok (t43,t44))).bind fun t45=>(R.ok ((),t45))) fun z46=>R.to (R.np (m_take s38.1 z46.2.1)) fun r48=>(fun (h41:Int) (v_pool_here_47:(List Int))=>
  (Out.bind (if (decide (h41 < (2:Int))) then (R.to (((R.ok (6:Int)).bind fun t52=>(R.ok ()).bind fun t53=>(R.ok (t52,t53))).bind fun t54=>(R.ok ((),t54))) fun z55=>R.to (R.np (m_take v_pool_here_47 z55.2.1)) fun r57=>(fun (h50:Int) (v_pool_here_56:(List Int))=>
  (R.to (((R.ok ("cover":Str)).bind fun t63=>((R.ok v_name_40).bind fun t61=>(((m_word v_place_9 h50).bind fun t58=>(R.ok (Sum.inl t58:(Str⊕(TZ (Str×Str)))))).bind fun t59=>(R.ok ()).bind fun t60=>(R.ok (t59,t60))).bind fun t62=>(R.ok (t61,t62))).bind fun t64=>(R.ok (t63,t64))).bind fun z65=>(R.ok (T3.mk z65.1 z65.2.1 z65.2.2.1))) fun t67=>R.to (R.app s38.2 t67) fun (v_inks_66:(List (T3 Str Str (Str⊕(TZ (Str×Str))))))=>
  (.nx (v_pool_here_56,v_inks_66)))) r57.1 r57.2) else (R.to ((R.ok (6:Int)).bind fun t68=>R.rng 0 t68) fun (v_unders_69:(List Int))=>
  (lt ([]:List (Str×Str)) fun (v_pairs_70:(List (Str×Str)))=>
  (R.to (((R.ok (3:Int)).bind fun t73=>(R.ok ()).bind fun t74=>(R.ok (t73,t74))).bind fun t75=>(R.ok ((),t75))) fun z76=>R.to (R.np (m_take v_pool_here_47 z76.2.1)) fun r78=>(fun (h71:Int) (v_pool_here_77:(List Int))=>
  (R.to ((R.ok ((1:Int) + h71)).bind fun t79=>R.rng 0 t79) fun l113=>Out.bind (forL l113 (v_pool_here_77,v_unders_69,v_pairs_70) (fun (s80:((List Int)×(List Int)×(List (Str×Str)))) (x81:Int)=>
   (R.to (((R.ok (s80.2.1.length:Int)).bind fun t84=>(R.ok ()).bind fun t85=>(R.ok (t84,t85))).bind fun t86=>(R.ok ((),t86))) fun z87=>R.to (R.np (m_take s80.1 z87.2.1)) fun r89=>(fun (h82:Int) (v_pool_here_88:(List Int))=>
  (R.to (R.popI s80.2.1 h82) fun r92=>(fun (v_under_90:Int) (v_unders_91:(List Int))=>
  (R.to (m_word v_place_9 v_under_90) fun (h93:Str)=>
  (R.to (((R.ok (6:Int)).bind fun t97=>(R.ok ()).bind fun t98=>(R.ok (t97,t98))).bind fun t99=>(R.ok ((),t99))) fun z100=>R.to (R.np (m_take v_pool_here_88 z100.2.1)) fun r102=>(fun (h95:Int) (v_pool_here_101:(List Int))=>
  (R.to (((R.ok h93).bind fun t105=>((m_word v_place_9 h95).bind fun t103=>(R.ok ()).bind fun t104=>(R.ok (t103,t104))).bind fun t106=>(R.ok (t105,t106))).bind fun z107=>(R.ok (z107.1,z107.2.1))) fun t109=>R.to (R.app s80.2.2 t109) fun (v_pairs_108:(List (Str×Str)))=>
  (.nx (v_pool_here_101,v_unders_91,v_pairs_108)))) r102.1 r102.2))) r92.1 r92.2)) r89.1 r89.2))) fun (s110:((List Int)×(List Int)×(List (Str×Str))))=>
  (R.to (R.ok (T3.mk ("glaze":Str) v_name_40 (Sum.inr (TZ.mk s110.2.2):(Str⊕(TZ (Str×Str)))))) fun t112=>R.to (R.app s38.2 t112) fun (v_inks_111:(List (T3 Str Str (Str⊕(TZ (Str×Str))))))=>
  (.nx (s110.1,v_inks_111))))) r78.1 r78.2)))) fun (s49:((List Int)×(List (T3 Str Str (Str⊕(TZ (Str×Str)))))))=>
  (.nx (s49.1,s49.2)))) r48.1 r48.2)))) fun (s115:((List Int)×(List (T3 Str Str (Str⊕(TZ (Str×Str)))))))=>
  (R.to (R.ok (v_paper_18,s115.2)) fun r116=>.rt (r116,s115.1)))) r36.1 r36.2)))) r26.1 r26.2))) r17.1 r17.2))) r8.1 r8.2)
@[irreducible] def m_bench (v_pool_here:(List Int)):R ((Str×(List (T3 Str Str (Str⊕(TZ (Str×Str))))))×(List Int)):=ioR (m_bench_b v_pool_here)
@[irreducible] def m_size_b (v_pool_here:(List Int)):Out Empty Unit ((Int×Int)×(List Int)):=
  (R.to (((R.ok (4:Int)).bind fun t3=>(R.ok ()).bind fun t4=>(R.ok (t3,t4))).bind fun t5=>(R.ok ((),t5))) fun z6=>R.to (R.np (m_take v_pool_here z6.2.1)) fun r8=>(fun (h1:Int) (v_pool_here_7:(List Int))=>
  (lt ((1:Int) + h1) fun (v_wide_9:Int)=>
  (R.to (((R.ok (4:Int)).bind fun t12=>(R.ok ()).bind fun t13=>(R.ok (t12,t13))).bind fun t14=>(R.ok ((),t14))) fun z15=>R.to (R.np (m_take v_pool_here_7 z15.2.1)) fun r17=>(fun (h10:Int) (v_pool_here_16:(List Int))=>
  (R.to (R.ok (v_wide_9,((1:Int) + h10))) fun r18=>.rt (r18,v_pool_here_16))) r17.1 r17.2))) r8.1 r8.2)
@[irreducible] def m_size (v_pool_here:(List Int)):R ((Int×Int)×(List Int)):=ioR (m_size_b v_pool_here)
@[irreducible] def m_Shop_init_b (v_self:Ins "Shop" Fn) (v_bench:(Str×(List (T3 Str Str (Str⊕(TZ (Str×Str))))))) (v_size:(Int×Int)) (v_states:(List Int)):Out O_Shop Unit (Unit×O_Shop):=
  (R.to (R.ok (Fr.mk (v_bench.1,v_bench.2))) fun t2=>lt (Ins.mk (Fd.mk v_self.f t2)) (fun (v_self_1:(Ins "Shop" (Fd Fn "bench" (Fr (Str×(List (T3 Str Str (Str⊕(TZ (Str×Str))))))))))=>
  (R.to (R.ok (Fr.mk v_size)) fun t4=>lt (Ins.mk (Fd.mk v_self_1.f t4)) (fun (v_self_3:(Ins "Shop" (Fd (Fd Fn "bench" (Fr (Str×(List (T3 Str Str (Str⊕(TZ (Str×Str)))))))) "size" (Fr (Int×Int)))))=>
  (R.to (R.ok (Fr.mk v_states)) fun t6=>lt (Ins.mk (Fd.mk v_self_3.f t6)) (fun (v_self_5:(Ins "Shop" (Fd (Fd (Fd Fn "bench" (Fr (Str×(List (T3 Str Str (Str⊕(TZ (Str×Str)))))))) "size" (Fr (Int×Int))) "states" (Fr (List Int)))))=>
  (R.to (R.ok (Dq.mk ([]:List (Str×Int)))) fun t8=>lt (Ins.mk (Fd.mk v_self_5.f t8)) (fun (v_self_7:(Ins "Shop" (Fd (Fd (Fd (Fd Fn "bench" (Fr (Str×(List (T3 Str Str (Str⊕(TZ (Str×Str)))))))) "size" (Fr (Int×Int))) "states" (Fr (List Int))) "woods" (Dq Str Int))))=>
  (R.to (R.ok (DGk.mk ([]:List (Str×List (Int×Int))))) fun t10=>lt (Ins.mk (Fd.mk v_self_7.f t10)) (fun (v_self_9:(Ins "Shop" (Fd (Fd (Fd (Fd (Fd Fn "bench" (Fr (Str×(List (T3 Str Str (Str⊕(TZ (Str×Str)))))))) "size" (Fr (Int×Int))) "states" (Fr (List Int))) "woods" (Dq Str Int)) "prints" (DGk Str (Int×Int)))))=>
  (.nx v_self_9)))))))))))
@[irreducible] def m_Shop_init (v_bench:(Str×(List (T3 Str Str (Str⊕(TZ (Str×Str))))))) (v_size:(Int×Int)) (v_states:(List Int)):R O_Shop:=moN (m_Shop_init_b (Ins.mk Fn.mk) v_bench v_size v_states)
@[irreducible] def m_cell_at_b (v_script:(Sq Int)) (v_k:Int):Out Unit Unit Int:=
  (if (decide (v_k < (v_script.l.length:Int))) then Out.abs (R.to ((R.ok v_script.l).bind fun t1=>(R.ok v_k).bind fun t2=>(R.ix t1 t2)) .rt) else
  (.rt (0:Int)))
@[irreducible] def m_cell_at (v_script:(Sq Int)) (v_k:Int):R Int:=(m_cell_at_b v_script v_k).run
@[irreducible] def m_is_word_b (v_text:Str):Out Unit Unit Bool:=
  (R.to ((R.ok v_text).bind fun t1=>(R.ok (signs t1))) fun l5=>Out.bind (forL l5 () (fun (s2:Unit) (x3:Str)=>
   (if (!inS x3 ("abcdefghijklmnopqrstuvwxyz":Str)) then Out.abs (.rt false) else
  (.nx ())))) fun (s4:Unit)=>
  (.rt ((decide ((1:Int) ≤ (v_text.length:Int))) && (decide ((v_text.length:Int) ≤ (8:Int))))))
@[irreducible] def m_is_word (v_text:Str):R Bool:=(m_is_word_b v_text).run
@[irreducible] def m_Shop_look_at_new_b (v_self:O_Shop) (v_name:Str) (v_names:(Dq Str Int)):Out Unit Unit Unit:=
  (R.to ((m_is_word v_name).bind fun t1=>(R.ok (!t1))) fun b2=>if b2 then Out.abs (.ex ⟨"NoName",[]⟩) else
  (if ((dval (Dk.mk v_names.l).l v_name).isSome) then Out.abs (.ex ⟨"Twice",[]⟩) else
  (.nx ())))
@[irreducible] def m_Shop_look_at_new (v_self:O_Shop) (v_name:Str) (v_names:(Dq Str Int)):R Unit:=(m_Shop_look_at_new_b v_self v_name v_names).finX fun _=>.ok ()
@[irreducible] def m_all_of_b (v_size:(Int×Int)):Out Unit Unit Int:=
  (R.to (((R.ok (1:Int)).bind fun t3=>((R.ok v_size.1).bind fun t1=>(R.ok v_size.2).bind fun t2=>(R.mul t1 t2)).bind fun t4=>(R.shl t3 t4)).bind fun t5=>(R.ok (1:Int)).bind fun t6=>(R.ok (t5 - t6))) .rt)
@[irreducible] def m_all_of (v_size:(Int×Int)):R Int:=(m_all_of_b v_size).run
@[irreducible] def m_Shop_block_b (v_self:O_Shop) (v_name:Str):Out O_Shop Unit (Unit×O_Shop):=
  (R.to ((R.ok v_self).bind fun o1=>(R.ok (v_name,v_self.f.r.x,())).bind fun z2=>m_Shop_look_at_new o1 z2.1 z2.2.1) fun _=>
  (R.to (m_all_of v_self.f.r.r.r.x.x) fun t4=>R.to (R.ok v_name) fun t5=>R.to (R.dput (Dk.mk v_self.f.r.x.l) t5 t4) fun t6=>lt (Ins.mk (Fd.mk (Fd.mk v_self.f.r.r (Dq.mk t6.l)) v_self.f.x)) (fun (v_self_3:O_Shop)=>
  (.nx v_self_3))))
@[irreducible] def m_Shop_block (v_self:O_Shop) (v_name:Str):R (Unit×O_Shop):=moFX (m_Shop_block_b v_self v_name)
@[irreducible] def m_Shop_look_at_new_2_b (v_self:O_Shop) (v_name:Str) (v_names:(Dq Str (List (Int×Int)))):Out Unit Unit Unit:=
  (R.to ((m_is_word v_name).bind fun t1=>(R.ok (!t1))) fun b2=>if b2 then Out.abs (.ex ⟨"NoName",[]⟩) else
  (if ((dval (Dk.mk v_names.l).l v_name).isSome) then Out.abs (.ex ⟨"Twice",[]⟩) else
  (.nx ())))
@[irreducible] def m_Shop_look_at_new_2 (v_self:O_Shop) (v_name:Str) (v_names:(Dq Str (List (Int×Int)))):R Unit:=(m_Shop_look_at_new_2_b v_self v_name v_names).finX fun _=>.ok ()
@[irreducible] def m_Shop_sheet_b (v_self:O_Shop) (v_name:Str):Out O_Shop Unit (Unit×O_Shop):=
  (R.to ((R.ok v_self).bind fun o1=>(R.ok (v_name,(Dq.mk v_self.f.x.l:(Dq Str (List (Int×Int)))),())).bind fun z2=>m_Shop_look_at_new_2 o1 z2.1 z2.2.1) fun _=>
  (R.to (R.ok v_name) fun t4=>R.to (R.dnew v_self.f.x t4) fun t5=>lt (Ins.mk (Fd.mk v_self.f.r t5)) (fun (v_self_3:O_Shop)=>
  (.nx v_self_3))))
@[irreducible] def m_Shop_sheet (v_self:O_Shop) (v_name:Str):R (Unit×O_Shop):=moFX (m_Shop_sheet_b v_self v_name)
@[irreducible] def m_Shop_look_at_known_b (v_self:O_Shop) (v_name:Str) (v_names:(Dq Str (List (Int×Int)))):Out Unit Unit Unit:=
  (if (!(dval (Dk.mk v_names.l).l v_name).isSome) then Out.abs (.ex ⟨"NoName",[]⟩) else
  (.nx ()))
@[irreducible] def m_Shop_look_at_known (v_self:O_Shop) (v_name:Str) (v_names:(Dq Str (List (Int×Int)))):R Unit:=(m_Shop_look_at_known_b v_self v_name v_names).finX fun _=>.ok ()
@[irreducible] def m_Shop_spoil_b (v_self:O_Shop) (v_name:Str):Out O_Shop Unit (Unit×O_Shop):=
  (R.to ((R.ok v_self).bind fun o1=>(R.ok (v_name,(Dq.mk v_self.f.x.l:(Dq Str (List (Int×Int)))),())).bind fun z2=>m_Shop_look_at_known o1 z2.1 z2.2.1) fun _=>
  (R.to (R.ok v_name) fun t4=>R.to (R.popGk v_self.f.x t4) fun t5=>lt (Ins.mk (Fd.mk v_self.f.r t5)) (fun (v_self_3:O_Shop)=>
  (.nx v_self_3))))
@[irreducible] def m_Shop_spoil (v_self:O_Shop) (v_name:Str):R (Unit×O_Shop):=moFX (m_Shop_spoil_b v_self v_name)
@[irreducible] def m_Shop_look_at_known_2_b (v_self:O_Shop) (v_name:Str) (v_names:(Dq Str Int)):Out Unit Unit Unit:=
  (if (!(dval (Dk.mk v_names.l).l v_name).isSome) then Out.abs (.ex ⟨"NoName",[]⟩) else
  (.nx ()))
@[irreducible] def m_Shop_look_at_known_2 (v_self:O_Shop) (v_name:Str) (v_names:(Dq Str Int)):R Unit:=(m_Shop_look_at_known_2_b v_self v_name v_names).finX fun _=>.ok ()
@[irreducible] def m_Shop_wood_b (v_self:O_Shop) (v_name:Str):Out Unit Unit Int:=
  (R.to ((R.ok v_self).bind fun o1=>(R.ok (v_name,v_self.f.r.x,())).bind fun z2=>m_Shop_look_at_known_2 o1 z2.1 z2.2.1) fun _=>
  (R.to ((R.ok (Dk.mk v_self.f.r.x.l)).bind fun t3=>(R.ok v_name).bind fun t4=>(R.dget t3 t4)) .rt))
@[irreducible] def m_Shop_wood (v_self:O_Shop) (v_name:Str):R Int:=(m_Shop_wood_b v_self v_name).runX
@[irreducible] def m_stack_at_b (v_states:(List Int)) (v_bit:Int):Out Unit Unit TK:=
  (R.to (((((R.ok v_states).bind fun t1=>(R.ok (enum t1))).bind fun l9=>R.lc l9 (fun (x2:(Int×Int))=>((((R.ok x2.2).bind fun t3=>(R.ok v_bit).bind fun t4=>(R.shr t3 t4)).bind fun t5=>(R.ok (1:Int)).bind fun t6=>(R.ok (Builtin.bitAnd t5 t6))).bind fun t7=>(R.ok (1:Int)).bind fun t8=>(R.ok (decide (t7 = t8))))) (fun (x2:(Int×Int))=>(R.ok x2.1))).bind fun t10=>(R.ok ()).bind fun t11=>(R.ok (t10,t11))).bind fun z12=>(R.ok (TK.mk z12.1))) .rt)
@[irreducible] def m_stack_at (v_states:(List Int)) (v_bit:Int):R TK:=(m_stack_at_b v_states v_bit).run
@[irreducible] def m_laid_b (v_ink:(T3 Str Str (Str⊕(TZ (Str×Str))))) (v_colour:Str):Out Unit Unit Str:=
  (if (decide (v_ink.a = ("cover":Str))) then Out.abs (R.to ((R.ok v_ink.c).bind R.getL) .rt) else
  (R.to ((((R.ok v_ink.c).bind R.getR).bind fun t1=>(R.ok (Tup.mk t1.l))).bind fun t2=>(R.ok t2.l)) fun l6=>Out.bind (forL l6 () (fun (s3:Unit) (x4:(Str×Str))=>
   (if (decide (x4.1 = v_colour)) then Out.abs (.rt x4.2) else
  (.nx ())))) fun (s5:Unit)=>
  (.rt v_colour)))
@[irreducible] def m_laid (v_ink:(T3 Str Str (Str⊕(TZ (Str×Str))))) (v_colour:Str):R Str:=(m_laid_b v_ink v_colour).run
@[irreducible] def m_colour_of_b (v_bench:(Str×(List (T3 Str Str (Str⊕(TZ (Str×Str))))))) (v_stack:(Tup Int)):Out Unit Unit Str:=
  (lt2 v_bench fun (v_paper_1:Str) (v_inks_2:(List (T3 Str Str (Str⊕(TZ (Str×Str))))))=>
  (lt v_paper_1 fun (v_colour_3:Str)=>
  (R.to ((R.ok v_stack).bind fun t4=>(R.ok t4.l)) fun l16=>Out.bind (forL l16 v_colour_3 (fun (s5:Str) (x6:Int)=>
   (R.to ((((R.ok v_inks_2).bind fun t7=>(R.ok x6).bind fun t8=>(R.ix t7 t8)).bind fun t11=>((R.ok s5).bind fun t9=>(R.ok ()).bind fun t10=>(R.ok (t9,t10))).bind fun t12=>(R.ok (t11,t12))).bind fun z13=>m_laid z13.1 z13.2.1) fun (v_colour_14:Str)=>
  (.nx v_colour_14)))) fun (s15:Str)=>
  (.rt s15))))
@[irreducible] def m_colour_of (v_bench:(Str×(List (T3 Str Str (Str⊕(TZ (Str×Str))))))) (v_stack:(Tup Int)):R Str:=(m_colour_of_b v_bench v_stack).run
@[irreducible] def m_pressed_b (v_bench:(Str×(List (T3 Str Str (Str⊕(TZ (Str×Str))))))) (v_size:(Int×Int)) (v_states:(List Int)):Out Unit Unit (DL Str):=
  (lt2 v_size fun (v_wide_1:Int) (v_high_2:Int)=>
  (lt (Dk.mk ([]:List (TK×Str))) fun (v_known_3:(Dk TK Str))=>
  (lt (DL.mk ([]:List (List Str))) fun (v_picture_4:(DL Str))=>
  (R.to ((R.ok v_high_2).bind fun t5=>R.rng 0 t5) fun l35=>Out.bind (forL l35 (v_known_3,v_picture_4) (fun (s6:((Dk TK Str)×(DL Str))) (x7:Int)=>
   (lt ([]:List Str) fun (v_colours_8:(List Str))=>
  (R.to ((R.ok v_wide_1).bind fun t9=>R.rng 0 t9) fun l32=>Out.bind (forL l32 (s6.1,v_colours_8) (fun (s10:((Dk TK Str)×(List Str))) (x11:Int)=>
   (R.to (((R.ok v_states).bind fun t18=>((((R.ok x7).bind fun t12=>(R.ok v_wide_1).bind fun t13=>(R.mul t12 t13)).bind fun t14=>(R.ok x11).bind fun t15=>(R.ok (t14 + t15))).bind fun t16=>(R.ok ()).bind fun t17=>(R.ok (t16,t17))).bind fun t19=>(R.ok (t18,t19))).bind fun z20=>m_stack_at z20.1 z20.2.1) fun (v_stack_21:TK)=>
  (Out.bind (if (!(dval s10.1.l v_stack_21).isSome) then (R.to (m_colour_of v_bench (Tup.mk v_stack_21.l)) fun t28=>R.to (R.ok v_stack_21) fun t29=>R.to (R.dput s10.1 t29 t28) fun (v_known_27:(Dk TK Str))=>
  (.nx v_known_27)) else (.nx s10.1)) fun (s22:(Dk TK Str))=>
  (R.to ((R.ok s22).bind fun t23=>(R.ok v_stack_21).bind fun t24=>(R.dget t23 t24)) fun t26=>R.to (R.app s10.2 t26) fun (v_colours_25:(List Str))=>
  (.nx (s22,v_colours_25))))))) fun (s30:((Dk TK Str)×(List Str)))=>
  (R.to (R.appD s6.2 s30.2) fun (v_picture_31:(DL Str))=>
  (.nx (s30.1,v_picture_31))))))) fun (s34:((Dk TK Str)×(DL Str)))=>
  (.rt s34.2)))))
@[irreducible] def m_pressed (v_bench:(Str×(List (T3 Str Str (Str⊕(TZ (Str×Str))))))) (v_size:(Int×Int)) (v_states:(List Int)):R (DL Str):=(m_pressed_b v_bench v_size v_states).run
@[irreducible] def m_Shop_shows_b (v_self:O_Shop) (v_sheet:Str):Out Unit Unit (DL Str):=
  (R.to ((R.ok v_self).bind fun o1=>(R.ok (v_sheet,(Dq.mk v_self.f.x.l:(Dq Str (List (Int×Int)))),())).bind fun z2=>m_Shop_look_at_known o1 z2.1 z2.2.1) fun _=>
  (R.to ((R.ok [(0:Int)]).bind fun t3=>(R.ok (v_self.f.r.r.r.r.x.x.2.length:Int)).bind fun t4=>(R.rep t3 t4)) fun (v_states_5:(List Int))=>
  (R.to ((R.ok (Dk.mk (Dq.mk v_self.f.x.l:(Dq Str (List (Int×Int)))).l)).bind fun t6=>(R.ok v_sheet).bind fun t7=>(R.dget t6 t7)) fun l14=>Out.bind (forL l14 v_states_5 (fun (s8:(List Int)) (x9:(Int×Int))=>
   (R.to (R.ok x9.2) fun t11=>R.to (R.ok x9.1) fun t12=>R.to (R.set s8 t12 t11) fun (v_states_10:(List Int))=>
  (.nx v_states_10)))) fun (s13:(List Int))=>
  (R.to (m_pressed v_self.f.r.r.r.r.x.x v_self.f.r.r.r.x.x s13) .rt))))
@[irreducible] def m_Shop_shows (v_self:O_Shop) (v_sheet:Str):R (DL Str):=(m_Shop_shows_b v_self v_sheet).runX
@[irreducible] def m_Shop_lacks_b (v_self:O_Shop) (v_sheet:Str):Out Unit Unit (List Int):=
  (R.to ((R.ok v_self).bind fun o1=>(R.ok (v_sheet,(Dq.mk v_self.f.x.l:(Dq Str (List (Int×Int)))),())).bind fun z2=>m_Shop_look_at_known o1 z2.1 z2.2.1) fun _=>
  (R.to (((R.ok (Dk.mk (Dq.mk v_self.f.x.l:(Dq Str (List (Int×Int)))).l)).bind fun t3=>(R.ok v_sheet).bind fun t4=>(R.dget t3 t4)).bind fun l6=>R.lcM l6 (fun (x5:(Int×Int))=>x5.1)) fun (v_there_7:(List Int))=>
  (R.to (((R.ok (v_self.f.r.r.r.r.x.x.2.length:Int)).bind fun t8=>R.rng 0 t8).bind fun l10=>R.lcT l10 (fun (x9:Int)=>(!memB x9 v_there_7)) (fun (x9:Int)=>x9)) .rt)))
@[irreducible] def m_Shop_lacks (v_self:O_Shop) (v_sheet:Str):R (List Int):=(m_Shop_lacks_b v_self v_sheet).runX
@[irreducible] def m_kind_b (v_error:(Option Exc)):Out Unit Unit (List (Dy 0)):=
  (R.to (((R.ok v_error).bind fun t1=>((R.ok ()).bind fun t2=>(R.ok (t1,t2)))).bind fun z3=>(R.isKO ([("NoName",false),("Twice",false)]:List (Str×Bool)) z3.1)) fun b49=>if b49 then Out.abs (R.to (((R.ok (dyOf 0 ("wrong":Str))).bind fun t12=>(((((R.ok v_error).bind R.opt).bind fun t4=>if t4.cls ∈ ([]:List Str) then (R.fld t4 "column":R Int) else .no).bind fun t5=>(R.ok (dyOf 0 t5))).bind fun t10=>(((((R.ok v_error).bind R.opt).bind fun t6=>if t6.cls ∈ ([]:List Str) then (R.fld t6 "row":R Int) else .no).bind fun t7=>(R.ok (dyOf 0 t7))).bind fun t8=>(R.ok ()).bind fun t9=>(R.ok (t8,t9))).bind fun t11=>(R.ok (t10,t11))).bind fun t13=>(R.ok (t12,t13))).bind fun z14=>(R.ok [z14.1,z14.2.1,z14.2.2.1])) .rt) else
  (R.to (((((R.ok v_error).bind fun t15=>((R.ok ()).bind fun t16=>(R.ok (t15,t16)))).bind fun z17=>(R.isKO ([("NoName",true),("Twice",false)]:List (Str×Bool)) z17.1)).bind fun t33=>((((R.ok v_error).bind fun t18=>((R.ok ()).bind fun t19=>(R.ok (t18,t19)))).bind fun z20=>(R.isKO ([("NoName",false),("Twice",true)]:List (Str×Bool)) z20.1)).bind fun t31=>((((R.ok v_error).bind fun t21=>((R.ok ()).bind fun t22=>(R.ok (t21,t22)))).bind fun z23=>(R.isKO ([("NoName",false),("Twice",false)]:List (Str×Bool)) z23.1)).bind fun t29=>((((R.ok v_error).bind fun t24=>((R.ok ()).bind fun t25=>(R.ok (t24,t25)))).bind fun z26=>(R.isKO ([("NoName",false),("Twice",false)]:List (Str×Bool)) z26.1)).bind fun t27=>(R.ok ()).bind fun t28=>(R.ok (t27,t28))).bind fun t30=>(R.ok (t29,t30))).bind fun t32=>(R.ok (t31,t32))).bind fun t34=>(R.ok (t33,t34))).bind fun z35=>(R.ok [z35.1,z35.2.1,z35.2.2.1,z35.2.2.2.1])) fun (v_seen_36:(List Bool))=>
  (R.to (((((R.and (((R.ok v_error).bind fun t37=>((R.ok ()).bind fun t38=>(R.ok (t37,t38)))).bind fun z39=>(R.isKO ([("NoName",true),("Twice",true)]:List (Str×Bool)) z39.1)) (((R.ok v_error).bind fun t40=>((R.ok ()).bind fun t41=>(R.ok (t40,t41)))).bind fun z42=>(R.isKO ([("NoName",true),("Twice",true)]:List (Str×Bool)) z42.1))).bind fun t43=>(R.ok (dyOf 0 t43))).bind fun t44=>(R.ok ()).bind fun t45=>(R.ok (t44,t45))).bind fun z46=>(R.ok [z46.1])).bind fun t47=>(R.ok (dysOf 0 v_seen_36)).bind fun t48=>(R.cat t47 t48)) .rt)))
@[irreducible] def m_kind (v_error:(Option Exc)):R (List (Dy 0)):=(m_kind_b v_error).run
@[irreducible] def m_done_b (v_shop:O_Shop) (v_way:Int) (v_name:Str):Out Empty Unit (((List (Dy 0))×(Option (Int⊕((List (List Str))⊕(List Int)))))×O_Shop):=
  (lt (none:(Option Exc)) fun (v_error_1:(Option Exc))=>
  (lt (none:(Option (Int⊕((List (List Str))⊕(List Int))))) fun (v_found_2:(Option (Int⊕((List (List Str))⊕(List Int)))))=>
  (Out.bind (Out.tryE (Out.bind (if (decide (v_way = (0:Int))) then (R.to (R.ok (v_name,())) fun z7=>R.to (m_Shop_block v_shop z7.1) fun r8=>lt r8.2 (fun (v_shop_6:O_Shop)=>
  (.nx (v_shop_6,v_found_2)))) else (Out.bind (if (decide (v_way = (1:Int))) then (R.to (R.ok (v_name,())) fun z11=>R.to (m_Shop_sheet v_shop z11.1) fun r12=>lt r12.2 (fun (v_shop_10:O_Shop)=>
  (.nx (v_shop_10,v_found_2)))) else (Out.bind (if (decide (v_way = (2:Int))) then (R.to (R.ok (v_name,())) fun z15=>R.to (m_Shop_spoil v_shop z15.1) fun r16=>lt r16.2 (fun (v_shop_14:O_Shop)=>
  (.nx (v_shop_14,v_found_2)))) else (Out.bind (if (decide (v_way = (3:Int))) then (R.to ((((R.ok v_shop).bind fun o18=>(R.ok (v_name,())).bind fun z19=>m_Shop_wood o18 z19.1).bind fun t20=>(R.ok (Sum.inl t20:(Int⊕((List (List Str))⊕(List Int)))))).bind fun t21=>(R.ok (some t21))) fun (v_found_22:(Option (Int⊕((List (List Str))⊕(List Int)))))=>
  (.nx v_found_22)) else (Out.bind (if (decide (v_way = (4:Int))) then (R.to ((((((R.ok v_shop).bind fun o24=>(R.ok (v_name,())).bind fun z25=>m_Shop_shows o24 z25.1).bind fun t26=>(R.ok t26.l)).bind fun t27=>(R.ok (Sum.inl t27:((List (List Str))⊕(List Int))))).bind fun t28=>(R.ok (Sum.inr t28:(Int⊕((List (List Str))⊕(List Int)))))).bind fun t29=>(R.ok (some t29))) fun (v_found_30:(Option (Int⊕((List (List Str))⊕(List Int)))))=>
  (.nx v_found_30)) else (R.to (((((R.ok v_shop).bind fun o31=>(R.ok (v_name,())).bind fun z32=>m_Shop_lacks o31 z32.1).bind fun t33=>(R.ok (Sum.inr t33:((List (List Str))⊕(List Int))))).bind fun t34=>(R.ok (Sum.inr t34:(Int⊕((List (List Str))⊕(List Int)))))).bind fun t35=>(R.ok (some t35))) fun (v_found_36:(Option (Int⊕((List (List Str))⊕(List Int)))))=>
  (.nx v_found_36))) fun (s23:(Option (Int⊕((List (List Str))⊕(List Int)))))=>
  (.nx s23))) fun (s17:(Option (Int⊕((List (List Str))⊕(List Int)))))=>
  (.nx (v_shop,s17)))) fun (s13:(O_Shop×(Option (Int⊕((List (List Str))⊕(List Int))))))=>
  (.nx (s13.1,s13.2)))) fun (s9:(O_Shop×(Option (Int⊕((List (List Str))⊕(List Int))))))=>
  (.nx (s9.1,s9.2)))) fun (s5:(O_Shop×(Option (Int⊕((List (List Str))⊕(List Int))))))=>
  (.nx (s5.1,v_error_1,s5.2))) (["NoName","Twice"]:List Str) (fun (e3:Exc)=>
   (lt (some e3) fun (v_error_37:(Option Exc))=>
  (.nx (v_shop,v_error_37,v_found_2))))) fun (s4:(O_Shop×(Option Exc)×(Option (Int⊕((List (List Str))⊕(List Int))))))=>
  (R.to (((m_kind s4.2.1).bind fun t40=>((R.ok s4.2.2).bind fun t38=>(R.ok ()).bind fun t39=>(R.ok (t38,t39))).bind fun t41=>(R.ok (t40,t41))).bind fun z42=>(R.ok (z42.1,z42.2.1))) fun r43=>.rt (r43,s4.1)))))
@[irreducible] def m_done (v_shop:O_Shop) (v_way:Int) (v_name:Str):R (((List (Dy 0))×(Option (Int⊕((List (List Str))⊕(List Int)))))×O_Shop):=ioR (m_done_b v_shop v_way v_name)
@[irreducible] def m_told_b (v_way:Int) (v_name:Str) (v_good:Bool) (v_there:((Dq Str Bool)×(Dq Str Bool))):Out Unit Unit Str:=
  (if ((decide (v_way < (2:Int))) && (!v_good)) then Out.abs (.rt ("NoName":Str)) else
  (R.to (R.and (R.ok (decide (v_way < (2:Int)))) ((R.ok v_name).bind fun t4=>(((R.ok v_there).bind fun t1=>(R.ok v_way).bind fun t2=>(R.ix2 t1 t2)).bind fun t3=>R.ok (Dk.mk t3.l)).bind fun t5=>(R.ok ((dval t5.l t4).isSome)))) fun b6=>if b6 then Out.abs (.rt ("Twice":Str)) else
  (if (((decide (v_way = (3:Int))) && (!(dval (Dk.mk v_there.1.l).l v_name).isSome)) || ((memB v_way (Tup.mk ([(2:Int),(4:Int),(5:Int)]:List Int)).l) && (!(dval (Dk.mk v_there.2.l).l v_name).isSome))) then Out.abs (.rt ("NoName":Str)) else
  (.rt ("":Str)))))
@[irreducible] def m_told (v_way:Int) (v_name:Str) (v_good:Bool) (v_there:((Dq Str Bool)×(Dq Str Bool))):R Str:=(m_told_b v_way v_name v_good v_there).run
@[irreducible] def m_due_b (v_word_here:Str):Out Unit Unit (List (Dy 0)):=
  (if (decide (v_word_here = ("":Str))) then Out.abs (.rt [(dyOf 0 false),(dyOf 0 false),(dyOf 0 false),(dyOf 0 false),(dyOf 0 false)]) else
  (R.to ((R.ok [(dyOf 0 true)]).bind fun t3=>((R.ok [("NoName":Str),("Twice":Str),("Order":Str),("NoStroke":Str)]).bind fun l2=>R.lcM l2 (fun (x1:Str)=>(dyOf 0 (decide (v_word_here = x1))))).bind fun t4=>(R.cat t3 t4)) .rt))
@[irreducible] def m_due (v_word_here:Str):R (List (Dy 0)):=(m_due_b v_word_here).run
@[irreducible] def m_full_b (v_size_here:(Int×Int)):Out Unit Unit Int:=
  (lt (0:Int) fun (v_found_1:Int)=>
  (R.to (((R.ok v_size_here.1).bind fun t2=>(R.ok v_size_here.2).bind fun t3=>(R.mul t2 t3)).bind fun t4=>R.rng 0 t4) fun l13=>Out.bind (forL l13 v_found_1 (fun (s5:Int) (x6:Int)=>
   (R.to ((R.ok s5).bind fun t9=>((R.ok (1:Int)).bind fun t7=>(R.ok x6).bind fun t8=>(R.shl t7 t8)).bind fun t10=>(R.ok (Builtin.bitOr t9 t10))) fun (v_found_11:Int)=>
  (.nx v_found_11)))) fun (s12:Int)=>
  (.rt s12)))
@[irreducible] def m_full (v_size_here:(Int×Int)):R Int:=(m_full_b v_size_here).run
@[irreducible] def m_colour_b (v_bench_here:(Str×(List (T3 Str Str (Str⊕(TZ (Str×Str))))))) (v_numbers:(List Int)):Out Unit Unit Str:=
  (lt v_bench_here.1 fun (v_colour_here_1:Str)=>
  (R.to (R.ok v_numbers) fun l20=>Out.bind (forL l20 v_colour_here_1 (fun (s2:Str) (x3:Int)=>
   (R.to ((R.ok v_bench_here.2).bind fun t4=>(R.ok x3).bind fun t5=>(R.ix t4 t5)) fun (v_ink_6:(T3 Str Str (Str⊕(TZ (Str×Str)))))=>
  (Out.bind (if (decide (v_ink_6.a = ("cover":Str))) then (R.to ((R.ok v_ink_6.c).bind R.getL) fun (v_colour_here_8:Str)=>
  (.nx v_colour_here_8)) else (R.to (((((R.ok v_ink_6.c).bind R.getR).bind fun t9=>(R.ok (Tup.mk t9.l))).bind fun t10=>(R.ok t10.l)).bind fun l12=>R.lcT l12 (fun (x11:(Str×Str))=>(decide (x11.1 = s2))) (fun (x11:(Str×Str))=>x11)) fun (v_pairs_13:(List (Str×Str)))=>
  (Out.bind (if (!decide (v_pairs_13 = ([]:List (Str×Str)))) then (R.to (((R.ok v_pairs_13).bind fun t15=>(R.ok (0:Int)).bind fun t16=>(R.ix t15 t16)).bind fun t17=>(R.ok t17.2)) fun (v_colour_here_18:Str)=>
  (.nx v_colour_here_18)) else (.nx s2)) fun (s14:Str)=>
  (.nx s14)))) fun (s7:Str)=>
  (.nx s7))))) fun (s19:Str)=>
  (.rt s19)))
@[irreducible] def m_colour (v_bench_here:(Str×(List (T3 Str Str (Str⊕(TZ (Str×Str))))))) (v_numbers:(List Int)):R Str:=(m_colour_b v_bench_here v_numbers).run
@[irreducible] def m_picture_b (v_bench_here:(Str×(List (T3 Str Str (Str⊕(TZ (Str×Str))))))) (v_size_here:(Int×Int)) (v_states_here:(List Int)):Out Unit Unit (DL Str):=
  (lt (DL.mk ([]:List (List Str))) fun (v_rows_1:(DL Str))=>
  (R.to ((R.ok v_size_here.2).bind fun t2=>R.rng 0 t2) fun l37=>Out.bind (forL l37 v_rows_1 (fun (s3:(DL Str)) (x4:Int)=>
   (lt ([]:List Str) fun (v_words_5:(List Str))=>
  (R.to ((R.ok v_size_here.1).bind fun t6=>R.rng 0 t6) fun l34=>Out.bind (forL l34 v_words_5 (fun (s7:(List Str)) (x8:Int)=>
   (R.to (((R.ok x4).bind fun t9=>(R.ok v_size_here.1).bind fun t10=>(R.mul t9 t10)).bind fun t11=>(R.ok x8).bind fun t12=>(R.ok (t11 + t12))) fun (v_place_13:Int)=>
  (R.to (((R.ok v_bench_here).bind fun t27=>((((R.ok (v_states_here.length:Int)).bind fun t14=>R.rng 0 t14).bind fun l24=>R.lc l24 (fun (x15:Int)=>(((((R.ok v_states_here).bind fun t16=>(R.ok x15).bind fun t17=>(R.ix t16 t17)).bind fun t18=>(R.ok v_place_13).bind fun t19=>(R.shr t18 t19)).bind fun t20=>(R.ok (1:Int)).bind fun t21=>(R.ok (Builtin.bitAnd t20 t21))).bind fun t22=>(R.ok (1:Int)).bind fun t23=>(R.ok (decide (t22 = t23))))) (fun (x15:Int)=>(R.ok x15))).bind fun t25=>(R.ok ()).bind fun t26=>(R.ok (t25,t26))).bind fun t28=>(R.ok (t27,t28))).bind fun z29=>m_colour z29.1 z29.2.1) fun t31=>R.to (R.app s7 t31) fun (v_words_30:(List Str))=>
  (.nx v_words_30))))) fun (s32:(List Str))=>
  (R.to (R.appD s3 s32) fun (v_rows_33:(DL Str))=>
  (.nx v_rows_33)))))) fun (s36:(DL Str))=>
  (.rt s36)))
@[irreducible] def m_picture (v_bench_here:(Str×(List (T3 Str Str (Str⊕(TZ (Str×Str))))))) (v_size_here:(Int×Int)) (v_states_here:(List Int)):R (DL Str):=(m_picture_b v_bench_here v_size_here v_states_here).run
@[irreducible] def m_Shop_blocks_b (v_self:O_Shop):Out Unit Unit (List Str):=
  (R.to (((R.ok (Dk.mk v_self.f.r.x.l)).bind fun t1=>(R.ok ()).bind fun t2=>(R.ok (t1,t2))).bind fun z3=>(R.sortD z3.1)) .rt)
@[irreducible] def m_Shop_blocks (v_self:O_Shop):R (List Str):=(m_Shop_blocks_b v_self).run
@[irreducible] def m_Shop_sheets_b (v_self:O_Shop):Out Unit Unit (List Str):=
  (R.to (((R.ok (Dk.mk (Dq.mk v_self.f.x.l:(Dq Str (List (Int×Int)))).l)).bind fun t1=>(R.ok ()).bind fun t2=>(R.ok (t1,t2))).bind fun z3=>(R.sortD z3.1)) .rt)
@[irreducible] def m_Shop_sheets (v_self:O_Shop):R (List Str):=(m_Shop_sheets_b v_self).run
@[irreducible] def m_stands_b (v_shop:O_Shop) (v_there:((Dq Str Bool)×(Dq Str Bool))):Out Unit Unit Bool:=
  (R.to ((R.ok v_shop).bind fun o1=>(R.ok ()).bind fun z2=>m_Shop_blocks o1 ) fun t31=>R.to (((R.ok (Dk.mk v_there.1.l)).bind fun t3=>(R.ok ()).bind fun t4=>(R.ok (t3,t4))).bind fun z5=>(R.sortD z5.1)) fun t32=>R.to ((R.ok v_shop).bind fun o6=>(R.ok ()).bind fun z7=>m_Shop_sheets o6 ) fun t33=>R.to (((R.ok (Dk.mk v_there.2.l)).bind fun t8=>(R.ok ()).bind fun t9=>(R.ok (t8,t9))).bind fun z10=>(R.sortD z10.1)) fun t34=>Out.bind (forL [(t31,t32),(t33,t34)] () (fun (s11:Unit) (x12:((List Str)×(List Str)))=>
   (if ((!true) || (!decide (x12.1 = x12.2))) then Out.abs (.rt false) else
  (R.to (R.ok ("x":Str)) fun t14=>R.to (R.app x12.1 t14) fun (v_found_13:(List Str))=>
  (.nx ()))))) fun (s15:Unit)=>
  (R.to (R.and (((R.ok v_shop).bind fun o16=>(R.ok ()).bind fun z17=>m_Shop_blocks o16 ).bind fun t21=>(((R.ok (Dk.mk v_there.1.l)).bind fun t18=>(R.ok ()).bind fun t19=>(R.ok (t18,t19))).bind fun z20=>(R.sortD z20.1)).bind fun t22=>(R.ok (decide (t21 = t22)))) (((R.ok v_shop).bind fun o23=>(R.ok ()).bind fun z24=>m_Shop_sheets o23 ).bind fun t28=>(((R.ok (Dk.mk v_there.2.l)).bind fun t25=>(R.ok ()).bind fun t26=>(R.ok (t25,t26))).bind fun z27=>(R.sortD z27.1)).bind fun t29=>(R.ok (decide (t28 = t29))))) .rt))
@[irreducible] def m_stands (v_shop:O_Shop) (v_there:((Dq Str Bool)×(Dq Str Bool))):R Bool:=(m_stands_b v_shop v_there).run
@[irreducible] def m_law_b (v_script:(Sq Int)):Out Unit Unit Bool:=
  (R.to ((m_pool v_script (0:Int)).bind fun z1=>(m_bench z1).np.bind fun r2=>R.ok r2.1) fun (v_bench_here_3:(Str×(List (T3 Str Str (Str⊕(TZ (Str×Str)))))))=>
  (R.to ((m_pool v_script (1:Int)).bind fun z4=>(m_size z4).np.bind fun r5=>R.ok r5.1) fun (v_size_here_6:(Int×Int))=>
  (R.to (((R.ok v_bench_here_3).bind fun t13=>((R.ok v_size_here_6).bind fun t11=>(((R.ok [(0:Int)]).bind fun t7=>(R.ok (v_bench_here_3.2.length:Int)).bind fun t8=>(R.rep t7 t8)).bind fun t9=>(R.ok ()).bind fun t10=>(R.ok (t9,t10))).bind fun t12=>(R.ok (t11,t12))).bind fun t14=>(R.ok (t13,t14))).bind fun z15=>m_Shop_init z15.1 z15.2.1 z15.2.2.1) fun (v_shop_16:O_Shop)=>
  (R.to (((R.ok v_bench_here_3).bind fun t23=>((R.ok v_size_here_6).bind fun t21=>(((R.ok [(0:Int)]).bind fun t17=>(R.ok (v_bench_here_3.2.length:Int)).bind fun t18=>(R.rep t17 t18)).bind fun t19=>(R.ok ()).bind fun t20=>(R.ok (t19,t20))).bind fun t22=>(R.ok (t21,t22))).bind fun t24=>(R.ok (t23,t24))).bind fun z25=>m_Shop_init z25.1 z25.2.1 z25.2.2.1) fun (v_beside_26:O_Shop)=>
  (R.to (((R.ok ("kbtcxd":Str)).bind fun t27=>(R.ok (signs t27))).bind fun l43=>R.lc l43 (fun (x28:Str)=>(R.ok true)) (fun (x28:Str)=>((((R.ok ("aaaaaa":Str)).bind fun t31=>(R.ok none).bind fun t32=>(((m_cell_at v_script (0:Int)).bind fun t29=>(R.ok (t29 % (6:Int)))).bind fun t30=>(R.ok (some t30))).bind fun t33=>(R.ok (cutS t31 t32 t33))).bind fun t34=>(R.ok x28).bind fun t35=>(R.addS t34 t35)).bind fun t41=>((R.ok ("aaaaa":Str)).bind fun t38=>(((m_cell_at v_script (0:Int)).bind fun t36=>(R.ok (t36 % (6:Int)))).bind fun t37=>(R.ok (some t37))).bind fun t39=>(R.ok none).bind fun t40=>(R.ok (cutS t38 t39 t40))).bind fun t42=>(R.addS t41 t42)))) fun (v_names_44:(List Str))=>
  (lt ((Dq.mk []:(Dq Str Bool)),(Dq.mk []:(Dq Str Bool))) fun (v_there_45:((Dq Str Bool)×(Dq Str Bool)))=>
  (R.to ((R.ok v_script.l).bind fun t47=>(R.ok none).bind fun t48=>((R.ok (60:Int)).bind fun t46=>(R.ok (some t46))).bind fun t49=>(R.ok (sl t47 t48 t49))) fun l147=>Out.bind (forL l147 (v_shop_16,v_there_45) (fun (s50:(O_Shop×((Dq Str Bool)×(Dq Str Bool)))) (x51:Int)=>
   (R.to ((R.ok v_names_44).bind fun t52=>(R.ok ((x51 / (6:Int)) % (6:Int))).bind fun t53=>(R.ix t52 t53)) fun (v_name_54:Str)=>
  (lt (!decide (((x51 / (36:Int)) % (7:Int)) = (3:Int))) fun (v_good_55:Bool)=>
  (Out.bind (if (!v_good_55) then (R.to ((((R.ok ("":Str)).bind fun t132=>(((R.ok v_name_54).bind fun t114=>(R.ok v_name_54).bind fun t115=>(R.addS t114 t115)).bind fun t130=>(((R.ok v_name_54).bind R.upper).bind fun t128=>(((R.ok v_name_54).bind fun t116=>(R.ok (" ":Str)).bind fun t117=>(R.addS t116 t117)).bind fun t126=>((((R.ok v_name_54).bind fun t119=>(R.ok none).bind fun t120=>((R.ok (2:Int)).bind fun t118=>(R.ok (some t118))).bind fun t121=>(R.ok (cutS t119 t120 t121))).bind fun t122=>(R.ok ("1":Str)).bind fun t123=>(R.addS t122 t123)).bind fun t124=>(R.ok ()).bind fun t125=>(R.ok (t124,t125))).bind fun t127=>(R.ok (t126,t127))).bind fun t129=>(R.ok (t128,t129))).bind fun t131=>(R.ok (t130,t131))).bind fun t133=>(R.ok (t132,t133))).bind fun z134=>(R.ok [z134.1,z134.2.1,z134.2.2.1,z134.2.2.2.1,z134.2.2.2.2.1])).bind fun t135=>(R.ok ((x51 / (252:Int)) % (5:Int))).bind fun t136=>(R.ix t135 t136)) fun (v_name_137:Str)=>
  (.nx v_name_137)) else (.nx v_name_54)) fun (s56:Str)=>
  (lt (x51 % (6:Int)) fun (v_way_57:Int)=>
  (R.to (((R.ok v_way_57).bind fun t62=>((R.ok s56).bind fun t60=>(R.ok ()).bind fun t61=>(R.ok (t60,t61))).bind fun t63=>(R.ok (t62,t63))).bind fun t64=>(R.ok ((),t64))) fun z65=>R.to (R.np (m_done s50.1 z65.2.1 z65.2.2.1)) fun r67=>(fun (h58:((List (Dy 0))×(Option (Int⊕((List (List Str))⊕(List Int)))))) (v_shop_66:O_Shop)=>
  (lt2 h58 fun (v_kind_here_68:(List (Dy 0))) (v_found_69:(Option (Int⊕((List (List Str))⊕(List Int)))))=>
  (R.to (m_told v_way_57 s56 v_good_55 s50.2) fun (v_due_here_70:Str)=>
  (R.to ((R.ok v_kind_here_68).bind fun t71=>(m_due v_due_here_70).bind fun t72=>(R.ok (!eqDn t71 t72))) fun b112=>if b112 then Out.abs (.rt false) else
  (Out.bind (if ((decide (v_due_here_70 = ("":Str))) && (decide (v_way_57 < (2:Int)))) then (R.to (R.ok true) fun t111=>R.to (R.dputPr s50.2 v_way_57 s56 t111) fun (v_there_110:((Dq Str Bool)×(Dq Str Bool)))=>
  (.nx v_there_110)) else (.nx s50.2)) fun (s73:((Dq Str Bool)×(Dq Str Bool)))=>
  (Out.bind (if ((decide (v_due_here_70 = ("":Str))) && (decide (v_way_57 = (2:Int)))) then (R.to (R.ok s56) fun t108=>R.to (R.popQ s73.2 t108) fun t109=>(fun (v_there_107:((Dq Str Bool)×(Dq Str Bool)))=>
  (.nx v_there_107)) (s73.1,t109)) else (.nx s73)) fun (s74:((Dq Str Bool)×(Dq Str Bool)))=>
  (Out.bind (if ((decide (v_due_here_70 = ("":Str))) && (decide ((2:Int) < v_way_57))) then (R.to ((((m_full v_size_here_6).bind fun t78=>(R.ok (Sum.inl t78:(Int⊕((List (List Str))⊕(List Int)))))).bind fun t98=>(((((((R.ok v_bench_here_3).bind fun t85=>((R.ok v_size_here_6).bind fun t83=>(((R.ok [(0:Int)]).bind fun t79=>(R.ok (v_bench_here_3.2.length:Int)).bind fun t80=>(R.rep t79 t80)).bind fun t81=>(R.ok ()).bind fun t82=>(R.ok (t81,t82))).bind fun t84=>(R.ok (t83,t84))).bind fun t86=>(R.ok (t85,t86))).bind fun z87=>m_picture z87.1 z87.2.1 z87.2.2.1).bind fun t88=>(R.ok t88.l)).bind fun t89=>(R.ok (Sum.inl t89:((List (List Str))⊕(List Int))))).bind fun t90=>(R.ok (Sum.inr t90:(Int⊕((List (List Str))⊕(List Int)))))).bind fun t96=>(((((R.ok (v_bench_here_3.2.length:Int)).bind fun t91=>R.rng 0 t91).bind fun t92=>(R.ok (Sum.inr t92:((List (List Str))⊕(List Int))))).bind fun t93=>(R.ok (Sum.inr t93:(Int⊕((List (List Str))⊕(List Int)))))).bind fun t94=>(R.ok ()).bind fun t95=>(R.ok (t94,t95))).bind fun t97=>(R.ok (t96,t97))).bind fun t99=>(R.ok (t98,t99))).bind fun z100=>(R.ok [z100.1,z100.2.1,z100.2.2.1])) fun (v_told_here_101:(List (Int⊕((List (List Str))⊕(List Int)))))=>
  (R.to ((R.ok v_found_69).bind fun t104=>((R.ok v_told_here_101).bind fun t102=>(R.ok (v_way_57 - (3:Int))).bind fun t103=>(R.ix t102 t103)).bind fun t105=>(R.ok (!eqDn t104 t105))) fun b106=>if b106 then Out.abs (.rt false) else
  (.nx ()))) else (.nx ())) fun (s75:Unit)=>
  (R.to ((m_stands v_shop_66 s74).bind fun t76=>(R.ok (!t76))) fun b77=>if b77 then Out.abs (.rt false) else
  (.nx (v_shop_66,s74)))))))))) r67.1 r67.2))))))) fun (s138:(O_Shop×((Dq Str Bool)×(Dq Str Bool))))=>
  (R.to (R.and (((R.ok v_beside_26).bind fun o139=>(R.ok ()).bind fun z140=>m_Shop_blocks o139 ).bind fun t141=>(R.ok ([]:List Str)).bind fun t142=>(R.ok (decide (t141 = t142)))) (((R.ok v_beside_26).bind fun o143=>(R.ok ()).bind fun z144=>m_Shop_sheets o143 ).bind fun t145=>(R.ok ([]:List Str)).bind fun t146=>(R.ok (decide (t145 = t146))))) .rt))))))))
@[irreducible] def m_law (v_script:(Sq Int)):R Bool:=(m_law_b v_script).run
end
end Mir

namespace Mt
open PySem L2 Fw
variable {α β γ S T J ρ : Type}
theorem sl_eq : sizeLine = 16777216 := sizeLine_eq
/-! ### loops of the mirrors -/
/-- a loop each turn of which is known -/
theorem forL_fold {f : S → α → Out S S ρ} {g : S → α → S} : ∀ {xs : List α} {s : S}, (∀ s x, x ∈ xs → f s x = .nx (g s x)) → (forL xs s f : Out S J ρ) = .nx (xs.foldl g s)
  | [], s, _ => rfl
  | x :: xs, s, h => by
    unfold forL
    rw [h s x (by simp)]
    exact forL_fold fun s y hy => h s y (List.mem_cons_of_mem _ hy)
/-! ### what holds of what comes out -/
def RS (Q : α → Prop) (m : R α) : Prop := ∃ x, m = .ok x ∧ Q x
def OS (N : S → Prop) (B C : J → Prop) (Z : ρ → Prop) (m : Out S J ρ) : Prop := match m with
  | .nx s => N s
  | .rt r => Z r
  | .bk j => B j
  | .ct j => C j
  | .ex _ => False
  | .no => False
section
variable {N N' : S → Prop} {B C : J → Prop} {Z : ρ → Prop}
theorem os_nx {s : S} (h : N s) : OS N B C Z (.nx s) := h
theorem os_rt {r : ρ} (h : Z r) : OS N B C Z (.rt r) := h
theorem os_to {Q : α → Prop} {m : R α} {k : α → Out S J ρ} (h : RS Q m) (hk : ∀ x, Q x → OS N B C Z (k x)) : OS N B C Z (m.to k) := by
  obtain ⟨x, e, p⟩ := h
  subst e
  exact hk x p
theorem os_lt {x : α} {k : α → Out S J ρ} (h : OS N B C Z (k x)) : OS N B C Z (lt x k) := h
theorem os_bind {M : T → Prop} {m : Out T J ρ} {k : T → Out S J ρ} (h : OS M B C Z m) (hk : ∀ x, M x → OS N B C Z (k x)) : OS N B C Z (m.bind k) := by
  cases m with
  | nx s => exact hk s h
  | rt r => exact h
  | bk j => exact h
  | ct j => exact h
  | ex e => exact h
  | no => exact h
theorem os_abs {m : Out Empty J ρ} (h : OS (fun _ => True) B C Z m) : OS N B C Z (m.abs : Out S J ρ) := by
  cases m with
  | nx s => exact s.elim
  | rt r => exact h
  | bk j => exact h
  | ct j => exact h
  | ex e => exact h
  | no => exact h
theorem os_for {f : S → α → Out S S ρ} {xs : List α} {s : S} (P : Nat → S → Prop) (h0 : P 0 s) (hs : ∀ i x s, xs[i]? = some x → P i s → OS (P (i + 1)) N (P (i + 1)) Z (f s x)) (hd : ∀ s, P xs.length s → N s) : OS N B C Z (forL xs s f) := by
  have main : ∀ (ys : List α) (n : Nat) (s : S), P n s → (∀ i x s, ys[i]? = some x → P (n + i) s → OS (P (n + i + 1)) N (P (n + i + 1)) Z (f s x)) → (∀ s, P (n + ys.length) s → N s) → OS N B C Z (forL ys s f) := by
    intro ys
    induction ys with
    | nil => exact fun n s p _ hd => hd s p
    | cons x ys ih =>
      intro n s p hs hd
      have h1 := hs 0 x s rfl p
      have hs' : ∀ i y s, ys[i]? = some y → P (n + 1 + i) s → OS (P (n + 1 + i + 1)) N (P (n + 1 + i + 1)) Z (f s y) := fun i y s hi p => by
        have := hs (i + 1) y s (by simpa using hi) (by rw [show n + (i + 1) = n + 1 + i by omega]; exact p)
        rw [show n + (i + 1) + 1 = n + 1 + i + 1 by omega] at this
        exact this
      have hd' : ∀ s, P (n + 1 + ys.length) s → N s := fun s q => hd s (by rw [List.length_cons, show n + (ys.length + 1) = n + 1 + ys.length by omega]; exact q)
      show OS N B C Z (match f s x with | .nx s' => forL ys s' f | .ct s' => forL ys s' f | .bk s' => .nx s' | .rt r => .rt r | .ex e => .ex e | .no => .no)
      revert h1
      generalize f s x = o
      intro h1
      cases o with
      | nx s' => exact ih (n + 1) s' h1 hs' hd'
      | ct s' => exact ih (n + 1) s' h1 hs' hd'
      | bk s' => exact h1
      | rt r => exact h1
      | ex e => exact h1
      | no => exact h1
  exact main xs 0 s h0 (fun i x s hi p => by rw [Nat.zero_add] at p ⊢; exact hs i x s hi p) fun s p => hd s (by rw [Nat.zero_add] at p; exact p)
theorem os_if {c : Bool} {a b : Out S J ρ} (h1 : c = true → OS N B C Z a) (h2 : c = false → OS N B C Z b) : OS N B C Z (if c then a else b) := by
  cases c with
  | true => exact h1 rfl
  | false => exact h2 rfl
end
theorem run_of {Z : ρ → Prop} {m : Out Unit Unit ρ} (h : OS (fun _ => False) (fun _ => False) (fun _ => False) Z m) : RS Z m.run := by
  cases m with
  | rt r => exact ⟨r, rfl, h⟩
  | nx s => exact h.elim
  | bk j => exact h.elim
  | ct j => exact h.elim
  | ex e => exact h.elim
  | no => exact h.elim
/-! ### reading lists -/
theorem atI_ok {xs : List α} {i : Int} (h0 : 0 ≤ i) (h : i.toNat < xs.length) : atI xs i = some (xs[i.toNat]'h) := by
  unfold atI ixN
  rw [if_pos h0, if_pos (by omega)]
  exact List.getElem?_eq_getElem h
theorem ix_ok {xs : List α} {i : Int} (h0 : 0 ≤ i) (h : i.toNat < xs.length) : R.ix xs i = .ok (xs[i.toNat]'h) := by
  unfold R.ix
  rw [atI_ok h0 h]
  rfl
theorem ix_nat {xs : List α} {i : Nat} (h : i < xs.length) : R.ix xs (i : Int) = .ok (xs[i]'h) := ix_ok (i := (i : Int)) (by omega) (by simpa using h)
theorem mod_ok {x y : Int} (h : 0 < y) : R.mod x y = .ok (x % y) := by unfold R.mod; exact if_pos h
theorem fdiv_ok {x y : Int} (h : 0 < y) (h2 : y < 1073741824) : R.fdiv x y = .ok (x / y) := by unfold R.fdiv; exact if_pos ⟨h, h2⟩
theorem mul_okl {x y : Int} (h : -(2 ^ 64) < x) (h2 : x < 2 ^ 64) : R.mul x y = .ok (x * y) := by unfold R.mul; exact if_pos (.inl ⟨h, h2⟩)
theorem mul_okr {x y : Int} (h : -(2 ^ 64) < y) (h2 : y < 2 ^ 64) : R.mul x y = .ok (x * y) := by unfold R.mul; exact if_pos (.inr ⟨h, h2⟩)
theorem apd_ok {xs : List α} {x : α} (h : xs.length < 16777216) : R.app xs x = .ok (xs ++ [x]) := by unfold R.app; exact if_pos (by rw [sl_eq]; exact h)
theorem rng_ok {lo hi : Int} (h1 : -16777216 ≤ lo) (h2 : lo ≤ 16777216) (h3 : -16777216 ≤ hi) (h4 : hi ≤ 16777216) : R.rng lo hi = .ok (rng lo hi) := by unfold R.rng; exact if_pos ⟨h1, h2, h3, h4⟩
theorem lcM_ok {xs : List α} {f : α → β} (h : xs.length ≤ 16777216) : R.lcM xs f = .ok (xs.map f) := by unfold R.lcM; exact if_pos (by rw [sl_eq]; exact h)
theorem lcT_ok {xs : List α} {p : α → Bool} {f : α → β} (h : xs.length ≤ 16777216) : R.lcT xs p f = .ok ((xs.filter p).map f) := by unfold R.lcT; exact if_pos (by rw [sl_eq]; exact h)
/-- a comprehension each of whose items is known -/
theorem lc_ok {xs : List α} {p : α → R Bool} {f : α → R β} {p' : α → Bool} {f' : α → β} (hl : xs.length ≤ 16777216) (hp : ∀ x, x ∈ xs → p x = .ok (p' x)) (hf : ∀ x, x ∈ xs → p' x = true → f x = .ok (f' x)) : R.lc xs p f = .ok ((xs.filter p').map f') := by
  unfold R.lc
  rw [if_pos (by rw [sl_eq]; exact hl)]
  clear hl
  induction xs with
  | nil => rfl
  | cons x xs ih =>
    unfold lcGo
    rw [hp x (by simp), ih (fun y hy => hp y (List.mem_cons_of_mem _ hy)) fun y hy => hf y (List.mem_cons_of_mem _ hy)]
    cases h : p' x with
    | true =>
      dsimp only
      rw [hf x (by simp) h]
      simp [List.filter_cons, h]
    | false => simp [List.filter_cons, h]
/-! ### slices -/
theorem sIx_nat {n d : Nat} {v : Int} (h : 0 ≤ v) : HT.sIx n d (some v) = min v.toNat n := by
  unfold HT.sIx
  dsimp only
  rw [if_neg (by omega)]
theorem sl_upto {xs : List α} {v : Int} (h : 0 ≤ v) : sl xs none (some v) = xs.take v.toNat := by
  unfold sl
  rw [sIx_nat h]
  show (xs.drop 0).take (min v.toNat xs.length - 0) = _
  rw [List.drop_zero, Nat.sub_zero]
  by_cases c : v.toNat ≤ xs.length
  · rw [Nat.min_eq_left c]
  · rw [Nat.min_eq_right (by omega), List.take_of_length_le (Nat.le_refl _), List.take_of_length_le (by omega)]
theorem rng_mem {lo hi x : Int} (h : x ∈ rng lo hi) : lo ≤ x ∧ x < hi := by
  unfold rng at h
  rw [List.mem_map] at h
  obtain ⟨i, hi', e⟩ := h
  rw [List.mem_range] at hi'
  omega
theorem rng_get' {lo hi : Int} {i : Nat} (h : i < (hi - lo).toNat) : (rng lo hi)[i]? = some (lo + (i : Nat)) := by
  unfold rng
  rw [List.getElem?_map, List.getElem?_range h]
  rfl
/-! ### texts -/
end Mt

namespace Ma
open PySem L2 Fw Mir Mt
theorem ioR_of {ρ α : Type} {Z : ρ × α → Prop} {m : Out Empty Unit (ρ × α)} (h : OS (fun _ => True) (fun _ => False) (fun _ => False) Z m) : RS Z (ioR m) := by
  cases m with
  | nx s => exact s.elim
  | rt r => exact ⟨r, rfl, h⟩
  | bk j => exact h.elim
  | ct j => exact h.elim
  | ex e => exact h.elim
  | no => exact h.elim
/-! ### _law_pool, _law_take, _law_word, _law_bench, _law_size -/
/-- a pool: one number, not negative -/
def Pl (l : List Int) : Prop := ∃ n : Int, l = [n] ∧ 0 ≤ n
theorem pool_rs (s : Sq Int) (k : Int) (h0 : 0 ≤ k) (h1 : k ≤ 1000) : RS Pl (m_pool s k) := by
  unfold m_pool
  refine run_of ?_
  unfold m_pool_b
  refine os_lt ?_
  refine os_bind (M := fun _ => True) (os_if (fun h => ?_) (fun _ => os_nx trivial)) fun cell _ => ?_
  · simp only [R.bind_ok]
    rw [ix_ok h0 (by have := of_decide_eq_true h; omega)]
    exact os_nx trivial
  refine os_if (fun h => os_abs ?_) (fun _ => ?_)
  · simp only [R.bind_ok]
    rw [mod_ok (by decide)]
    exact os_rt ⟨_, rfl, Int.emod_nonneg _ (by decide)⟩
  simp only [R.bind_ok]
  rw [mul_okr (by omega) (by omega)]
  simp only [R.bind_ok, R.to_ok]
  refine os_lt ?_
  rw [rng_ok (by decide) (by decide) (by decide) (by decide)]
  simp only [R.to_ok]
  refine os_bind (M := fun s => 0 ≤ s.2) (os_for (fun _ s => 0 ≤ s.2) (Int.le_refl 0) (fun i x s hi p => ?_) fun s p => p) fun s p => os_rt ⟨_, rfl, p⟩
  refine os_lt ?_
  generalize hn : ((s.1 * (69621 : Int)) + ((7919 : Int) * x)) % (2147483629 : Int) = n
  have n0 : 0 ≤ n := by rw [← hn]; exact Int.emod_nonneg _ (by decide)
  have n1 : n < 2147483629 := by rw [← hn]; exact Int.emod_lt_of_pos _ (by decide)
  rw [mul_okr (by omega) (by omega)]
  simp only [R.bind_ok, R.to_ok]
  refine os_lt (os_nx ?_)
  have := Int.emod_nonneg (n * n) (show (2147483587 : Int) ≠ 0 by decide)
  dsimp only
  omega
theorem take_rs {l : List Int} (hl : Pl l) {m : Int} (h0 : 0 < m) (h1 : m < 1073741824) : RS (fun r => Pl r.2 ∧ 0 ≤ r.1 ∧ r.1 < m) (m_take l m) := by
  obtain ⟨n, rfl, n0⟩ := hl
  unfold m_take
  refine ioR_of ?_
  unfold m_take_b
  simp only [R.bind_ok]
  rw [ix_ok (xs := [n]) (i := 0) (by decide) (by show 0 < 1; decide)]
  simp only [R.bind_ok, mod_ok h0, R.to_ok, fdiv_ok h0 h1]
  have e : R.set [n] 0 (n / m) = .ok [n / m] := by
    unfold R.set ixN
    rfl
  show OS _ _ _ _ ((R.set [n] 0 (n / m)).to _)
  rw [e]
  simp only [R.to_ok]
  exact os_rt ⟨⟨_, rfl, Int.ediv_nonneg n0 (by omega)⟩, Int.emod_nonneg _ (by omega), Int.emod_lt_of_pos _ h0⟩
theorem takeN_rs {l : List Int} (hl : Pl l) {m : Int} (h0 : 0 < m) (h1 : m < 1073741824) : RS (fun r => Pl r.2 ∧ 0 ≤ r.1 ∧ r.1 < m) (R.np (m_take l m)) := by
  obtain ⟨x, e, q⟩ := take_rs hl h0 h1
  exact ⟨x, by rw [e]; rfl, q⟩
theorem size_rs {l : List Int} (hl : Pl l) : RS (fun r => 1 ≤ r.1.1 ∧ r.1.1 ≤ 4 ∧ 1 ≤ r.1.2 ∧ r.1.2 ≤ 4) (m_size l) := by
  unfold m_size
  refine ioR_of ?_
  unfold m_size_b
  simp only [R.bind_ok, R.to_ok]
  refine os_to (takeN_rs hl (by decide) (by decide)) fun r ⟨p, a, b⟩ => ?_
  refine os_lt ?_
  refine os_to (takeN_rs p (by decide) (by decide)) fun r2 ⟨p2, a2, b2⟩ => os_rt ?_
  dsimp only
  omega
/-! ### the pool's words and benches, exactly -/
abbrev InkZ := T3 Str Str (Str ⊕ (TZ (Str × Str)))
abbrev BenchT := Str × (List (T3 Str Str (Str ⊕ (TZ (Str × Str)))))
def wdL : List Nat := [107, 120, 97, 100, 122, 113, 98, 102, 119, 99, 103, 106, 121, 101, 104, 116, 118, 110]
def wd (p k : Nat) : Str := ⟨(List.replicate p 109 ++ wdL.getD k 0 :: List.replicate (3 - p) 109).toArray⟩
def okB (m : R Str) (s : Str) : Bool := match m with
  | .ok x => decide (x = s)
  | _ => false
theorem okB_eq {m : R Str} {s : Str} (h : okB m s = true) : m = .ok s := by
  cases m with
  | ok x => exact congrArg R.ok (of_decide_eq_true h)
  | ex e => cases h
  | no => cases h
theorem word_tab : ∀ p : Fin 4, ∀ k : Fin 18, okB (m_word (p.val : Int) (k.val : Int)) (wd p.val k.val) = true := by decide +kernel
theorem word_eq {p k : Nat} (hp : p < 4) (hk : k < 18) : m_word (p : Int) (k : Int) = .ok (wd p k) := okB_eq (word_tab ⟨p, hp⟩ ⟨k, hk⟩)
theorem word_eqI {p k : Int} (p0 : 0 ≤ p) (p1 : p < 4) (k0 : 0 ≤ k) (k1 : k < 18) : m_word p k = .ok (wd p.toNat k.toNat) := by
  have := word_eq (p := p.toNat) (k := k.toNat) (by omega) (by omega)
  rw [Int.toNat_of_nonneg p0, Int.toNat_of_nonneg k0] at this
  exact this
def InkOk (p : Nat) (i : InkZ) : Prop := (i.a = "cover" ∧ ∃ k, k < 6 ∧ i.c = .inl (wd p k)) ∨
  (i.a = "glaze" ∧ ∃ ps : List (Nat × Nat), i.c = .inr ⟨ps.map fun q => (wd p q.1, wd p q.2)⟩ ∧ 1 ≤ ps.length ∧ ps.length ≤ 3 ∧ (∀ q ∈ ps, q.1 < 6 ∧ q.2 < 6) ∧ (ps.map (·.1)).Nodup)
def BenchOk (b : Str × List InkZ) : Prop := ∃ p k0 s : Nat, p < 4 ∧ k0 < 6 ∧ s < 18 ∧ b.1 = wd p k0 ∧ 2 ≤ b.2.length ∧ b.2.length ≤ 4 ∧ ∀ (i : Nat) x, b.2[i]? = some x → x.b = wd ((p + 1) % 4) ((7 * i + s) % 18) ∧ InkOk p x
theorem popI_rs2 {l : List Int} {i : Int} (h0 : 0 ≤ i) (h1 : i < l.length) (h2 : l.length ≤ 1000) : RS (fun r => l[i.toNat]? = some r.1 ∧ r.2 = l.eraseIdx i.toNat) (R.popI l i) := by
  unfold R.popI
  rw [if_pos ⟨h0, by omega⟩, List.getElem?_eq_getElem (show i.toNat < l.length by omega)]
  exact ⟨_, rfl, rfl, rfl⟩
theorem erase_perm : ∀ {l : List Int} {i : Nat} {x : Int}, l[i]? = some x → (x :: l.eraseIdx i).Perm l
  | [], i, x, h => by simp at h
  | y :: l, 0, x, h => by cases h; exact List.Perm.refl _
  | y :: l, i + 1, x, h => (List.Perm.swap _ _ _).trans ((erase_perm (l := l) (i := i) h).cons y)
theorem benchX_rs {l : List Int} (hl : Pl l) : RS (fun r => BenchOk r.1) (m_bench l) := by
  unfold m_bench
  refine ioR_of ?_
  unfold m_bench_b
  simp only [R.bind_ok, R.to_ok]
  refine os_to (takeN_rs hl (by decide) (by decide)) fun r1 ⟨p1, a1, b1⟩ => os_lt ?_
  refine os_to (takeN_rs p1 (by decide) (by decide)) fun r2 ⟨p2, a2, b2⟩ => ?_
  rw [word_eqI a1 b1 a2 (by omega)]
  simp only [R.to_ok]
  refine os_to (takeN_rs p2 (by decide) (by decide)) fun r3 ⟨p3, a3, b3⟩ => os_lt (os_lt ?_)
  refine os_to (takeN_rs p3 (by decide) (by decide)) fun r4 ⟨p4, a4, b4⟩ => ?_
  rw [rng_ok (by decide) (by decide) (by omega) (by omega)]
  simp only [R.to_ok]
  have hlen : (rng 0 (2 + r4.1)).length = (2 + r4.1).toNat := by rw [rng_len]; omega
  generalize hp : r1.1.toNat = p
  have hp4 : p < 4 := by omega
  generalize hs : r3.1.toNat = sh
  have hs18 : sh < 18 := by omega
  refine os_bind (M := fun s => Pl s.1 ∧ s.2.length = (2 + r4.1).toNat ∧ ∀ (i : Nat) x, s.2[i]? = some x → x.b = wd ((p + 1) % 4) ((7 * i + sh) % 18) ∧ InkOk p x) (os_for (fun i s => Pl s.1 ∧ s.2.length = i ∧ ∀ (i : Nat) x, s.2[i]? = some x → x.b = wd ((p + 1) % 4) ((7 * i + sh) % 18) ∧ InkOk p x) ⟨p4, rfl, fun i x h => by simp at h⟩ (fun i x s hi ⟨q1, q2, q3⟩ => ?_) fun s q => by rw [hlen] at q; exact q) fun s ⟨q1, q2, q3⟩ => os_rt ⟨p, r2.1.toNat, sh, hp4, by omega, hs18, rfl, by dsimp only; omega, by dsimp only; omega, q3⟩
  have hi' := (List.getElem?_eq_some_iff.mp hi).1
  have hx : x = (i : Int) := by
    have := rng_get hi
    omega
  subst hx
  have en : m_word ((r1.1 + 1) % 4) ((7 * (i : Int) + r3.1) % 18) = .ok (wd ((p + 1) % 4) ((7 * i + sh) % 18)) := by
    rw [word_eqI (Int.emod_nonneg _ (by decide)) (Int.emod_lt_of_pos _ (by decide)) (Int.emod_nonneg _ (by decide)) (Int.emod_lt_of_pos _ (by decide))]
    congr 2 <;> omega
  rw [en]
  simp only [R.to_ok]
  refine os_to (takeN_rs q1 (by decide) (by decide)) fun r5 ⟨p5, a5, b5⟩ => ?_
  have step : ∀ (ink : InkZ), ink.b = wd ((p + 1) % 4) ((7 * i + sh) % 18) → InkOk p ink → ∀ (j : Nat) y, (s.2 ++ [ink])[j]? = some y → y.b = wd ((p + 1) % 4) ((7 * j + sh) % 18) ∧ InkOk p y := fun ink h1 h2 j y hj => by
    by_cases c : j < s.2.length
    · rw [List.getElem?_append_left c] at hj
      exact q3 j y hj
    · rw [List.getElem?_append_right (by omega)] at hj
      have : j - s.2.length = 0 := by
        have := (List.getElem?_eq_some_iff.mp hj).1
        simp at this
        omega
      rw [this] at hj
      cases hj
      have : j = i := by omega
      subst this
      exact ⟨h1, h2⟩
  refine os_bind (M := fun t => Pl t.1 ∧ t.2.length = i + 1 ∧ ∀ (j : Nat) y, t.2[j]? = some y → y.b = wd ((p + 1) % 4) ((7 * j + sh) % 18) ∧ InkOk p y) (os_if (fun _ => ?_) fun _ => ?_) fun t ht => os_nx ht
  · refine os_to (takeN_rs p5 (by decide) (by decide)) fun r6 ⟨p6, a6, b6⟩ => ?_
    rw [word_eqI a1 b1 a6 (by omega), hp]
    simp only [R.bind_ok, R.to_ok]
    rw [apd_ok (by omega)]
    exact os_nx ⟨p6, by simp [q2], step _ rfl (.inl ⟨rfl, _, by omega, rfl⟩)⟩
  · rw [rng_ok (by decide) (by decide) (by decide) (by decide)]
    simp only [R.to_ok]
    refine os_lt ?_
    refine os_to (takeN_rs p5 (by decide) (by decide)) fun r7 ⟨p7, a7, b7⟩ => ?_
    rw [rng_ok (by decide) (by decide) (by omega) (by omega)]
    simp only [R.to_ok]
    have hlen7 : (rng 0 (1 + r7.1)).length = (1 + r7.1).toNat := by rw [rng_len]; omega
    refine os_bind (M := fun t => Pl t.1 ∧ ∃ ps : List (Nat × Nat), t.2.2 = ps.map (fun q => (wd p q.1, wd p q.2)) ∧ ps.length = (1 + r7.1).toNat ∧ (∀ q ∈ ps, q.1 < 6 ∧ q.2 < 6) ∧ (ps.map (·.1)).Nodup)
      (os_for (fun j t => Pl t.1 ∧ t.2.1.length = 6 - j ∧ (∀ y ∈ t.2.1, 0 ≤ y ∧ y < 6) ∧ ∃ ps : List (Nat × Nat), t.2.2 = ps.map (fun q => (wd p q.1, wd p q.2)) ∧ ps.length = j ∧ (∀ q ∈ ps, q.1 < 6 ∧ q.2 < 6) ∧ (ps.map (fun q => (q.1 : Int)) ++ t.2.1).Nodup)
        ⟨p7, by rw [rng_len]; decide, fun y hy => by have := rng_mem hy; omega, [], rfl, rfl, fun q hq => (by cases hq), by show (rng 0 6).Nodup; decide⟩ (fun j x t hj ⟨u1, u2, u3, ps, v1, v2, v3, v4⟩ => ?_) fun t ⟨u1, u2, u3, ps, v1, v2, v3, v4⟩ => ⟨u1, ps, v1, by rw [v2, hlen7], v3, ?_⟩) fun t ⟨ht, ps, v1, v2, v3, v4⟩ => ?_
    · have hj' := (List.getElem?_eq_some_iff.mp hj).1
      rw [hlen7] at hj'
      refine os_to (takeN_rs u1 (by omega) (by omega)) fun r8 ⟨p8, a8, b8⟩ => ?_
      refine os_to (popI_rs2 a8 b8 (by omega)) fun r9 ⟨c1, c2⟩ => ?_
      have hy := u3 _ (List.mem_of_getElem? c1)
      rw [word_eqI a1 b1 hy.1 (by omega)]
      simp only [R.to_ok]
      refine os_to (takeN_rs p8 (by decide) (by decide)) fun r10 ⟨p10, a10, b10⟩ => ?_
      rw [word_eqI a1 b1 a10 (by omega), hp]
      simp only [R.bind_ok, R.to_ok]
      rw [apd_ok (by rw [v1, List.length_map]; omega)]
      refine os_nx ⟨p10, ?_, fun y hy => ?_, ps ++ [(r9.1.toNat, r10.1.toNat)], ?_, ?_, fun q hq => ?_, ?_⟩
      · dsimp only
        rw [c2, List.length_eraseIdx, if_pos (by omega)]
        omega
      · dsimp only at hy
        rw [c2] at hy
        exact u3 y (List.mem_of_mem_eraseIdx hy)
      · dsimp only
        rw [v1, List.map_append]
        rfl
      · rw [List.length_append, v2]; rfl
      · rcases List.mem_append.mp hq with z | z
        · exact v3 q z
        · rw [List.mem_singleton.mp z]
          dsimp only
          omega
      · dsimp only
        rw [c2, List.map_append, List.append_assoc]
        have e9 : ((r9.1.toNat : Nat) : Int) = r9.1 := Int.toNat_of_nonneg hy.1
        have pm : (ps.map (fun q => (q.1 : Int)) ++ ([(r9.1.toNat, r10.1.toNat)].map (fun q => (q.1 : Int)) ++ t.2.1.eraseIdx r8.1.toNat)).Perm (ps.map (fun q => (q.1 : Int)) ++ t.2.1) := by
          refine List.Perm.append_left _ ?_
          show (((r9.1.toNat : Nat) : Int) :: t.2.1.eraseIdx r8.1.toNat).Perm _
          rw [e9]
          exact erase_perm c1
        exact pm.nodup_iff.mpr v4
    · have := (List.nodup_append.mp v4).1
      rw [show (fun q : Nat × Nat => (q.1 : Int)) = (fun n : Nat => (n : Int)) ∘ (fun q : Nat × Nat => q.1) from rfl, ← List.map_map] at this
      exact List.Pairwise.of_map (fun n : Nat => (n : Int)) (fun a b h e => h (congrArg _ e)) this
    · rw [apd_ok (by omega)]
      exact os_nx ⟨ht, by simp [q2], step _ rfl (.inr ⟨rfl, ps, by rw [v1], by omega, by omega, v3, v4⟩)⟩

/-! ### all cells of a size -/
theorem shl_one {y : Int} (h0 : 0 ≤ y) (h1 : y ≤ 1000000) : R.shl 1 y = .ok ((2 ^ y.toNat : Nat) : Int) := by
  unfold R.shl
  rw [if_pos ⟨h0, h1, by decide⟩]
  simp
theorem or_step (n : Nat) : (2 ^ n - 1) ||| 2 ^ n = 2 ^ (n + 1) - 1 := by
  apply Nat.eq_of_testBit_eq
  intro i
  rw [Nat.testBit_or, Nat.testBit_two_pow_sub_one, Nat.testBit_two_pow, Nat.testBit_two_pow_sub_one]
  by_cases h : i < n
  · simp [h, show i < n + 1 by omega]
  · by_cases h2 : i = n
    · subst h2; simp
    · simp [h, show ¬ i < n + 1 by omega, show ¬ n = i from fun e => h2 e.symm]
/-- a size of up to four by four -/
def Sz (s : Int × Int) : Prop := 1 ≤ s.1 ∧ s.1 ≤ 4 ∧ 1 ≤ s.2 ∧ s.2 ≤ 4
theorem sz_mul {s : Int × Int} (h : Sz s) : 1 ≤ s.1 * s.2 ∧ s.1 * s.2 ≤ 16 := by
  obtain ⟨a, b, c, d⟩ := h
  have e1 := Int.mul_le_mul a c (by omega) (by omega)
  have e2 := Int.mul_le_mul b d (by omega) (by omega)
  omega
def allI (s : Int × Int) : Int := ((2 ^ (s.1 * s.2).toNat - 1 : Nat) : Int)
theorem all_eq {s : Int × Int} (h : Sz s) : m_all_of s = .ok (allI s) := by
  have hm := sz_mul h
  have key : RS (fun r => r = allI s) (m_all_of s) := by
    unfold m_all_of
    refine run_of ?_
    unfold m_all_of_b
    obtain ⟨a, b, c, d⟩ := h
    simp only [R.bind_ok]
    rw [mul_okl (by omega) (by omega)]
    simp only [R.bind_ok]
    rw [shl_one (by omega) (by omega)]
    refine os_rt ?_
    unfold allI
    have : 1 ≤ 2 ^ (s.1 * s.2).toNat := Nat.one_le_two_pow
    omega
  obtain ⟨r, e, q⟩ := key
  rw [e, q]
theorem full_eq {s : Int × Int} (h : Sz s) : m_full s = .ok (allI s) := by
  have hm := sz_mul h
  have key : RS (fun r => r = allI s) (m_full s) := by
    unfold m_full
    refine run_of ?_
    unfold m_full_b
    obtain ⟨a, b, c, d⟩ := h
    refine os_lt ?_
    simp only [R.bind_ok]
    rw [mul_okl (by omega) (by omega)]
    simp only [R.bind_ok]
    rw [rng_ok (by decide) (by decide) (by omega) (by omega)]
    simp only [R.to_ok]
    have hlen : (rng 0 (s.1 * s.2)).length = (s.1 * s.2).toNat := by rw [rng_len]; omega
    refine os_bind (M := fun r => r = allI s) (os_for (fun i r => r = ((2 ^ i - 1 : Nat) : Int)) rfl (fun i x r hi p => ?_) fun r p => by rw [p, hlen]; rfl) fun r p => os_rt p
    have hi' := (List.getElem?_eq_some_iff.mp hi).1
    have hx : x = (i : Int) := by
      have := rng_get hi
      omega
    subst hx
    rw [shl_one (by omega) (by omega)]
    simp only [R.bind_ok, R.to_ok]
    refine os_lt (os_nx ?_)
    rw [p]
    rw [Bits.bitOr_pp (Int.natCast_nonneg _) (Int.natCast_nonneg _), Int.toNat_natCast, Int.toNat_natCast, Int.toNat_natCast, or_step]
  obtain ⟨r, e, q⟩ := key
  rw [e, q]

/-! ### sizes as numbers -/
def SzN (s : Int × Int) (w h : Nat) : Prop := s = ((w : Int), (h : Int)) ∧ 1 ≤ w ∧ w ≤ 4 ∧ 1 ≤ h ∧ h ≤ 4
theorem szN_of {s : Int × Int} (hs : Sz s) : ∃ w h, SzN s w h := by
  obtain ⟨a, b⟩ := s
  obtain ⟨h1, h2, h3, h4⟩ := hs
  dsimp only at h1 h2 h3 h4
  exact ⟨a.toNat, b.toNat, by rw [Int.toNat_of_nonneg (by omega), Int.toNat_of_nonneg (by omega)], by omega, by omega, by omega, by omega⟩
theorem SzN.sz {s : Int × Int} {w h : Nat} (q : SzN s w h) : Sz s := by
  obtain ⟨e, a, b, c, d⟩ := q
  subst e
  refine ⟨?_, ?_, ?_, ?_⟩ <;> dsimp only <;> omega
theorem SzN.mul {s : Int × Int} {w h : Nat} (q : SzN s w h) : w * h ≤ 16 := by
  obtain ⟨_, a, b, c, d⟩ := q
  have := Nat.mul_le_mul b d
  omega
theorem SzN.all {s : Int × Int} {w h : Nat} (q : SzN s w h) : allI s = ((2 ^ (w * h) - 1 : Nat) : Int) := by
  obtain ⟨e, _⟩ := q
  subst e
  unfold allI
  rw [show ((w : Int), (h : Int)).1 * ((w : Int), (h : Int)).2 = ((w * h : Nat) : Int) from (Int.natCast_mul w h).symm, Int.toNat_natCast]
/-! ### inks of the pool, as IK -/
abbrev Ink := InkZ
def IK (i : Ink) : Prop := True ∧ ((i.a = "cover" ∧ ∃ z, i.c = .inl z ∧ True) ∨ (i.a = "glaze" ∧ ∃ p : List (Str × Str), i.c = .inr ⟨p⟩ ∧ True))
theorem ik_of {p : Nat} {i : InkZ} (h : InkOk p i) : IK i := by
  rcases h with ⟨a, k, _, e⟩ | ⟨a, ps, e, _⟩
  · exact ⟨trivial, .inl ⟨a, _, e, trivial⟩⟩
  · exact ⟨trivial, .inr ⟨a, _, e, trivial⟩⟩
theorem BenchOk.ik {b : Str × List InkZ} (h : BenchOk b) : ∀ i ∈ b.2, IK i := fun i hi => by
  obtain ⟨p, k0, s, _, _, _, _, _, _, q⟩ := h
  obtain ⟨j, hj⟩ := List.mem_iff_getElem?.mp hi
  exact ik_of (q j i hj).2
theorem laid_find {J : Type} (c : Str) : ∀ l : List (Str × Str), (forL l () (fun (_ : Unit) (x : Str × Str) => if decide (x.1 = c) then Out.abs (.rt x.2) else .nx ()) : Out Unit J Str) = match l.find? fun q => decide (q.1 = c) with
    | some q => .rt q.2
    | none => .nx ()
  | [] => rfl
  | x :: l => by
    rw [List.find?_cons]
    cases h : decide (x.1 = c) with
    | true => simp only [forL, h, if_true, Out.abs_rt]
    | false =>
      simp only [forL, h, Bool.false_eq_true, if_false]
      exact laid_find c l
def lz (i : Ink) (c : Str) : Str := match i.c with
  | .inl z => z
  | .inr p => ((p.l.find? fun q => decide (q.1 = c)).map (·.2)).getD c
theorem glaze_nc : ¬ ("glaze" : Str) = "cover" := by decide
theorem laid_eq {i : Ink} (h : IK i) (c : Str) : m_laid i c = .ok (lz i c) := by
  unfold m_laid m_laid_b lz
  rcases h.2 with ⟨h1, z, h2, _⟩ | ⟨h1, p, h2, _⟩
  · rw [h1, h2, decide_eq_true rfl]
    rfl
  · rw [h1, decide_eq_false glaze_nc, h2]
    simp only [R.bind_ok, R.to_ok, R.getR, Bool.false_eq_true, if_false]
    rw [laid_find]
    cases p.find? (fun q => decide (q.1 = c)) <;> rfl

def bit (s : Int) (b : Nat) : Bool := decide (s / 2 ^ b % 2 = 1)
/-- the colour at a bit by the first n inks -/
def colr (paper : Str) (inks : List Ink) (states : List Int) (b : Nat) (n : Nat) : Str := (List.range n).foldl (fun c i => if bit (states.getD i 0) b then lz (inks.getD i ⟨"", "", .inl ""⟩) c else c) paper
theorem colr_succ (paper : Str) (inks : List Ink) (states : List Int) (b n : Nat) : colr paper inks states b (n + 1) = if bit (states.getD n 0) b then lz (inks.getD n ⟨"", "", .inl ""⟩) (colr paper inks states b n) else colr paper inks states b n := by
  unfold colr
  rw [List.range_succ, List.foldl_append]
  rfl
theorem enum_eq {α : Type} (xs : List α) (d : α) : enum xs = (List.range xs.length).map fun (i : Nat) => ((i : Int), xs.getD i d) := by
  refine List.ext_getElem? fun i => ?_
  unfold enum
  rw [List.getElem?_zipWith, List.getElem?_map]
  by_cases h : i < xs.length
  · rw [List.getElem?_range h, List.getElem?_eq_getElem h]
    show some ((i : Int), xs[i]) = some ((i : Int), xs.getD i d)
    rw [List.getD_eq_getElem?_getD, List.getElem?_eq_getElem h]
    rfl
  · rw [List.getElem?_eq_none (by simp; omega)]
    rfl
def stk (states : List Int) (b : Nat) : List Int := ((List.range states.length).filter fun i => bit (states.getD i 0) b).map fun (i : Nat) => (i : Int)
theorem stk_mem {states : List Int} {b : Nat} {x : Int} (h : x ∈ stk states b) : ∃ i : Nat, x = i ∧ i < states.length := by
  obtain ⟨i, hi, e⟩ := List.mem_map.mp h
  exact ⟨i, e.symm, List.mem_range.mp (List.mem_filter.mp hi).1⟩
theorem stack_eq {states : List Int} (hl : states.length ≤ 1000) (b : Nat) : m_stack_at states (b : Int) = .ok ⟨stk states b⟩ := by
  unfold m_stack_at m_stack_at_b
  simp only [R.bind_ok]
  rw [lc_ok (xs := enum states) (p' := fun x : Int × Int => bit x.2 b) (f' := fun x : Int × Int => x.1) (by simp [enum]; omega) (fun x hx => ?_) fun _ _ _ => rfl]
  · simp only [R.bind_ok, R.to_ok, Out.run_rt]
    rw [enum_eq states 0, List.filter_map, List.map_map]
    rfl
  · unfold R.shr
    rw [if_pos (by omega)]
    simp only [R.bind_ok, PyProof.Rows.bitAnd_m1, Int.toNat_natCast]
    rfl
theorem fold_if {α β : Type} (p : α → Bool) (f : β → α → β) : ∀ (l : List α) (c : β), (l.filter p).foldl f c = l.foldl (fun c x => if p x then f c x else c) c
  | [], c => rfl
  | x :: l, c => by
    rw [List.filter_cons, List.foldl_cons]
    cases h : p x with
    | true => exact fold_if p f l _
    | false => exact fold_if p f l _
theorem colour_eq {paper : Str} {inks : List Ink} (hi : ∀ i ∈ inks, IK i) {states : List Int} (hl : states.length ≤ inks.length) (b : Nat) : m_colour_of (paper, inks) ⟨stk states b⟩ = .ok (colr paper inks states b states.length) := by
  unfold m_colour_of m_colour_of_b
  simp only [lt, lt2, R.bind_ok, R.to_ok]
  rw [forL_fold (g := fun c k => lz (inks.getD k.toNat ⟨"", "", .inl ""⟩) c) fun s x hx => ?_]
  · show R.ok _ = R.ok _
    congr 1
    unfold stk colr
    rw [List.foldl_map, fold_if]
    rfl
  · obtain ⟨i, e, hi'⟩ := stk_mem hx
    rw [e, ix_nat (by omega)]
    simp only [R.bind_ok]
    rw [laid_eq (hi _ (List.getElem_mem (show i < inks.length by omega)))]
    simp only [R.to_ok, Int.toNat_natCast]
    rw [List.getD_eq_getElem?_getD, List.getElem?_eq_getElem (show i < inks.length by omega)]
    rfl
def picr (paper : Str) (inks : List Ink) (states : List Int) (w r n : Nat) : List Str := (List.range w).map fun c => colr paper inks states (r * w + c) n
def pic (paper : Str) (inks : List Ink) (states : List Int) (w h n : Nat) : List (List Str) := (List.range h).map fun r => picr paper inks states w r n
theorem rng_nat {w i : Nat} {x : Int} (h : (rng 0 (w : Int))[i]? = some x) : x = (i : Int) ∧ i < w := by
  have h1 := (List.getElem?_eq_some_iff.mp h).1
  rw [rng_len] at h1
  rw [rng_get' (by omega)] at h
  have := Option.some.inj h
  omega
def Kn (paper : Str) (inks : List Ink) (states : List Int) (m : Nat) (d : Dk TK Str) : Prop := d.l.length ≤ m ∧ ∀ b c, dval d.l ⟨stk states b⟩ = some c → c = colr paper inks states b states.length

theorem dval_put {κ α : Type} [DecidableEq κ] (k j : κ) (y : α) : ∀ x : List (κ × α), dval (dput x k y) j = if j = k then some y else dval x j := by
  have snoc : ∀ x : List (κ × α), dval x k = none → dval (x ++ [(k, y)]) j = if j = k then some y else dval x j := fun x => by
    induction x with
    | nil =>
      intro _
      show (if k = j then some y else none) = _
      by_cases h : j = k
      · rw [if_pos h, if_pos h.symm]
      · rw [if_neg h, if_neg (fun z => h z.symm)]; rfl
    | cons p x ih =>
      intro h
      unfold dval at h
      by_cases c : p.1 = k
      · rw [if_pos c] at h; cases h
      · rw [if_neg c] at h
        show (if p.1 = j then some p.2 else dval (x ++ [(k, y)]) j) = if j = k then some y else if p.1 = j then some p.2 else dval x j
        rw [ih h]
        by_cases d : p.1 = j
        · rw [if_pos d, if_pos d, if_neg (fun z => c (d.trans z))]
        · rw [if_neg d, if_neg d]
  have repl : ∀ x : List (κ × α), dval (x.map fun p => if p.1 = k then (p.1, y) else p) j = if j = k then (dval x k).map (fun _ => y) else dval x j := fun x => by
    induction x with
    | nil => show none = _; split <;> rfl
    | cons p x ih =>
      rw [List.map_cons]
      show (if (if p.1 = k then (p.1, y) else p).1 = j then some (if p.1 = k then (p.1, y) else p).2 else dval (x.map fun p => if p.1 = k then (p.1, y) else p) j) = _
      rw [ih]
      by_cases c : p.1 = k
      · rw [if_pos c]
        by_cases d : p.1 = j
        · rw [if_pos d, if_pos (d.symm.trans c)]
          unfold dval
          rw [if_pos c]
          rfl
        · rw [if_neg d, if_neg (fun z => d (c.trans z.symm)), if_neg (fun z => d (c.trans z.symm))]
          show _ = if p.1 = j then some p.2 else dval x j
          rw [if_neg d]
      · rw [if_neg c]
        by_cases d : p.1 = j
        · rw [if_pos d, if_neg (fun z => c (d.trans z))]
          show _ = if p.1 = j then some p.2 else dval x j
          rw [if_pos d]
        · rw [if_neg d]
          by_cases z : j = k
          · rw [if_pos z, if_pos z]
            show _ = (if p.1 = k then some p.2 else dval x k).map _
            rw [if_neg c]
          · rw [if_neg z, if_neg z]
            show _ = if p.1 = j then some p.2 else dval x j
            rw [if_neg d]
  intro x
  unfold dput
  cases h : dval x k with
  | none => exact snoc x h
  | some v =>
    simp only [Option.isSome_some, if_true]
    rw [repl, h]
    rfl

theorem pressed_eq {paper : Str} {inks : List Ink} (hi : ∀ i ∈ inks, IK i) {states : List Int} (hl : states.length ≤ inks.length) (hl2 : states.length ≤ 1000) {w h : Nat} (w1 : w ≤ 24) (h1 : h ≤ 24) : m_pressed (paper, inks) ((w : Int), (h : Int)) states = .ok (DL.mk (pic paper inks states w h states.length)) := by
  have hwh : w * h ≤ 24 * 24 := Nat.mul_le_mul w1 h1
  have key : RS (fun p => p = DL.mk (pic paper inks states w h states.length)) (m_pressed (paper, inks) ((w : Int), (h : Int)) states) := by
    unfold m_pressed
    refine run_of ?_
    unfold m_pressed_b
    simp (config := { implicitDefEqProofs := false }) only [lt, lt2, R.bind_ok, R.to_ok, rng_ok (show (-16777216 : Int) ≤ 0 by decide) (by decide) (show -16777216 ≤ (h : Int) by omega) (by omega), rng_ok (show (-16777216 : Int) ≤ 0 by decide) (by decide) (show -16777216 ≤ (w : Int) by omega) (by omega)]
    have lw : (rng 0 (w : Int)).length = w := by rw [rng_len]; omega
    have lh : (rng 0 (h : Int)).length = h := by rw [rng_len]; omega
    refine os_bind (M := fun s => s.2 = DL.mk (pic paper inks states w h states.length)) (os_for (fun i s => Kn paper inks states (i * w) s.1 ∧ s.2 = DL.mk (pic paper inks states w i states.length)) ⟨⟨by simp, fun b c e => by cases e⟩, rfl⟩ (fun i x s hx ⟨kn, q⟩ => ?_) fun s p => by rw [lh] at p; exact p.2) fun s p => os_rt p
    obtain ⟨ex, hi'⟩ := rng_nat hx
    have hiw : i * w + w ≤ w * h := by
      have := Nat.mul_le_mul_right w hi'
      rw [Nat.succ_mul, Nat.mul_comm h w] at this
      exact this
    refine os_bind (M := fun t => Kn paper inks states (i * w + w) t.1 ∧ t.2 = picr paper inks states w i states.length) (os_for (fun j t => Kn paper inks states (i * w + j) t.1 ∧ t.2 = (List.range j).map fun c => colr paper inks states (i * w + c) states.length) ⟨kn, rfl⟩ (fun j y t hy ⟨kt, qt⟩ => ?_) fun t p => by rw [lw] at p; exact p) fun t ⟨kt, qt⟩ => ?_
    · obtain ⟨ey, hj⟩ := rng_nat hy
      have eb : x * (w : Int) + y = ((i * w + j : Nat) : Int) := by rw [ex, ey]; simp
      rw [mul_okr (by omega) (by omega)]
      simp only [R.bind_ok, eb]
      rw [stack_eq hl2]
      simp only [R.to_ok]
      rw [colour_eq hi hl]
      simp only [R.to_ok]
      refine os_bind (M := fun d => Kn paper inks states (i * w + (j + 1)) d ∧ dval d.l ⟨stk states (i * w + j)⟩ = some (colr paper inks states (i * w + j) states.length)) ?_ fun d ⟨kd, ed⟩ => ?_
      · cases hd : dval t.1.l ⟨stk states (i * w + j)⟩ with
        | none =>
          have e : R.dput t.1 ⟨stk states (i * w + j)⟩ (colr paper inks states (i * w + j) states.length) = .ok ⟨Fw.dput t.1.l ⟨stk states (i * w + j)⟩ (colr paper inks states (i * w + j) states.length)⟩ := by
            unfold R.dput
            rw [if_pos (by have := kt.1; rw [sl_eq]; omega)]
          simp only [Option.isSome_none, Bool.not_false, if_true]
          rw [e]
          refine os_nx ⟨⟨?_, fun b c eb => ?_⟩, ?_⟩
          · have := dput_len t.1.l ⟨stk states (i * w + j)⟩ (colr paper inks states (i * w + j) states.length)
            have := kt.1
            dsimp only
            omega
          · dsimp only at eb
            rw [dval_put] at eb
            by_cases hs : (⟨stk states b⟩ : TK) = ⟨stk states (i * w + j)⟩
            · rw [if_pos hs] at eb
              have h2 := colour_eq (paper := paper) hi hl b
              have h3 := colour_eq (paper := paper) hi hl (i * w + j)
              injection hs with hs
              rw [hs, h3] at h2
              injection h2 with h2
              rw [← h2]
              exact (Option.some.inj eb).symm
            · rw [if_neg hs] at eb
              exact kt.2 b c eb
          · dsimp only
            rw [dval_put, if_pos rfl]
        | some c =>
          refine os_nx ⟨⟨by have := kt.1; omega, kt.2⟩, ?_⟩
          rw [hd, kt.2 _ _ hd]
      · unfold R.dget
        rw [ed]
        simp only [R.to_ok]
        rw [apd_ok (by rw [qt]; simp; omega), qt]
        refine os_nx ⟨kd, ?_⟩
        rw [List.range_succ, List.map_append]
        rfl
    · rw [q, qt, show R.appD (DL.mk (pic paper inks states w i states.length)) (picr paper inks states w i states.length) = .ok (DL.mk (pic paper inks states w i states.length ++ [picr paper inks states w i states.length])) from by
        unfold R.appD
        rw [if_pos (by rw [sl_eq]; simp [pic]; omega)]]
      refine os_nx ⟨by rw [Nat.succ_mul]; exact kt, ?_⟩
      unfold pic
      rw [List.range_succ, List.map_append]
      rfl
  obtain ⟨s, e, es⟩ := key
  rw [e, es]

/-! ### the law's own colours and pictures -/
theorem glaze_head (c : Str) : ∀ l : List (Str × Str), (l.filter fun q => decide (q.1 = c)) = [] ∧ l.find? (fun q => decide (q.1 = c)) = none ∨ ∃ q r, (l.filter fun q => decide (q.1 = c)) = q :: r ∧ l.find? (fun q => decide (q.1 = c)) = some q
  | [] => .inl ⟨rfl, rfl⟩
  | x :: l => by
    rw [List.filter_cons, List.find?_cons]
    cases h : decide (x.1 = c) with
    | true => exact .inr ⟨x, _, rfl, rfl⟩
    | false => exact glaze_head c l
theorem lawcol_eq {paper : Str} {inks : List Ink} (hi : ∀ i ∈ inks, IK i) (hp : ∀ i ∈ inks, ∀ p, i.c = .inr p → p.l.length ≤ 1000) {states : List Int} (hl : states.length ≤ inks.length) (b : Nat) : m_colour (paper, inks) (stk states b) = .ok (colr paper inks states b states.length) := by
  unfold m_colour m_colour_b
  simp (config := { implicitDefEqProofs := false }) only [lt, R.bind_ok, R.to_ok]
  rw [forL_fold (g := fun c k => lz (inks.getD k.toNat ⟨"", "", .inl ""⟩) c) fun s x hx => ?_]
  · show R.ok _ = R.ok _
    congr 1
    unfold stk colr
    rw [List.foldl_map, fold_if]
    rfl
  · obtain ⟨i, e, hi'⟩ := stk_mem hx
    rw [e, ix_nat (by omega)]
    simp (config := { implicitDefEqProofs := false }) only [R.bind_ok, R.to_ok, Int.toNat_natCast]
    rw [List.getD_eq_getElem?_getD, List.getElem?_eq_getElem (show i < inks.length by omega)]
    have hm := List.getElem_mem (show i < inks.length by omega)
    revert hm
    generalize inks[i]'(show i < inks.length by omega) = ink
    intro hm
    show _ = Out.nx (lz ink s)
    have hk := (hi ink hm).2
    have hpp := hp ink hm
    unfold lz
    rcases hk with ⟨h1, z, h2, _⟩ | ⟨h1, p, h2, _⟩
    · rw [h1, h2]; rfl
    · rw [h1, decide_eq_false glaze_nc, h2]
      simp (config := { implicitDefEqProofs := false }) only [R.bind_ok, R.to_ok, R.getR, Bool.false_eq_true, if_false]
      unfold R.lcT
      rw [if_pos (by have z : p.length ≤ 1000 := hpp _ h2; rw [sl_eq]; show p.length ≤ _; omega)]
      simp (config := { implicitDefEqProofs := false }) only [R.to_ok, List.map_id']
      rcases glaze_head s p with ⟨e1, e2⟩ | ⟨q, r, e1, e2⟩
      · rw [e1, e2]; rfl
      · rw [e1, e2]
        have hc : (!decide (q :: r = [])) = true := by simp
        rw [hc, if_pos rfl, show (0 : Int) = ((0 : Nat) : Int) from rfl, ix_nat (by simp)]
        rfl
theorem lawpic_eq {paper : Str} {inks : List Ink} (hi : ∀ i ∈ inks, IK i) (hp : ∀ i ∈ inks, ∀ p, i.c = .inr p → p.l.length ≤ 1000) {states : List Int} (hl : states.length ≤ inks.length) (hl2 : states.length ≤ 1000) {w h : Nat} (w1 : w ≤ 24) (h1 : h ≤ 24) :
    m_picture (paper, inks) ((w : Int), (h : Int)) states = .ok (DL.mk (pic paper inks states w h states.length)) := by
  have key : RS (fun r => r = DL.mk (pic paper inks states w h states.length)) (m_picture (paper, inks) ((w : Int), (h : Int)) states) := by
    unfold m_picture
    refine run_of ?_
    unfold m_picture_b
    refine os_lt ?_
    simp (config := { implicitDefEqProofs := false }) only [R.bind_ok]
    rw [rng_ok (by decide) (by decide) (by omega) (by omega)]
    simp (config := { implicitDefEqProofs := false }) only [R.to_ok]
    have hlen : (rng 0 (h : Int)).length = h := by rw [rng_len]; omega
    have wlen : (rng 0 (w : Int)).length = w := by rw [rng_len]; omega
    refine os_bind (M := fun r => r = DL.mk (pic paper inks states w h states.length)) (os_for (fun i r => r = DL.mk (pic paper inks states w i states.length)) rfl (fun i x r hi' p => ?_) fun r p => by rw [p, hlen]) fun r p => os_rt p
    have hx := (rng_nat hi').1
    subst hx p
    have hil := (rng_nat hi').2
    refine os_lt ?_
    rw [rng_ok (by decide) (by decide) (by omega) (by omega)]
    simp (config := { implicitDefEqProofs := false }) only [R.to_ok]
    refine os_bind (M := fun r => r = picr paper inks states w i states.length) (os_for (fun j r => r = (List.range j).map fun c => colr paper inks states (i * w + c) states.length) rfl (fun j y r hj p => ?_) fun r p => by rw [p, wlen]; rfl) fun r p => ?_
    · have hy := (rng_nat hj).1
      subst hy p
      have hjl := (rng_nat hj).2
      have hb : i * w + j ≤ 1000 := by
        have := Nat.mul_le_mul (show i ≤ 24 by omega) w1
        omega
      rw [mul_okl (by omega) (by omega)]
      simp (config := { implicitDefEqProofs := false }) only [R.bind_ok, R.to_ok]
      rw [show (i : Int) * (w : Int) + (j : Int) = ((i * w + j : Nat) : Int) by norm_cast]
      rw [rng_ok (by decide) (by decide) (by omega) (by omega)]
      simp (config := { implicitDefEqProofs := false }) only [R.bind_ok]
      have hs : rng 0 (states.length : Int) = (List.range states.length).map fun n : Nat => (n : Int) := by
        unfold rng
        simp
      rw [lc_ok (p' := fun x : Int => bit (states.getD x.toNat 0) (i * w + j)) (f' := fun x => x) (by rw [rng_len]; omega) (fun x hx => ?_) fun _ _ _ => rfl]
      · simp (config := { implicitDefEqProofs := false }) only [R.bind_ok, List.map_id']
        rw [show (rng 0 (states.length : Int)).filter (fun x => bit (states.getD x.toNat 0) (i * w + j)) = stk states (i * w + j) by
          rw [hs, List.filter_map]
          unfold stk
          rfl]
        rw [lawcol_eq hi hp hl]
        simp (config := { implicitDefEqProofs := false }) only [R.to_ok]
        rw [apd_ok (by rw [List.length_map, List.length_range]; omega)]
        refine os_nx ?_
        rw [List.range_succ, List.map_append]
        rfl
      · have := rng_mem hx
        rw [ix_ok (by omega) (by omega)]
        simp (config := { implicitDefEqProofs := false }) only [R.bind_ok]
        unfold R.shr
        rw [if_pos (by omega)]
        simp (config := { implicitDefEqProofs := false }) only [R.bind_ok, PyProof.Rows.bitAnd_m1, Int.toNat_natCast]
        rw [List.getD_eq_getElem?_getD, List.getElem?_eq_getElem (show x.toNat < states.length by omega)]
        rfl
    · have ha : R.appD (DL.mk (pic paper inks states w i states.length)) r = .ok (DL.mk (pic paper inks states w (i + 1) states.length)) := by
        unfold R.appD
        rw [if_pos (by rw [sl_eq]; show (pic paper inks states w i states.length).length < _; unfold pic; rw [List.length_map, List.length_range]; omega), p]
        congr 2
        show pic paper inks states w i states.length ++ [_] = _
        unfold pic
        rw [List.range_succ, List.map_append]
        rfl
      rw [ha]
      exact os_nx rfl
  obtain ⟨r, e, q⟩ := key
  rw [e, q]

/-! ### the pictures of the pool, pressed and by the law -/
theorem glaze_len {B : BenchT} (hB : BenchOk B) : ∀ i ∈ B.2, ∀ p, i.c = .inr p → p.l.length ≤ 1000 := fun i hi p e => by
  obtain ⟨pl, k0, s, _, _, _, _, _, _, q⟩ := hB
  obtain ⟨j, hj⟩ := List.mem_iff_getElem?.mp hi
  rcases (q j i hj).2 with ⟨_, k, _, e2⟩ | ⟨_, ps, e2, _, l3, _⟩
  · rw [e2] at e; cases e
  · rw [e2] at e
    cases e
    show (List.map _ ps).length ≤ 1000
    rw [List.length_map]
    omega
theorem press_pic {B : BenchT} (hB : BenchOk B) {s : Int × Int} {w h : Nat} (hs : SzN s w h) {states : List Int} (hl : states.length = B.2.length) : m_pressed B s states = .ok (DL.mk (pic B.1 B.2 states w h states.length)) ∧ m_picture B s states = .ok (DL.mk (pic B.1 B.2 states w h states.length)) := by
  obtain ⟨es, w0, w1, h0, h1⟩ := hs
  have hb : B.2.length ≤ 4 := by obtain ⟨p, k0, sh, _, _, _, _, _, q, _⟩ := hB; exact q
  subst es
  exact ⟨pressed_eq hB.ik (by omega) (by omega) (by omega) (by omega), lawpic_eq hB.ik (glaze_len hB) (by omega) (by omega) (by omega) (by omega)⟩

/-! ### a shop of names -/
abbrev AD := List (Str × Bool)
abbrev NoN : Exc := ⟨"NoName", []⟩
abbrev Twi : Exc := ⟨"Twice", []⟩
def shopOf (b : BenchT) (s : Int × Int) (ss : List Int) (w : List (Str × Int)) (p : List (Str × List (Int × Int))) : O_Shop := Ins.mk (Fd.mk (Fd.mk (Fd.mk (Fd.mk (Fd.mk Fn.mk (Fr.mk b)) (Fr.mk s)) (Fr.mk ss)) (Dq.mk w)) (DGk.mk p))
theorem init_eq (b : BenchT) (s : Int × Int) (ss : List Int) : m_Shop_init b s ss = .ok (shopOf b s ss [] []) := by
  unfold m_Shop_init m_Shop_init_b
  rfl
def wo (s : Int × Int) (A : AD) : List (Str × Int) := A.map fun p => (p.1, allI s)
def po (B : AD) : List (Str × List (Int × Int)) := B.map fun p => (p.1, [])
theorem dval_mapc {α β : Type} {v : β} {k : Str} : ∀ A : List (Str × α), dval (A.map fun p => (p.1, v)) k = (dval A k).map fun _ => v
  | [] => rfl
  | p :: A => by
    rw [List.map_cons]
    show (if p.1 = k then some v else dval (A.map fun p => (p.1, v)) k) = (if p.1 = k then some p.2 else dval A k).map fun _ => v
    rw [dval_mapc A]
    split <;> rfl
theorem dval_wo {s : Int × Int} {A : AD} {k : Str} : dval (wo s A) k = (dval A k).map fun _ => allI s := dval_mapc A
theorem dval_po {B : AD} {k : Str} : dval (po B) k = (dval B k).map fun _ => ([] : List (Int × Int)) := dval_mapc B
theorem wo_app (s : Int × Int) (A : AD) (n : Str) : wo s A ++ [(n, allI s)] = wo s (A ++ [(n, true)]) := by
  unfold wo
  rw [List.map_append]
  rfl
theorem po_app (A : AD) (n : Str) : po A ++ [(n, [])] = po (A ++ [(n, true)]) := by
  unfold po
  rw [List.map_append]
  rfl
theorem dput_none {α : Type} {x : List (Str × α)} {k : Str} {v : α} (h : dval x k = none) : dput x k v = x ++ [(k, v)] := by
  unfold dput
  rw [h]
  rfl
section
variable {x : O_Shop} {n : Str} {b : Bool}
theorem look1 {w : List (Str × Int)} (hn : m_is_word n = .ok b) : m_Shop_look_at_new x n ⟨w⟩ = if b = true then (if (dval w n).isSome = true then .ex Twi else .ok ()) else .ex NoN := by
  unfold m_Shop_look_at_new m_Shop_look_at_new_b
  rw [hn]
  cases b
  · rfl
  · show Out.finX (if (dval w n).isSome = true then _ else _) _ = _
    cases h : (dval w n).isSome <;> rfl
theorem look2 {w : List (Str × List (Int × Int))} (hn : m_is_word n = .ok b) : m_Shop_look_at_new_2 x n ⟨w⟩ = if b = true then (if (dval w n).isSome = true then .ex Twi else .ok ()) else .ex NoN := by
  unfold m_Shop_look_at_new_2 m_Shop_look_at_new_2_b
  rw [hn]
  cases b
  · rfl
  · show Out.finX (if (dval w n).isSome = true then _ else _) _ = _
    cases h : (dval w n).isSome <;> rfl
theorem known1 {w : List (Str × List (Int × Int))} : m_Shop_look_at_known x n ⟨w⟩ = if (dval w n).isSome = true then .ok () else .ex NoN := by
  unfold m_Shop_look_at_known m_Shop_look_at_known_b
  show Out.finX (if (!(dval w n).isSome) = true then _ else _) _ = _
  cases h : (dval w n).isSome <;> rfl
theorem known2 {w : List (Str × Int)} : m_Shop_look_at_known_2 x n ⟨w⟩ = if (dval w n).isSome = true then .ok () else .ex NoN := by
  unfold m_Shop_look_at_known_2 m_Shop_look_at_known_2_b
  show Out.finX (if (!(dval w n).isSome) = true then _ else _) _ = _
  cases h : (dval w n).isSome <;> rfl
end
section
variable {B : BenchT} {s : Int × Int} {S : List Int} {A D : AD} {n : Str} {b : Bool} {w h : Nat}
theorem block_no (hn : m_is_word n = .ok false) {W} {P} : m_Shop_block (shopOf B s S W P) n = .ex NoN := by
  unfold m_Shop_block m_Shop_block_b
  show moFX ((m_Shop_look_at_new _ n ⟨W⟩).to _) = _
  rw [look1 hn]
  rfl
theorem block_twice (hn : m_is_word n = .ok true) {P} (ha : (dval A n).isSome = true) : m_Shop_block (shopOf B s S (wo s A) P) n = .ex Twi := by
  unfold m_Shop_block m_Shop_block_b
  show moFX ((m_Shop_look_at_new _ n ⟨wo s A⟩).to _) = _
  rw [look1 hn, dval_wo]
  cases q : dval A n with
  | none => rw [q] at ha; cases ha
  | some v => rfl
theorem block_ok (hs : SzN s w h) (hn : m_is_word n = .ok true) {P} (ha : dval A n = none) (hl : A.length ≤ 100) : m_Shop_block (shopOf B s S (wo s A) P) n = .ok ((), shopOf B s S (wo s (A ++ [(n, true)])) P) := by
  have hp : R.dput (Dk.mk (wo s A)) n (allI s) = .ok ⟨wo s (A ++ [(n, true)])⟩ := by
    unfold R.dput
    rw [if_pos (by rw [sl_eq]; show (wo s A).length < _; unfold wo; rw [List.length_map]; omega)]
    show R.ok (Dk.mk (dput (wo s A) n (allI s))) = _
    rw [dput_none (by rw [dval_wo, ha]; rfl), wo_app]
  unfold m_Shop_block m_Shop_block_b
  show moFX ((m_Shop_look_at_new _ n ⟨wo s A⟩).to fun _ => (m_all_of s).to fun t4 => (R.ok n).to fun t5 => (R.dput (Dk.mk (wo s A)) t5 t4).to _) = _
  rw [look1 hn, dval_wo, ha, all_eq hs.sz]
  show moFX ((R.dput (Dk.mk (wo s A)) n (allI s)).to _) = _
  rw [hp]
  rfl
theorem sheet_no (hn : m_is_word n = .ok false) {W} {P} : m_Shop_sheet (shopOf B s S W P) n = .ex NoN := by
  unfold m_Shop_sheet m_Shop_sheet_b
  show moFX ((m_Shop_look_at_new_2 _ n ⟨P⟩).to _) = _
  rw [look2 hn]
  rfl
theorem sheet_twice (hn : m_is_word n = .ok true) {W} (ha : (dval D n).isSome = true) : m_Shop_sheet (shopOf B s S W (po D)) n = .ex Twi := by
  unfold m_Shop_sheet m_Shop_sheet_b
  show moFX ((m_Shop_look_at_new_2 _ n ⟨po D⟩).to _) = _
  rw [look2 hn, dval_po]
  cases q : dval D n with
  | none => rw [q] at ha; cases ha
  | some v => rfl
theorem sheet_ok (hn : m_is_word n = .ok true) {W} (ha : dval D n = none) (hl : D.length ≤ 100) : m_Shop_sheet (shopOf B s S W (po D)) n = .ok ((), shopOf B s S W (po (D ++ [(n, true)]))) := by
  have hp : R.dnew (DGk.mk (po D)) n = .ok ⟨po (D ++ [(n, true)])⟩ := by
    unfold R.dnew
    rw [if_pos ⟨by rw [sl_eq]; show (po D).length < _; unfold po; rw [List.length_map]; omega, by show (dval (po D) n).isNone = true; rw [dval_po, ha]; rfl⟩]
    show R.ok (DGk.mk (po D ++ [(n, [])])) = _
    rw [po_app]
  unfold m_Shop_sheet m_Shop_sheet_b
  show moFX ((m_Shop_look_at_new_2 _ n ⟨po D⟩).to fun _ => (R.ok n).to fun t4 => (R.dnew (DGk.mk (po D)) t4).to _) = _
  rw [look2 hn, dval_po, ha]
  show moFX ((R.dnew (DGk.mk (po D)) n).to _) = _
  rw [hp]
  rfl
theorem spoil_no {W} (ha : dval D n = none) : m_Shop_spoil (shopOf B s S W (po D)) n = .ex NoN := by
  unfold m_Shop_spoil m_Shop_spoil_b
  show moFX ((m_Shop_look_at_known _ n ⟨po D⟩).to _) = _
  rw [known1, dval_po, ha]
  rfl
theorem spoil_ok {W} (ha : (dval D n).isSome = true) : m_Shop_spoil (shopOf B s S W (po D)) n = .ok ((), shopOf B s S W (po (D.filter fun p => decide (p.1 ≠ n)))) := by
  have hp : R.popGk (DGk.mk (po D)) n = .ok ⟨po (D.filter fun p => decide (p.1 ≠ n))⟩ := by
    unfold R.popGk
    rw [if_pos (by show (dval (po D) n).isSome = true; rw [dval_po, Option.isSome_map]; exact ha)]
    show R.ok (DGk.mk ((po D).filter fun p => decide (p.1 ≠ n))) = _
    unfold po
    rw [List.filter_map]
    rfl
  unfold m_Shop_spoil m_Shop_spoil_b
  show moFX ((m_Shop_look_at_known _ n ⟨po D⟩).to fun _ => (R.ok n).to fun t4 => (R.popGk (DGk.mk (po D)) t4).to _) = _
  rw [known1, dval_po, Option.isSome_map, ha]
  show moFX ((R.popGk (DGk.mk (po D)) n).to _) = _
  rw [hp]
  rfl
theorem wood_no {P} (ha : dval A n = none) : m_Shop_wood (shopOf B s S (wo s A) P) n = .ex NoN := by
  unfold m_Shop_wood m_Shop_wood_b
  show Out.runX ((m_Shop_look_at_known_2 _ n ⟨wo s A⟩).to _) = _
  rw [known2, dval_wo, ha]
  rfl
theorem wood_ok {P} (ha : (dval A n).isSome = true) : m_Shop_wood (shopOf B s S (wo s A) P) n = .ok (allI s) := by
  have hd : R.dget (Dk.mk (wo s A)) n = .ok (allI s) := by
    unfold R.dget
    rw [show (Dk.mk (wo s A)).l = wo s A from rfl, dval_wo]
    cases q : dval A n with
    | none => rw [q] at ha; cases ha
    | some v => rfl
  unfold m_Shop_wood m_Shop_wood_b
  show Out.runX ((m_Shop_look_at_known_2 _ n ⟨wo s A⟩).to fun _ => (R.dget (Dk.mk (wo s A)) n).to .rt) = _
  rw [known2, dval_wo, Option.isSome_map, ha, hd]
  rfl
theorem dget_po (ha : (dval D n).isSome = true) : R.dget (Dk.mk (po D)) n = .ok [] := by
  unfold R.dget
  rw [show (Dk.mk (po D)).l = po D from rfl, dval_po]
  cases q : dval D n with
  | none => rw [q] at ha; cases ha
  | some v => rfl
theorem shows_no {W} (ha : dval D n = none) : m_Shop_shows (shopOf B s S W (po D)) n = .ex NoN := by
  unfold m_Shop_shows m_Shop_shows_b
  show Out.runX ((m_Shop_look_at_known _ n ⟨po D⟩).to _) = _
  rw [known1, dval_po, ha]
  rfl
theorem lacks_no {W} (ha : dval D n = none) : m_Shop_lacks (shopOf B s S W (po D)) n = .ex NoN := by
  unfold m_Shop_lacks m_Shop_lacks_b
  show Out.runX ((m_Shop_look_at_known _ n ⟨po D⟩).to _) = _
  rw [known1, dval_po, ha]
  rfl
theorem rep_ok {n : Nat} (h : n ≤ 1000) : R.rep [(0 : Int)] (n : Int) = .ok (List.replicate n 0) := by
  unfold R.rep
  rw [if_pos ⟨by omega, by omega, by rw [sl_eq]; show 1 * (n : Int).toNat ≤ _; omega⟩, Int.toNat_natCast]
  congr 1
  clear h
  induction n with
  | zero => rfl
  | succ n ih => rw [List.replicate_succ, List.flatten_cons, ih, List.replicate_succ]; rfl
theorem shows_ok (hB : BenchOk B) (hs : SzN s w h) {W} (ha : (dval D n).isSome = true) : m_Shop_shows (shopOf B s S W (po D)) n = .ok (DL.mk (pic B.1 B.2 (List.replicate B.2.length 0) w h B.2.length)) := by
  have hb : B.2.length ≤ 4 := by obtain ⟨p, k0, sh, _, _, _, _, _, q, _⟩ := hB; exact q
  unfold m_Shop_shows m_Shop_shows_b
  show Out.runX ((m_Shop_look_at_known _ n ⟨po D⟩).to fun _ => ((R.ok [(0 : Int)]).bind fun t3 => (R.ok (B.2.length : Int)).bind fun t4 => R.rep t3 t4).to fun st => ((R.ok (Dk.mk (po D))).bind fun t6 => (R.ok n).bind fun t7 => (R.dget t6 t7)).to _) = _
  rw [known1, dval_po, Option.isSome_map, ha]
  simp (config := { implicitDefEqProofs := false }) only [R.to_ok, R.bind_ok, if_true, dget_po ha, rep_ok (show B.2.length ≤ 1000 by omega)]
  show Out.runX ((m_pressed B s (List.replicate B.2.length 0)).to .rt) = _
  rw [(press_pic hB hs (by rw [List.length_replicate])).1, List.length_replicate]
  rfl
theorem lacks_ok (hb : B.2.length ≤ 4) {W} (ha : (dval D n).isSome = true) : m_Shop_lacks (shopOf B s S W (po D)) n = .ok (rng 0 (B.2.length : Int)) := by
  unfold m_Shop_lacks m_Shop_lacks_b
  show Out.runX ((m_Shop_look_at_known _ n ⟨po D⟩).to fun _ => ((R.dget (Dk.mk (po D)) n).bind fun l6 => R.lcM l6 (fun (x5 : (Int × Int)) => x5.1)).to fun there => ((R.rng 0 (B.2.length : Int)).bind fun l10 => R.lcT l10 (fun (x9 : Int) => (!memB x9 there)) (fun (x9 : Int) => x9)).to .rt) = _
  rw [known1, dval_po, Option.isSome_map, ha, dget_po ha, rng_ok (by decide) (by decide) (by omega) (by omega)]
  simp (config := { implicitDefEqProofs := false }) only [R.to_ok, R.bind_ok, if_true]
  rw [lcM_ok (by decide)]
  simp (config := { implicitDefEqProofs := false }) only [R.to_ok, R.bind_ok]
  rw [lcT_ok (by rw [rng_len]; omega)]
  show R.ok _ = R.ok _
  congr 1
  rw [List.map_id', List.filter_eq_self.mpr fun x _ => ?_]
  rfl
end

/-! ### the names -/
def nmL : List Nat := [107, 98, 116, 99, 120, 100]
def nm (r k : Nat) : Str := ⟨(List.replicate r 97 ++ nmL.getD k 0 :: List.replicate (5 - r) 97).toArray⟩
def namesR (q : Int) : R (List Str) := ((R.ok ("kbtcxd" : Str)).bind fun t27 => (R.ok (signs t27))).bind fun l43 => R.lc l43 (fun (x28 : Str) => (R.ok true)) (fun (x28 : Str) => ((((R.ok ("aaaaaa" : Str)).bind fun t31 => (R.ok none).bind fun t32 => ((R.ok q).bind fun t30 => (R.ok (some t30))).bind fun t33 => (R.ok (cutS t31 t32 t33))).bind fun t34 => (R.ok x28).bind fun t35 => (R.addS t34 t35)).bind fun t41 => ((R.ok ("aaaaa" : Str)).bind fun t38 => ((R.ok q).bind fun t37 => (R.ok (some t37))).bind fun t39 => (R.ok none).bind fun t40 => (R.ok (cutS t38 t39 t40))).bind fun t42 => (R.addS t41 t42)))
def okLs (m : R (List Str)) (s : List Str) : Bool := match m with
  | .ok x => decide (x = s)
  | _ => false
theorem okLs_eq {m : R (List Str)} {s : List Str} (h : okLs m s = true) : m = .ok s := by
  cases m with
  | ok x => exact congrArg R.ok (of_decide_eq_true h)
  | ex e => cases h
  | no => cases h
theorem names_tab : ∀ r : Fin 6, okLs (namesR (r.val : Int)) ((List.range 6).map (nm r.val)) = true := by decide +kernel
theorem names_eq {r : Nat} (h : r < 6) : namesR (r : Int) = .ok ((List.range 6).map (nm r)) := okLs_eq (names_tab ⟨r, h⟩)
def okT (m : R Bool) (b : Bool) : Bool := match m with
  | .ok x => decide (x = b)
  | _ => false
theorem okT_eq {m : R Bool} {b : Bool} (h : okT m b = true) : m = .ok b := by
  cases m with
  | ok x => exact congrArg R.ok (of_decide_eq_true h)
  | ex e => cases h
  | no => cases h
theorem good_tab : ∀ r : Fin 6, ∀ k : Fin 6, okT (m_is_word (nm r.val k.val)) true = true := by decide +kernel
theorem good_eq {r k : Nat} (h : r < 6) (hk : k < 6) : m_is_word (nm r k) = .ok true := okT_eq (good_tab ⟨r, h⟩ ⟨k, hk⟩)
theorem sok_tab : ∀ r : Fin 6, ∀ k : Fin 6, soks [nm r.val k.val] = true := by decide +kernel
theorem sok_nm {r k : Nat} (h : r < 6) (hk : k < 6) : SOk (nm r k) := soks_at (sok_tab ⟨r, h⟩ ⟨k, hk⟩) (List.mem_singleton.mpr rfl)
def badR (n : Str) (i : Int) : R Str := ((((R.ok ("" : Str)).bind fun t132 => (((R.ok n).bind fun t114 => (R.ok n).bind fun t115 => (R.addS t114 t115)).bind fun t130 => (((R.ok n).bind R.upper).bind fun t128 => (((R.ok n).bind fun t116 => (R.ok (" " : Str)).bind fun t117 => (R.addS t116 t117)).bind fun t126 => ((((R.ok n).bind fun t119 => (R.ok none).bind fun t120 => ((R.ok (2 : Int)).bind fun t118 => (R.ok (some t118))).bind fun t121 => (R.ok (cutS t119 t120 t121))).bind fun t122 => (R.ok ("1" : Str)).bind fun t123 => (R.addS t122 t123)).bind fun t124 => (R.ok ()).bind fun t125 => (R.ok (t124, t125))).bind fun t127 => (R.ok (t126, t127))).bind fun t129 => (R.ok (t128, t129))).bind fun t131 => (R.ok (t130, t131))).bind fun t133 => (R.ok (t132, t133))).bind fun z134 => (R.ok [z134.1, z134.2.1, z134.2.2.1, z134.2.2.2.1, z134.2.2.2.2.1])).bind fun t135 => (R.ok i).bind fun t136 => (R.ix t135 t136))
def okN (m : R Str) : Bool := match m with
  | .ok t => okT (m_is_word t) false
  | _ => false
theorem bad_tab : ∀ r : Fin 6, ∀ k : Fin 6, ∀ i : Fin 5, okN (badR (nm r.val k.val) (i.val : Int)) = true := by decide +kernel
theorem bad_rs {r k : Nat} {i : Int} (h : r < 6) (hk : k < 6) (i0 : 0 ≤ i) (i1 : i < 5) : RS (fun t => m_is_word t = .ok false) (badR (nm r k) i) := by
  have h := bad_tab ⟨r, h⟩ ⟨k, hk⟩ ⟨i.toNat, by omega⟩
  dsimp only at h
  rw [Int.toNat_of_nonneg i0] at h
  revert h
  generalize badR (nm r k) i = m
  intro h
  cases m with
  | ok t => exact ⟨t, rfl, okT_eq h⟩
  | ex e => cases h
  | no => cases h

/-! ### kinds, asking -/
abbrev FT := Option (Int ⊕ ((List (List Str)) ⊕ (List Int)))
def five (a b c d e : Bool) : List (Dy 0) := [dyOf 0 a, dyOf 0 b, dyOf 0 c, dyOf 0 d, dyOf 0 e]
abbrev K0 := five false false false false false
abbrev KN := five true true false false false
abbrev KT := five true false true false false
theorem kind_none : m_kind none = .ok K0 := by kernel_rfl
theorem kind_no : m_kind (some NoN) = .ok KN := by kernel_rfl
theorem kind_tw : m_kind (some Twi) = .ok KT := by kernel_rfl
theorem due_0 : m_due "" = .ok K0 := by kernel_rfl
theorem due_n : m_due "NoName" = .ok KN := by kernel_rfl
theorem due_t : m_due "Twice" = .ok KT := by kernel_rfl
theorem eq_0 : eqDn K0 K0 = true := by kernel_rfl
theorem eq_n : eqDn KN KN = true := by kernel_rfl
theorem eq_t : eqDn KT KT = true := by kernel_rfl
/-- what is asked, by the way -/
def askR (sh : O_Shop) (way : Int) (n : Str) : R (O_Shop × FT) :=
  if way = 0 then (m_Shop_block sh n).bind fun r => .ok (r.2, none)
  else if way = 1 then (m_Shop_sheet sh n).bind fun r => .ok (r.2, none)
  else if way = 2 then (m_Shop_spoil sh n).bind fun r => .ok (r.2, none)
  else if way = 3 then (m_Shop_wood sh n).bind fun r => .ok (sh, some (.inl r))
  else if way = 4 then (m_Shop_shows sh n).bind fun r => .ok (sh, some (.inr (.inl r.l)))
  else (m_Shop_lacks sh n).bind fun r => .ok (sh, some (.inr (.inr r)))
def doneR (sh : O_Shop) (a : R (O_Shop × FT)) : R ((List (Dy 0) × FT) × O_Shop) := ioR ((Out.bind (Out.tryE (a.to fun s5 => (.nx (s5.1, (none : Option Exc), s5.2) : Out (O_Shop × Option Exc × FT) Unit _)) (["NoName", "Twice"] : List Str) (fun (e3 : Exc) => (.nx (sh, some e3, none)))) fun (s4 : (O_Shop × (Option Exc) × FT)) => (R.to (((m_kind s4.2.1).bind fun t40 => ((R.ok s4.2.2).bind fun t38 => (R.ok ()).bind fun t39 => (R.ok (t38, t39))).bind fun t41 => (R.ok (t40, t41))).bind fun z42 => (R.ok (z42.1, z42.2.1))) fun r43 => .rt (r43, s4.1))) : Out Empty Unit _)
theorem done_eq (sh : O_Shop) (way : Int) (n : Str) : m_done sh way n = doneR sh (askR sh way n) := by
  unfold m_done m_done_b doneR askR
  simp (config := { implicitDefEqProofs := false }) only [lt, R.to_ok, R.bind_ok]
  by_cases h0 : way = 0
  · rw [if_pos h0, if_pos (decide_eq_true h0)]
    cases m_Shop_block sh n <;> rfl
  rw [if_neg h0, if_neg (by rw [decide_eq_false h0]; decide)]
  by_cases h1 : way = 1
  · rw [if_pos h1, if_pos (decide_eq_true h1)]
    cases m_Shop_sheet sh n <;> rfl
  rw [if_neg h1, if_neg (by rw [decide_eq_false h1]; decide)]
  by_cases h2 : way = 2
  · rw [if_pos h2, if_pos (decide_eq_true h2)]
    cases m_Shop_spoil sh n <;> rfl
  rw [if_neg h2, if_neg (by rw [decide_eq_false h2]; decide)]
  by_cases h3 : way = 3
  · rw [if_pos h3, if_pos (decide_eq_true h3)]
    cases m_Shop_wood sh n <;> rfl
  rw [if_neg h3, if_neg (by rw [decide_eq_false h3]; decide)]
  by_cases h4 : way = 4
  · rw [if_pos h4, if_pos (decide_eq_true h4)]
    cases m_Shop_shows sh n <;> rfl
  rw [if_neg h4, if_neg (by rw [decide_eq_false h4]; decide)]
  cases m_Shop_lacks sh n <;> rfl
theorem doneR_ok (sh sh' : O_Shop) (f : FT) : doneR sh (.ok (sh', f)) = .ok ((K0, f), sh') := by
  unfold doneR
  simp (config := { implicitDefEqProofs := false }) only [R.to_ok, Out.tryE, Out.bind_nx, kind_none, R.bind_ok]
  rfl
theorem doneR_no (sh : O_Shop) : doneR sh (.ex NoN) = .ok ((KN, none), sh) := by
  have e : (Out.tryE ((R.ex NoN : R (O_Shop × FT)).to fun s5 => (.nx (s5.1, (none : Option Exc), s5.2) : Out (O_Shop × Option Exc × FT) Unit ((List (Dy 0) × FT) × O_Shop))) (["NoName", "Twice"] : List Str) (fun (e3 : Exc) => (.nx (sh, some e3, none)))) = .nx (sh, some NoN, none) := by
    have hm : NoN.cls ∈ (["NoName", "Twice"] : List Str) := by decide +kernel
    show (if NoN.cls ∈ (["NoName", "Twice"] : List Str) then (Out.nx (sh, some NoN, none) : Out (O_Shop × Option Exc × FT) Unit ((List (Dy 0) × FT) × O_Shop)).npx else Out.no) = _
    rw [if_pos hm]
    rfl
  unfold doneR
  rw [e]
  simp (config := { implicitDefEqProofs := false }) only [Out.bind_nx, kind_no, R.bind_ok, R.to_ok]
  rfl
theorem doneR_tw (sh : O_Shop) : doneR sh (.ex Twi) = .ok ((KT, none), sh) := by
  have e : (Out.tryE ((R.ex Twi : R (O_Shop × FT)).to fun s5 => (.nx (s5.1, (none : Option Exc), s5.2) : Out (O_Shop × Option Exc × FT) Unit ((List (Dy 0) × FT) × O_Shop))) (["NoName", "Twice"] : List Str) (fun (e3 : Exc) => (.nx (sh, some e3, none)))) = .nx (sh, some Twi, none) := by
    have hm : Twi.cls ∈ (["NoName", "Twice"] : List Str) := by decide +kernel
    show (if Twi.cls ∈ (["NoName", "Twice"] : List Str) then (Out.nx (sh, some Twi, none) : Out (O_Shop × Option Exc × FT) Unit ((List (Dy 0) × FT) × O_Shop)).npx else Out.no) = _
    rw [if_pos hm]
    rfl
  unfold doneR
  rw [e]
  simp (config := { implicitDefEqProofs := false }) only [Out.bind_nx, kind_tw, R.bind_ok, R.to_ok]
  rfl
/-- told -/
def toldW (way : Int) (n : Str) (good : Bool) (A D : AD) : Str :=
  if way = 0 then (if good = false then "NoName" else if (dval A n).isSome then "Twice" else "")
  else if way = 1 then (if good = false then "NoName" else if (dval D n).isSome then "Twice" else "")
  else if way = 3 then (if (dval A n).isSome then "" else "NoName")
  else (if (dval D n).isSome then "" else "NoName")
theorem told_eq {way : Int} (h0 : 0 ≤ way) (h1 : way < 6) (n : Str) (good : Bool) (A D : AD) : m_told way n good (⟨A⟩, ⟨D⟩) = .ok (toldW way n good A D) := by
  unfold m_told m_told_b toldW R.ix2
  have hw : way = 0 ∨ way = 1 ∨ way = 2 ∨ way = 3 ∨ way = 4 ∨ way = 5 := by omega
  rcases hw with e | e | e | e | e | e <;> subst e <;> cases good <;> cases a : (dval A n).isSome <;> cases d : (dval D n).isSome <;> simp [R.and, R.bind_ok, R.to_ok, memB, a, d] <;> rfl
/-- the shop and the law's dicts -/
theorem stands_ok {B : BenchT} {s : Int × Int} {S : List Int} {A D : AD} (ha : A.length < 64) (hd : D.length < 64) (ka : ∀ p ∈ A, SOk p.1) (kd : ∀ p ∈ D, SOk p.1) : m_stands (shopOf B s S (wo s A) (po D)) (⟨A⟩, ⟨D⟩) = .ok true := by
  have sA : R.sortD (Dk.mk A) = .ok (Fw.sortS (A.map (·.1))) := by
    unfold R.sortD
    rw [if_pos ⟨ha, ka⟩]
    rfl
  have sD : R.sortD (Dk.mk D) = .ok (Fw.sortS (D.map (·.1))) := by
    unfold R.sortD
    rw [if_pos ⟨hd, kd⟩]
    rfl
  have mA : (wo s A).map (·.1) = A.map (·.1) := by unfold wo; rw [List.map_map]; rfl
  have mD : (po D).map (·.1) = D.map (·.1) := by unfold po; rw [List.map_map]; rfl
  have bA : m_Shop_blocks (shopOf B s S (wo s A) (po D)) = .ok (Fw.sortS (A.map (·.1))) := by
    unfold m_Shop_blocks m_Shop_blocks_b
    show Out.run ((R.sortD (Dk.mk (wo s A))).to .rt) = _
    unfold R.sortD
    rw [if_pos ⟨by show (wo s A).length < 64; unfold wo; rw [List.length_map]; exact ha, fun p hp => by
      obtain ⟨q, hq, e⟩ := List.mem_map.mp hp
      rw [← e]; exact ka q hq⟩]
    show R.ok (Fw.sortS ((wo s A).map (·.1))) = _
    rw [mA]
  have bD : m_Shop_sheets (shopOf B s S (wo s A) (po D)) = .ok (Fw.sortS (D.map (·.1))) := by
    unfold m_Shop_sheets m_Shop_sheets_b
    show Out.run ((R.sortD (Dk.mk (po D))).to .rt) = _
    unfold R.sortD
    rw [if_pos ⟨by show (po D).length < 64; unfold po; rw [List.length_map]; exact hd, fun p hp => by
      obtain ⟨q, hq, e⟩ := List.mem_map.mp hp
      rw [← e]; exact kd q hq⟩]
    show R.ok (Fw.sortS ((po D).map (·.1))) = _
    rw [mD]
  have lenS : ∀ l : List Str, (Fw.sortS l).length = l.length := fun l => by
    unfold Fw.sortS
    simp
  have l1 : (Fw.sortS (A.map (·.1))).length < 16777216 := by rw [lenS, List.length_map]; omega
  have l2 : (Fw.sortS (D.map (·.1))).length < 16777216 := by rw [lenS, List.length_map]; omega
  unfold m_stands m_stands_b
  simp (config := { implicitDefEqProofs := false }) only [R.bind_ok, R.to_ok, bA, bD, sA, sD, forL, decide_true, Bool.not_true, Bool.or_self, Bool.false_eq_true, if_false, apd_ok l1, apd_ok l2, Out.bind_nx, R.and, if_true]
  rfl

/-! ### the law -/
theorem cell_at_rs (ns : List Int) (hns : ns.length ≤ 63) : RS (fun _ => True) (m_cell_at ⟨ns⟩ 0) := by
  unfold m_cell_at
  refine run_of ?_
  unfold m_cell_at_b
  refine os_if (fun h => os_abs ?_) fun _ => os_rt trivial
  have h0 : (0 : Int) < (ns.length : Int) := of_decide_eq_true h
  simp (config := { implicitDefEqProofs := false }) only [R.bind_ok]
  cases ns with
  | nil => simp at h0
  | cons a l => exact os_to (Q := fun _ => True) (m := R.ix (a :: l) 0) ⟨a, ix_ok (xs := a :: l) (i := 0) (by decide) (by simp), trivial⟩ fun _ _ => os_rt trivial
theorem ix_names {r : Nat} {i : Int} (h0 : 0 ≤ i) (h1 : i < 6) : R.ix ((List.range 6).map (nm r)) i = .ok (nm r i.toNat) := by
  have hi : i = 0 ∨ i = 1 ∨ i = 2 ∨ i = 3 ∨ i = 4 ∨ i = 5 := by omega
  unfold R.ix
  rcases hi with e | e | e | e | e | e <;> subst e <;> rfl
theorem eq_found (f : Int ⊕ ((List (List Str)) ⊕ (List Int))) (hf : ∀ rows, f = .inr (.inl rows) → ∀ row ∈ rows, ∀ t ∈ row, PyData.strOk t = true) : eqDn (some f) f = true := by
  unfold eqDn
  refine PySem.SeqAt.eqv_refl _ ?_
  have hstrs : ∀ l : List Str, (∀ t ∈ l, PyData.strOk t = true) → PyData.canLayAll0 (l.map Dn.toD) = true := fun l => by
    induction l with
    | nil => intro _; simp [PyData.canLayAll0]
    | cons x l ih =>
      intro hl
      rw [List.map_cons]
      simp only [PyData.canLayAll0, Bool.and_eq_true]
      exact ⟨(by show PyData.canLay0 (.str x) = true; simp only [PyData.canLay0]; exact hl x (by simp)), ih fun t ht => hl t (List.mem_cons_of_mem _ ht)⟩
  rcases f with n | rows | l
  · show PyData.canLay0 (.int n) = true
    simp [PyData.canLay0]
  · show PyData.canLay0 (.list (rows.map Dn.toD)) = true
    simp only [PyData.canLay0]
    replace hf := hf rows rfl
    induction rows with
    | nil => simp [PyData.canLayAll0]
    | cons x l ih =>
      rw [List.map_cons]
      simp only [PyData.canLayAll0, Bool.and_eq_true]
      exact ⟨(by show PyData.canLay0 (.list (x.map Dn.toD)) = true; simp only [PyData.canLay0]; exact hstrs x (hf x (by simp))), ih fun r hr => hf r (List.mem_cons_of_mem _ hr)⟩
  · show PyData.canLay0 (.list (l.map Dn.toD)) = true
    simp only [PyData.canLay0]
    clear hf
    induction l with
    | nil => simp [PyData.canLayAll0]
    | cons x l ih =>
      rw [List.map_cons]
      simp only [PyData.canLayAll0, Bool.and_eq_true]
      exact ⟨(by show PyData.canLay0 (.int x) = true; simp [PyData.canLay0]), ih⟩
theorem wd_str : ∀ p : Fin 4, ∀ k : Fin 6, PyData.strOk (wd p.val k.val) = true := by decide +kernel
theorem colr_zero {paper : Str} {inks : List Ink} {m b : Nat} : ∀ n, colr paper inks (List.replicate m 0) b n = paper
  | 0 => rfl
  | n + 1 => by
    have z : (List.replicate m (0 : Int)).getD n 0 = 0 := by
      rw [List.getD_eq_getElem?_getD]
      cases q : (List.replicate m (0 : Int))[n]? with
      | none => rfl
      | some v => rw [(List.mem_replicate.mp (List.mem_of_getElem? q)).2]; rfl
    have zb : bit 0 b = false := by unfold bit; simp
    rw [colr_succ, z, zb, if_neg (by decide), colr_zero n]
theorem pic_zero {B : BenchT} (hB : BenchOk B) {w h m n : Nat} : ∀ row ∈ pic B.1 B.2 (List.replicate m 0) w h n, ∀ t ∈ row, PyData.strOk t = true := fun row hr t ht => by
  obtain ⟨p, k0, sh, hp, hk, _, e1, _⟩ := hB
  unfold pic at hr
  obtain ⟨r, _, er⟩ := List.mem_map.mp hr
  subst er
  unfold picr at ht
  obtain ⟨c, _, ec⟩ := List.mem_map.mp ht
  subst ec
  rw [colr_zero, e1]
  exact wd_str ⟨p, hp⟩ ⟨k0, hk⟩

section
variable {B : BenchT} {s : Int × Int} {S : List Int} {A D : AD} {n : Str} {good : Bool} {w h : Nat}
theorem ask_cases (hB : BenchOk B) (hs : SzN s w h) (hn : m_is_word n = .ok good) {way : Int} (h0 : 0 ≤ way) (h1 : way < 6) (la : A.length ≤ 100) (ld : D.length ≤ 100) :
    (askR (shopOf B s S (wo s A) (po D)) way n = .ex NoN ∧ toldW way n good A D = "NoName") ∨
    (askR (shopOf B s S (wo s A) (po D)) way n = .ex Twi ∧ toldW way n good A D = "Twice") ∨
    (toldW way n good A D = "" ∧ ((way = 0 ∧ good = true ∧ dval A n = none ∧ askR (shopOf B s S (wo s A) (po D)) way n = .ok (shopOf B s S (wo s (A ++ [(n, true)])) (po D), none)) ∨
      (way = 1 ∧ good = true ∧ dval D n = none ∧ askR (shopOf B s S (wo s A) (po D)) way n = .ok (shopOf B s S (wo s A) (po (D ++ [(n, true)])), none)) ∨
      (way = 2 ∧ (dval D n).isSome = true ∧ askR (shopOf B s S (wo s A) (po D)) way n = .ok (shopOf B s S (wo s A) (po (D.filter fun p => decide (p.1 ≠ n))), none)) ∨
      (2 < way ∧ ∃ f, askR (shopOf B s S (wo s A) (po D)) way n = .ok (shopOf B s S (wo s A) (po D), some f) ∧
        R.ix [(Sum.inl (allI s) : Int ⊕ ((List (List Str)) ⊕ (List Int))), .inr (.inl (pic B.1 B.2 (List.replicate B.2.length 0) w h B.2.length)), .inr (.inr (rng 0 (B.2.length : Int)))] (way - 3) = .ok f ∧ eqDn (some f) f = true))) := by
  have hb : B.2.length ≤ 4 := by obtain ⟨p, k0, sh, _, _, _, _, _, q, _⟩ := hB; exact q
  have hw : way = 0 ∨ way = 1 ∨ way = 2 ∨ way = 3 ∨ way = 4 ∨ way = 5 := by omega
  rcases hw with e | e | e | e | e | e <;> subst e
  · have ea : askR (shopOf B s S (wo s A) (po D)) 0 n = (m_Shop_block (shopOf B s S (wo s A) (po D)) n).bind fun r => .ok (r.2, none) := rfl
    have et : toldW 0 n good A D = if good = false then ("NoName" : Str) else if (dval A n).isSome then ("Twice" : Str) else ("" : Str) := rfl
    cases good with
    | false => exact .inl ⟨by rw [ea, block_no hn]; rfl, by rw [et]; rfl⟩
    | true =>
      cases q : dval A n with
      | some v => exact .inr (.inl ⟨by rw [ea, block_twice hn (by rw [q]; rfl)]; rfl, by rw [et, q]; rfl⟩)
      | none => exact .inr (.inr ⟨by rw [et, q]; rfl, .inl ⟨rfl, rfl, rfl, by rw [ea, block_ok hs hn q la]; rfl⟩⟩)
  · have ea : askR (shopOf B s S (wo s A) (po D)) 1 n = (m_Shop_sheet (shopOf B s S (wo s A) (po D)) n).bind fun r => .ok (r.2, none) := rfl
    have et : toldW 1 n good A D = if good = false then ("NoName" : Str) else if (dval D n).isSome then ("Twice" : Str) else ("" : Str) := rfl
    cases good with
    | false => exact .inl ⟨by rw [ea, sheet_no hn]; rfl, by rw [et]; rfl⟩
    | true =>
      cases q : dval D n with
      | some v => exact .inr (.inl ⟨by rw [ea, sheet_twice hn (by rw [q]; rfl)]; rfl, by rw [et, q]; rfl⟩)
      | none => exact .inr (.inr ⟨by rw [et, q]; rfl, .inr (.inl ⟨rfl, rfl, rfl, by rw [ea, sheet_ok hn q ld]; rfl⟩)⟩)
  · have ea : askR (shopOf B s S (wo s A) (po D)) 2 n = (m_Shop_spoil (shopOf B s S (wo s A) (po D)) n).bind fun r => .ok (r.2, none) := rfl
    have et : toldW 2 n good A D = if (dval D n).isSome then ("" : Str) else ("NoName" : Str) := rfl
    cases q : dval D n with
    | none => exact .inl ⟨by rw [ea, spoil_no q]; rfl, by rw [et, q]; rfl⟩
    | some v => exact .inr (.inr ⟨by rw [et, q]; rfl, .inr (.inr (.inl ⟨rfl, rfl, by rw [ea, spoil_ok (by rw [q]; rfl)]; rfl⟩))⟩)
  · have ea : askR (shopOf B s S (wo s A) (po D)) 3 n = (m_Shop_wood (shopOf B s S (wo s A) (po D)) n).bind fun r => .ok (shopOf B s S (wo s A) (po D), some (.inl r)) := rfl
    have et : toldW 3 n good A D = if (dval A n).isSome then ("" : Str) else ("NoName" : Str) := rfl
    cases q : dval A n with
    | none => exact .inl ⟨by rw [ea, wood_no q]; rfl, by rw [et, q]; rfl⟩
    | some v => exact .inr (.inr ⟨by rw [et, q]; rfl, .inr (.inr (.inr ⟨by decide, _, by rw [ea, wood_ok (by rw [q]; rfl)]; rfl, by unfold R.ix; rfl, eq_found _ fun rows e => by cases e⟩))⟩)
  · have ea : askR (shopOf B s S (wo s A) (po D)) 4 n = (m_Shop_shows (shopOf B s S (wo s A) (po D)) n).bind fun r => .ok (shopOf B s S (wo s A) (po D), some (.inr (.inl r.l))) := rfl
    have et : toldW 4 n good A D = if (dval D n).isSome then ("" : Str) else ("NoName" : Str) := rfl
    cases q : dval D n with
    | none => exact .inl ⟨by rw [ea, shows_no q]; rfl, by rw [et, q]; rfl⟩
    | some v => exact .inr (.inr ⟨by rw [et, q]; rfl, .inr (.inr (.inr ⟨by decide, _, by rw [ea, shows_ok hB hs (by rw [q]; rfl)]; rfl, by unfold R.ix; rfl, eq_found _ fun rows e => by cases e; exact pic_zero hB⟩))⟩)
  · have ea : askR (shopOf B s S (wo s A) (po D)) 5 n = (m_Shop_lacks (shopOf B s S (wo s A) (po D)) n).bind fun r => .ok (shopOf B s S (wo s A) (po D), some (.inr (.inr r))) := rfl
    have et : toldW 5 n good A D = if (dval D n).isSome then ("" : Str) else ("NoName" : Str) := rfl
    cases q : dval D n with
    | none => exact .inl ⟨by rw [ea, lacks_no q]; rfl, by rw [et, q]; rfl⟩
    | some v => exact .inr (.inr ⟨by rw [et, q]; rfl, .inr (.inr (.inr ⟨by decide, _, by rw [ea, lacks_ok hb (by rw [q]; rfl)]; rfl, by unfold R.ix; rfl, eq_found _ fun rows e => by cases e⟩))⟩)
end
theorem law_true (ns : List Int) (hns : ns.length ≤ 63) : m_law ⟨ns⟩ = .ok true := by
  obtain ⟨l0, el0, hl0⟩ := pool_rs ⟨ns⟩ 0 (by decide) (by decide)
  obtain ⟨l1, el1, hl1⟩ := pool_rs ⟨ns⟩ 1 (by decide) (by decide)
  obtain ⟨⟨bn, l0'⟩, eb, hB⟩ := benchX_rs hl0
  obtain ⟨⟨sz, l1'⟩, es, hs4⟩ := size_rs hl1
  obtain ⟨c0, ec0, _⟩ := cell_at_rs ns hns
  dsimp only at hB hs4
  obtain ⟨w, h, hs⟩ := szN_of (s := sz) hs4
  have hb : bn.2.length ≤ 4 := by obtain ⟨p, k0, sh, _, _, _, _, _, q, _⟩ := id hB; exact q
  have erep : R.rep [(0 : Int)] (bn.2.length : Int) = .ok (List.replicate bn.2.length 0) := rep_ok (by omega)
  have epic := (press_pic hB hs (states := List.replicate bn.2.length 0) (by rw [List.length_replicate])).2
  rw [List.length_replicate] at epic
  have erng : R.rng 0 (bn.2.length : Int) = .ok (rng 0 (bn.2.length : Int)) := rng_ok (by decide) (by decide) (by omega) (by omega)
  have enp1 : ∀ x : BenchT × List Int, (R.ok x).np = .ok x := fun _ => rfl
  have enp2 : ∀ x : (Int × Int) × List Int, (R.ok x).np = .ok x := fun _ => rfl
  have enp3 : ∀ x : (List (Dy 0) × FT) × O_Shop, (R.ok x).np = .ok x := fun _ => rfl
  have key : RS (fun b => b = true) (m_law ⟨ns⟩) := by
    unfold m_law
    refine run_of ?_
    unfold m_law_b
    simp (config := { implicitDefEqProofs := false }) only [lt, R.bind_ok, R.to_ok, el0, el1, eb, es, enp1, enp2, erep, init_eq, ec0]
    refine os_to (Q := fun l => ∃ r, r < 6 ∧ l = (List.range 6).map (nm r)) ?_ fun names ⟨r, hr, en⟩ => ?_
    · refine (?_ : RS _ (namesR (c0 % 6)))
      have h0 := Int.emod_nonneg c0 (show (6 : Int) ≠ 0 by decide)
      have h1 := Int.emod_lt_of_pos c0 (show (0 : Int) < 6 by decide)
      have e : c0 % 6 = (((c0 % 6).toNat : Nat) : Int) := (Int.toNat_of_nonneg h0).symm
      rw [e]
      exact ⟨_, names_eq (by omega), _, by omega, rfl⟩
    subst en
    rw [sl_upto (by decide)]
    refine os_bind (os_for (fun i q => ∃ A D : AD, q = (shopOf bn sz (List.replicate bn.2.length 0) (wo sz A) (po D), (⟨A⟩, ⟨D⟩)) ∧ A.length ≤ i ∧ D.length ≤ i ∧ (∀ p ∈ A, SOk p.1) ∧ ∀ p ∈ D, SOk p.1) ⟨[], [], rfl, Nat.le_refl _, Nat.le_refl _, fun p hp => (by cases hp), fun p hp => (by cases hp)⟩ (fun i x q hx ⟨A, D, eq, lA, lD, kA, kD⟩ => ?_) fun q z => z) fun q _ => ?_
    · subst eq
      have hi : i < 60 := by
        have := (List.getElem?_eq_some_iff.mp hx).1
        rw [List.length_take] at this
        have h60 : (60 : Int).toNat = 60 := rfl
        omega
      have k0 := Int.emod_nonneg (x / 6) (show (6 : Int) ≠ 0 by decide)
      have k1 := Int.emod_lt_of_pos (x / 6) (show (0 : Int) < 6 by decide)
      simp (config := { implicitDefEqProofs := false }) only [R.to_ok, R.bind_ok, ix_names k0 k1]
      generalize hk : (x / 6 % 6).toNat = k
      have hk6 : k < 6 := by omega
      generalize hgood : (!decide (x / 36 % 7 = 3)) = good
      refine os_bind (M := fun t : Str => m_is_word t = .ok good ∧ (good = true → SOk t)) (os_if (fun hc => ?_) fun hc => ?_) fun t ⟨ht, hsok⟩ => ?_
      · have hg : good = false := by cases good <;> simp_all
        have b0 := Int.emod_nonneg (x / 252) (show (5 : Int) ≠ 0 by decide)
        have b1 := Int.emod_lt_of_pos (x / 252) (show (0 : Int) < 5 by decide)
        exact os_to (m := badR (nm r k) (x / 252 % 5)) (bad_rs hr hk6 b0 b1) fun t ht => os_nx ⟨by rw [hg]; exact ht, fun z => by rw [hg] at z; cases z⟩
      · have hg : good = true := by cases good <;> simp_all
        exact os_nx ⟨by rw [hg]; exact good_eq hr hk6, fun _ => sok_nm hr hk6⟩
      have w0 := Int.emod_nonneg x (show (6 : Int) ≠ 0 by decide)
      have w1 := Int.emod_lt_of_pos x (show (0 : Int) < 6 by decide)
      generalize x % 6 = way at w0 w1 ⊢
      have st := fun (A D : AD) (lA : A.length ≤ i + 1) (lD : D.length ≤ i + 1) (kA : ∀ p ∈ A, SOk p.1) (kD : ∀ p ∈ D, SOk p.1) => stands_ok (B := bn) (s := sz) (S := List.replicate bn.2.length 0) (A := A) (D := D) (by omega) (by omega) kA kD
      simp (config := { implicitDefEqProofs := false }) only [R.to_ok, R.bind_ok, lt2, done_eq, told_eq w0 w1]
      rcases ask_cases (S := List.replicate bn.2.length 0) (A := A) (D := D) hB hs ht w0 w1 (by omega) (by omega) with ⟨ea, et⟩ | ⟨ea, et⟩ | ⟨et, hc⟩
      · rw [ea, et, doneR_no]
        have ne : decide (("NoName" : Str) = "") = false := by decide +kernel
        simp (config := { implicitDefEqProofs := false }) only [enp3, R.to_ok, R.bind_ok, due_n, eq_n, ne, Bool.not_true, Bool.false_and, Bool.false_eq_true, if_false, Out.bind_nx, st A D (by omega) (by omega) kA kD]
        exact os_nx ⟨A, D, rfl, by omega, by omega, kA, kD⟩
      · rw [ea, et, doneR_tw]
        have ne : decide (("Twice" : Str) = "") = false := by decide +kernel
        simp (config := { implicitDefEqProofs := false }) only [enp3, R.to_ok, R.bind_ok, due_t, eq_t, ne, Bool.not_true, Bool.false_and, Bool.false_eq_true, if_false, Out.bind_nx, st A D (by omega) (by omega) kA kD]
        exact os_nx ⟨A, D, rfl, by omega, by omega, kA, kD⟩
      · rw [et]
        rcases hc with ⟨ew, eg, hn, ea⟩ | ⟨ew, eg, hn, ea⟩ | ⟨ew, hn, ea⟩ | ⟨ew, f, ea, ef, eff⟩
        · subst ew
          have kA' : ∀ p ∈ A ++ [(t, true)], SOk p.1 := fun p hp => by
            rcases List.mem_append.mp hp with z | z
            · exact kA p z
            · rw [List.mem_singleton.mp z]; exact hsok eg
          have lA' : (A ++ [(t, true)]).length ≤ i + 1 := by simp; omega
          have ep : R.dputPr ((⟨A⟩, ⟨D⟩) : Dq Str Bool × Dq Str Bool) 0 t true = .ok (⟨A ++ [(t, true)]⟩, ⟨D⟩) := by
            unfold R.dputPr R.dput
            rw [if_pos rfl, if_pos (by rw [sl_eq]; show A.length < _; omega)]
            show R.ok ((⟨dput A t true⟩, ⟨D⟩) : Dq Str Bool × Dq Str Bool) = _
            rw [dput_none hn]
          rw [ea, doneR_ok]
          simp (config := { implicitDefEqProofs := false }) only [enp3, R.to_ok, R.bind_ok, due_0, eq_0, decide_true, Bool.not_true, Bool.true_and, Bool.false_eq_true, if_false, if_true, show decide ((0 : Int) < 2) = true from rfl, show decide ((0 : Int) = 2) = false from rfl, show decide ((2 : Int) < 0) = false from rfl, ep, Out.bind_nx, st _ D lA' (by omega) kA' kD]
          exact os_nx ⟨_, D, rfl, lA', by omega, kA', kD⟩
        · subst ew
          have kD' : ∀ p ∈ D ++ [(t, true)], SOk p.1 := fun p hp => by
            rcases List.mem_append.mp hp with z | z
            · exact kD p z
            · rw [List.mem_singleton.mp z]; exact hsok eg
          have lD' : (D ++ [(t, true)]).length ≤ i + 1 := by simp; omega
          have ep : R.dputPr ((⟨A⟩, ⟨D⟩) : Dq Str Bool × Dq Str Bool) 1 t true = .ok (⟨A⟩, ⟨D ++ [(t, true)]⟩) := by
            unfold R.dputPr R.dput
            rw [if_neg (by decide), if_pos rfl, if_pos (by rw [sl_eq]; show D.length < _; omega)]
            show R.ok ((⟨A⟩, ⟨dput D t true⟩) : Dq Str Bool × Dq Str Bool) = _
            rw [dput_none hn]
          rw [ea, doneR_ok]
          simp (config := { implicitDefEqProofs := false }) only [enp3, R.to_ok, R.bind_ok, due_0, eq_0, decide_true, Bool.not_true, Bool.true_and, Bool.false_eq_true, if_false, if_true, show decide ((1 : Int) < 2) = true from rfl, show decide ((1 : Int) = 2) = false from rfl, show decide ((2 : Int) < 1) = false from rfl, ep, Out.bind_nx, st A _ (by omega) lD' kA kD']
          exact os_nx ⟨A, _, rfl, by omega, lD', kA, kD'⟩
        · subst ew
          have kD' : ∀ p ∈ D.filter fun p => decide (p.1 ≠ t), SOk p.1 := fun p hp => kD p (List.mem_filter.mp hp).1
          have lD' : (D.filter fun p => decide (p.1 ≠ t)).length ≤ i := Nat.le_trans (List.length_filter_le _ _) lD
          have ep : R.popQ (⟨D⟩ : Dq Str Bool) t = .ok ⟨D.filter fun p => decide (p.1 ≠ t)⟩ := by
            unfold R.popQ
            rw [if_pos hn]
          rw [ea, doneR_ok]
          simp (config := { implicitDefEqProofs := false }) only [enp3, R.to_ok, R.bind_ok, due_0, eq_0, decide_true, Bool.not_true, Bool.true_and, Bool.false_eq_true, if_false, if_true, show decide ((2 : Int) < 2) = false from rfl, ep, Out.bind_nx, st A _ (by omega) (show _ ≤ i + 1 by omega) kA kD']
          exact os_nx ⟨A, _, rfl, by omega, by omega, kA, kD'⟩
        · rw [ea, doneR_ok]
          simp (config := { implicitDefEqProofs := false }) only [enp3, R.to_ok, R.bind_ok, due_0, eq_0, decide_true, Bool.not_true, Bool.true_and, Bool.false_eq_true, if_false, if_true, decide_eq_false (show ¬ way < 2 by omega), decide_eq_false (show ¬ way = 2 by omega), decide_eq_true ew, full_eq hs.sz, epic, erng, ef, eff, Out.bind_nx, st A D (by omega) (by omega) kA kD]
          exact os_nx ⟨A, D, rfl, by omega, by omega, kA, kD⟩
    · have h1 : m_Shop_blocks (shopOf bn sz (List.replicate bn.2.length 0) [] []) = .ok [] := by kernel_rfl
      have h2 : m_Shop_sheets (shopOf bn sz (List.replicate bn.2.length 0) [] []) = .ok [] := by kernel_rfl
      simp (config := { implicitDefEqProofs := false }) only [h1, h2, R.bind_ok, R.to_ok, R.and, decide_true, if_true]
      exact os_rt rfl
  obtain ⟨b, e, eb⟩ := key
  rw [e, eb]
end Ma

namespace Wk
open PySem PySem.Spec PyProof.Rows L2 Fw Mir
def topS (i:Nat):Stmt:=PySem.Challenge.pw_lostblock_k53_names_of_a_shop.main.body.getD i (.Pass ⟨0,0,0,0⟩)
abbrev s_pool:Stmt:=topS 29
abbrev N_pool:List Str:=["_law_script","_law_k","_law_cell","_law_number","_law_found","_law_turn"]
theorem sc_pool:FnScope N_pool ["_law_script","_law_k"] (defScope s_pool):=⟨rfl,rfl,rfl,by decide +kernel,rfl,by decide +kernel,by decide +kernel⟩
abbrev s_take:Stmt:=topS 30
abbrev N_take:List Str:=["_law_pool_here","_law_many","_law_found"]
theorem sc_take:FnScope N_take ["_law_pool_here","_law_many"] (defScope s_take):=⟨rfl,rfl,rfl,by decide +kernel,rfl,by decide +kernel,by decide +kernel⟩
abbrev s_word:Stmt:=topS 31
abbrev N_word:List Str:=["_law_place","_law_k"]
theorem sc_word:FnScope N_word ["_law_place","_law_k"] (defScope s_word):=⟨rfl,rfl,rfl,by decide +kernel,rfl,by decide +kernel,by decide +kernel⟩
abbrev s_bench:Stmt:=topS 32
abbrev N_bench:List Str:=["_law_pool_here","_law_place","_law_paper","_law_shift","_law_inks","_law_k","_law_name","_law_unders","_law_pairs","_law_j","_law_under"]
theorem sc_bench:FnScope N_bench ["_law_pool_here"] (defScope s_bench):=⟨rfl,rfl,rfl,by decide +kernel,rfl,by decide +kernel,by decide +kernel⟩
abbrev s_size:Stmt:=topS 33
abbrev N_size:List Str:=["_law_pool_here","_law_wide"]
theorem sc_size:FnScope N_size ["_law_pool_here"] (defScope s_size):=⟨rfl,rfl,rfl,by decide +kernel,rfl,by decide +kernel,by decide +kernel⟩
abbrev s_Shop_init:Stmt:=inCls (topS 26) 0
abbrev N_Shop_init:List Str:=["self","bench","size","states"]
theorem sc_Shop_init:FnScope N_Shop_init ["self","bench","size","states"] (defScope s_Shop_init):=⟨rfl,rfl,rfl,by decide +kernel,rfl,by decide +kernel,by decide +kernel⟩
abbrev s_cell_at:Stmt:=topS 28
abbrev N_cell_at:List Str:=["_law_script","_law_k"]
theorem sc_cell_at:FnScope N_cell_at ["_law_script","_law_k"] (defScope s_cell_at):=⟨rfl,rfl,rfl,by decide +kernel,rfl,by decide +kernel,by decide +kernel⟩
abbrev s_is_word:Stmt:=topS 24
abbrev N_is_word:List Str:=["text","sign"]
theorem sc_is_word:FnScope N_is_word ["text"] (defScope s_is_word):=⟨rfl,rfl,rfl,by decide +kernel,rfl,by decide +kernel,by decide +kernel⟩
abbrev s_Shop_look_at_new:Stmt:=inCls (topS 26) 1
abbrev N_Shop_look_at_new:List Str:=["self","name","names"]
theorem sc_Shop_look_at_new:FnScope N_Shop_look_at_new ["self","name","names"] (defScope s_Shop_look_at_new):=⟨rfl,rfl,rfl,by decide +kernel,rfl,by decide +kernel,by decide +kernel⟩
abbrev s_all_of:Stmt:=topS 9
abbrev N_all_of:List Str:=["size"]
theorem sc_all_of:FnScope N_all_of ["size"] (defScope s_all_of):=⟨rfl,rfl,rfl,by decide +kernel,rfl,by decide +kernel,by decide +kernel⟩
abbrev s_Shop_block:Stmt:=inCls (topS 26) 4
abbrev N_Shop_block:List Str:=["self","name"]
theorem sc_Shop_block:FnScope N_Shop_block ["self","name"] (defScope s_Shop_block):=⟨rfl,rfl,rfl,by decide +kernel,rfl,by decide +kernel,by decide +kernel⟩
abbrev s_Shop_sheet:Stmt:=inCls (topS 26) 5
abbrev N_Shop_sheet:List Str:=["self","name"]
theorem sc_Shop_sheet:FnScope N_Shop_sheet ["self","name"] (defScope s_Shop_sheet):=⟨rfl,rfl,rfl,by decide +kernel,rfl,by decide +kernel,by decide +kernel⟩
abbrev s_Shop_look_at_known:Stmt:=inCls (topS 26) 2
abbrev N_Shop_look_at_known:List Str:=["self","name","names"]
theorem sc_Shop_look_at_known:FnScope N_Shop_look_at_known ["self","name","names"] (defScope s_Shop_look_at_known):=⟨rfl,rfl,rfl,by decide +kernel,rfl,by decide +kernel,by decide +kernel⟩
abbrev s_Shop_spoil:Stmt:=inCls (topS 26) 6
abbrev N_Shop_spoil:List Str:=["self","name"]
theorem sc_Shop_spoil:FnScope N_Shop_spoil ["self","name"] (defScope s_Shop_spoil):=⟨rfl,rfl,rfl,by decide +kernel,rfl,by decide +kernel,by decide +kernel⟩
abbrev s_Shop_wood:Stmt:=inCls (topS 26) 9
abbrev N_Shop_wood:List Str:=["self","name"]
theorem sc_Shop_wood:FnScope N_Shop_wood ["self","name"] (defScope s_Shop_wood):=⟨rfl,rfl,rfl,by decide +kernel,rfl,by decide +kernel,by decide +kernel⟩
abbrev s_stack_at:Stmt:=topS 15
abbrev N_stack_at:List Str:=["states","bit","number","state"]
theorem sc_stack_at:FnScope N_stack_at ["states","bit"] (defScope s_stack_at):=⟨rfl,rfl,rfl,by decide +kernel,rfl,by decide +kernel,by decide +kernel⟩
abbrev s_laid:Stmt:=topS 12
abbrev N_laid:List Str:=["ink","colour","under","over"]
theorem sc_laid:FnScope N_laid ["ink","colour"] (defScope s_laid):=⟨rfl,rfl,rfl,by decide +kernel,rfl,by decide +kernel,by decide +kernel⟩
abbrev s_colour_of:Stmt:=topS 13
abbrev N_colour_of:List Str:=["bench","stack","paper","inks","colour","number"]
theorem sc_colour_of:FnScope N_colour_of ["bench","stack"] (defScope s_colour_of):=⟨rfl,rfl,rfl,by decide +kernel,rfl,by decide +kernel,by decide +kernel⟩
abbrev s_pressed:Stmt:=topS 16
abbrev N_pressed:List Str:=["bench","size","states","wide","high","known","picture","row","colours","column","stack"]
theorem sc_pressed:FnScope N_pressed ["bench","size","states"] (defScope s_pressed):=⟨rfl,rfl,rfl,by decide +kernel,rfl,by decide +kernel,by decide +kernel⟩
abbrev s_Shop_shows:Stmt:=inCls (topS 26) 10
abbrev N_Shop_shows:List Str:=["self","sheet","states","number","some"]
theorem sc_Shop_shows:FnScope N_Shop_shows ["self","sheet"] (defScope s_Shop_shows):=⟨rfl,rfl,rfl,by decide +kernel,rfl,by decide +kernel,by decide +kernel⟩
abbrev s_Shop_lacks:Stmt:=inCls (topS 26) 13
abbrev N_Shop_lacks:List Str:=["self","sheet","there","number","some"]
theorem sc_Shop_lacks:FnScope N_Shop_lacks ["self","sheet"] (defScope s_Shop_lacks):=⟨rfl,rfl,rfl,by decide +kernel,rfl,by decide +kernel,by decide +kernel⟩
abbrev s_kind:Stmt:=topS 40
abbrev N_kind:List Str:=["_law_error","_law_seen"]
theorem sc_kind:FnScope N_kind ["_law_error"] (defScope s_kind):=⟨rfl,rfl,rfl,by decide +kernel,rfl,by decide +kernel,by decide +kernel⟩
abbrev s_done:Stmt:=topS 42
abbrev N_done:List Str:=["_law_shop","_law_way","_law_name","_law_error","_law_found","e"]
theorem sc_done:FnScope N_done ["_law_shop","_law_way","_law_name"] (defScope s_done):=⟨rfl,rfl,rfl,by decide +kernel,rfl,by decide +kernel,by decide +kernel⟩
abbrev s_told:Stmt:=topS 43
abbrev N_told:List Str:=["_law_way","_law_name","_law_good","_law_there"]
theorem sc_told:FnScope N_told ["_law_way","_law_name","_law_good","_law_there"] (defScope s_told):=⟨rfl,rfl,rfl,by decide +kernel,rfl,by decide +kernel,by decide +kernel⟩
abbrev s_due:Stmt:=topS 41
abbrev N_due:List Str:=["_law_word_here","_law_one"]
theorem sc_due:FnScope N_due ["_law_word_here"] (defScope s_due):=⟨rfl,rfl,rfl,by decide +kernel,rfl,by decide +kernel,by decide +kernel⟩
abbrev s_full:Stmt:=topS 39
abbrev N_full:List Str:=["_law_size_here","_law_found","_law_k"]
theorem sc_full:FnScope N_full ["_law_size_here"] (defScope s_full):=⟨rfl,rfl,rfl,by decide +kernel,rfl,by decide +kernel,by decide +kernel⟩
abbrev s_colour:Stmt:=topS 36
abbrev N_colour:List Str:=["_law_bench_here","_law_numbers","_law_colour_here","_law_number","_law_ink","_law_pairs","_law_pair"]
theorem sc_colour:FnScope N_colour ["_law_bench_here","_law_numbers"] (defScope s_colour):=⟨rfl,rfl,rfl,by decide +kernel,rfl,by decide +kernel,by decide +kernel⟩
abbrev s_picture:Stmt:=topS 37
abbrev N_picture:List Str:=["_law_bench_here","_law_size_here","_law_states_here","_law_rows","_law_row","_law_words","_law_column","_law_place","_law_k"]
theorem sc_picture:FnScope N_picture ["_law_bench_here","_law_size_here","_law_states_here"] (defScope s_picture):=⟨rfl,rfl,rfl,by decide +kernel,rfl,by decide +kernel,by decide +kernel⟩
abbrev s_Shop_blocks:Stmt:=inCls (topS 26) 11
abbrev N_Shop_blocks:List Str:=["self"]
theorem sc_Shop_blocks:FnScope N_Shop_blocks ["self"] (defScope s_Shop_blocks):=⟨rfl,rfl,rfl,by decide +kernel,rfl,by decide +kernel,by decide +kernel⟩
abbrev s_Shop_sheets:Stmt:=inCls (topS 26) 12
abbrev N_Shop_sheets:List Str:=["self"]
theorem sc_Shop_sheets:FnScope N_Shop_sheets ["self"] (defScope s_Shop_sheets):=⟨rfl,rfl,rfl,by decide +kernel,rfl,by decide +kernel,by decide +kernel⟩
abbrev s_stands:Stmt:=topS 44
abbrev N_stands:List Str:=["_law_shop","_law_there","_law_found","_law_due_here"]
theorem sc_stands:FnScope N_stands ["_law_shop","_law_there"] (defScope s_stands):=⟨rfl,rfl,rfl,by decide +kernel,rfl,by decide +kernel,by decide +kernel⟩
abbrev s_law:Stmt:=topS 45
abbrev N_law:List Str:=["_law_script","_law_bench_here","_law_size_here","_law_shop","_law_beside","_law_names","_law_sign","_law_there","_law_cell","_law_name","_law_good","_law_way","_law_kind_here","_law_found","_law_due_here","_law_told_here"]
theorem sc_law:FnScope N_law ["_law_script"] (defScope s_law):=⟨rfl,rfl,rfl,by decide +kernel,rfl,by decide +kernel,by decide +kernel⟩
structure Glb (mg:Str→Option Value) (K:Frag) (M:Str→Value) (C_BlockError:Addr) (C_NoName:Addr) (C_NoStroke:Addr) (C_Order:Addr) (C_Shop:Addr) (C_Twice:Addr) (C_Wrong:Addr) (tok_LETTERS:Tok) (tok_LONGEST:Tok):Prop where
  b_ValueError:mg "ValueError" = none
  b_enumerate:mg "enumerate" = none
  b_isinstance:mg "isinstance" = none
  b_len:mg "len" = none
  b_list:mg "list" = none
  b_range:mg "range" = none
  b_sorted:mg "sorted" = none
  b_tuple:mg "tuple" = none
  c_LETTERS:mg "LETTERS" = some (.str ("abcdefghijklmnopqrstuvwxyz":Str) (tok_LETTERS))
  c_LONGEST:mg "LONGEST" = some (.int 8 (tok_LONGEST))
  g_BlockError:mg "BlockError" = some (.ref C_BlockError)
  g_NoName:mg "NoName" = some (.ref C_NoName)
  g_NoStroke:mg "NoStroke" = some (.ref C_NoStroke)
  g_Order:mg "Order" = some (.ref C_Order)
  g_Shop:mg "Shop" = some (.ref C_Shop)
  g_Twice:mg "Twice" = some (.ref C_Twice)
  g_Wrong:mg "Wrong" = some (.ref C_Wrong)
  x_NoName:ExK K "NoName" C_NoName
  z_NoName:PySem.W.excIn K C_NoName vE "ValueError.__new__" = true
  M_NoName:M "NoName" = .ref C_NoName
  x_Twice:ExK K "Twice" C_Twice
  z_Twice:PySem.W.excIn K C_Twice vE "ValueError.__new__" = true
  M_Twice:M "Twice" = .ref C_Twice
  k_BlockError:IsT K ([("NoName",true),("Twice",true)]:List (Str×Bool)) (.ref C_BlockError)
  k_NoName:IsT K ([("NoName",true),("Twice",false)]:List (Str×Bool)) (.ref C_NoName)
  k_NoStroke:IsT K ([("NoName",false),("Twice",false)]:List (Str×Bool)) (.ref C_NoStroke)
  k_Order:IsT K ([("NoName",false),("Twice",false)]:List (Str×Bool)) (.ref C_Order)
  k_Twice:IsT K ([("NoName",false),("Twice",true)]:List (Str×Bool)) (.ref C_Twice)
  k_ValueError:IsT K ([("NoName",true),("Twice",true)]:List (Str×Bool)) (.type "ValueError")
  k_Wrong:IsT K ([("NoName",false),("Twice",false)]:List (Str×Bool)) (.ref C_Wrong)
  kn_BlockError:PySem.W.kitOne K (.type "NoneType") (.ref C_BlockError) = some false
  kn_NoName:PySem.W.kitOne K (.type "NoneType") (.ref C_NoName) = some false
  kn_NoStroke:PySem.W.kitOne K (.type "NoneType") (.ref C_NoStroke) = some false
  kn_Order:PySem.W.kitOne K (.type "NoneType") (.ref C_Order) = some false
  kn_Twice:PySem.W.kitOne K (.type "NoneType") (.ref C_Twice) = some false
  kn_ValueError:PySem.W.kitOne K (.type "NoneType") (.type "ValueError") = some false
  kn_Wrong:PySem.W.kitOne K (.type "NoneType") (.ref C_Wrong) = some false
  f_column:FlT K ([]:List Str) "column"
  f_row:FlT K ([]:List Str) "row"
  ct_Shop:ClT K "Shop" C_Shop ["bench","size","states","woods","prints"]
  h_BlockError:CatT K M (["NoName","Twice"]:List Str) (.ref C_BlockError)
structure Cal (P:Program) (w:World) (K:Frag) (mg:Str→Option Value) (base:Heap) (x:Str) (k:Nat) (ps:List Str) (sp:Sp):Prop where
  ex:∃ (f:Addr) (fd:FuncData),mg x = some (.ref f) ∧ PySem.W.keepIn K (.ref f) = true ∧ Binds K fd ps [] ∧ FnOk P w K mg base (L2.CX P w) k f fd ps sp
structure Raw (K:Frag) (mg:Str→Option Value) (x y:Str) (st:Stmt):Prop where
  ex:∃ (f:Addr) (fd:FuncData),mg x = some (.ref f) ∧ Fun K y y st f fd
structure CalM (P:Program) (w:World) (K:Frag) (mg:Str→Option Value) (base:Heap) (C:Addr) (m:Str) (k:Nat) (ps:List Str) (sp:Sp):Prop where
  ex:∃ (f:Addr) (fd:FuncData),Meth K C m f ∧ Binds K fd ps [] ∧ FnOk P w K mg base (L2.CX P w) k f fd ps sp
structure CalN (P:Program) (w:World) (K:Frag) (mg:Str→Option Value) (base:Heap) (C:Addr) (k:Nat) (ps:List Str) (sp:Sp):Prop where
  ex:∃ (f:Addr) (fd:FuncData),Mk K C f ∧ Binds K fd ps [] ∧ FnOk P w K mg base (L2.CX P w) k f fd ps sp
structure RawM (K:Frag) (C:Addr) (m y:Str) (st:Stmt):Prop where
  ex:∃ (f:Addr) (fd:FuncData),Meth K C m f ∧ Fun K m y st f fd
structure RawN (K:Frag) (C:Addr) (y:Str) (st:Stmt):Prop where
  ex:∃ (f:Addr) (fd:FuncData),Mk K C f ∧ Fun K "__init__" y st f fd
section
local macro_rules | `(tactic| trivial)=>`(tactic| first | exact Or.inl rfl | exact Or.inr rfl)
variable {P:Program} {w:World} {c:Cn} {mg:Str→Option Value} {base:Heap} {C_BlockError:Addr} {C_NoName:Addr} {C_NoStroke:Addr} {C_Order:Addr} {C_Shop:Addr} {C_Twice:Addr} {C_Wrong:Addr} {tok_LETTERS:Tok} {tok_LONGEST:Tok}
variable (T:Glb mg c.K c.M C_BlockError C_NoName C_NoStroke C_Order C_Shop C_Twice C_Wrong tok_LETTERS tok_LONGEST)
include T
theorem ok_m_pool_F {f:Addr} {fd:FuncData} (F:Fun c.K "_law_pool" "_law_pool" s_pool f fd) :
    FnOk P w c.K mg base (L2.CX P w) 1 f fd ["_law_script","_law_k"] (spF c (fun x:(Sq Int)×Int×Unit=>m_pool x.1 x.2.1) (fun x:(List Int)=>kNw c.K x)):=by
  have nd:=sc_pool.nd
  refine F.okX sc_pool (fun vs H Q E h=>spF_len vs H Q E h) (fun cdv A outer s H vs Q E hr h=>?_)
  refine ⟨_,(pss_cons (ps_set (i:=2) nd rfl (by trivial) pe_int) (pss_cons (ps_if (pt_cmpR op_lt (pv 1) (pe_callB (r:=Fw.rLen c.K) call_len_seq (by rfl) T.b_len (by decide +kernel) (pa_cons (pv 0) pa_nil)) (nomark _)) (pss_cons (ps_set (i:=2) nd rfl (by trivial) (pe_ix (r:=rIxL c.K) ix_list (pv 0) (pv 1) (fun _ _=>rfl))) pss_nil) pss_nil) (pss_cons (ps_if (pt_cmpR op_ge (pv 2) (pe_op op_pow pe_int pe_int) (nomark _)) (pss_cons (ps_ret (pe_lst (pa_cons (pe_op op_mod (pv 2) (pe_op op_pow pe_int pe_int)) pa_nil))) pss_nil) pss_nil) (pss_cons (ps_set (i:=3) nd rfl (by trivial) (pe_op op_add (pe_op op_add (pe_op op_mod (pv 2) pe_int) (pe_op op_mul (pe_op op_mul pe_int (pv 1)) (pv 1))) pe_int)) (pss_cons (ps_set (i:=4) nd rfl (by trivial) pe_int) (pss_cons (ps_for (passes_of rfl) rfl (pi_range1 (by rfl) T.b_range (pa_cons pe_int pa_nil)) (pg_name (i:=5) nd rfl (by trivial)) (pss_cons (ps_set (i:=3) nd rfl (by trivial) (pe_op op_mod (pe_op op_add (pe_op op_mul (pv 3) pe_int) (pe_op op_mul pe_int (pv 5))) pe_int)) (pss_cons (ps_set (i:=3) nd rfl (by trivial) (pe_op op_mod (pe_op op_mul (pv 3) (pv 3)) pe_int)) (pss_cons (ps_set (i:=4) nd rfl (by trivial) (pe_op op_add (pe_op op_mul (pv 4) pe_int) (pv 3))) pss_nil)))) (pss_cons (ps_ret (pe_lst (pa_cons (pv 4) pa_nil))) pss_nil))))))),?_⟩
  have hm:∀ x:(Sq Int)×Int×Unit,(fun x:(Sq Int)×Int×Unit=>m_pool x.1 x.2.1) x = (m_pool_b x.1 x.2.1).run:=fun _=>by unfold m_pool; rfl
  have hN:N_pool.length = Args.num ((Sq Int)×Int×Unit) + 4:=rfl
  refine fn_run (Bs:=fun _=>uns 6) (n:=4) (m:=fun x=>m_pool_b x.1 x.2.1) h ?hN ?hm ?hd
  case hN=>exact hN
  case hm=>exact hm
  intro W x
  obtain ⟨v_script,v_k,⟨⟩⟩:=x
  show Den _ _ _ _ _ _ _ [(.fr v_script),(.fr v_k),.un,.un,.un,.un] (m_pool_b v_script v_k) (fun _=>uns 6)
  unfold m_pool_b
  exact (d_let 2 (e_int _) fun v_cell_1=>(d_ifp (Bs:=(fun (s2:Int)=>[(.fr v_script),(.fr v_k),(.fr s2),.un,.un,.un])) (t_e (e_op2 (o_cmp fun i j=>decide (i < j)) (e_var 1) (e_opA (x:=(v_script.l,())) o_lenL (a_cons (e_shQ (e_var 0)) a_nil) rfl) rfl)) (d_get 2 (wk_uns rfl) (r_op2 o_ixL (exr_p (e_shQ (e_var 0))) (exr_p (e_var 1))) fun v_cell_30=>(d_nx (.same (.same (.same (.same (.same (.same .nil)))))))) (d_nx (.same (.same (.same (.same (.same (.same .nil))))))) (fun s2=>(d_ifap (t_e (e_op2 (o_cmp fun i j=>decide (j ≤ i)) (e_var 2) (e_cc ⟨by decide,by decide,by decide⟩ (e_int _) (e_int _) rfl) rfl)) (d_retR (wk_uns rfl) (r_lst (g:=fun z7=>[z7.1]) (ar_cons (k:=fun (x:Int)=>kFr c.K x) (r_op2 o_mod (exr_p (e_var 2)) (exr_p (e_cc ⟨by decide,by decide,by decide⟩ (e_int _) (e_int _) rfl))) (axr_p (k:=fun _=>aNil) a_nil)) (fun _=>rfl) (fun _=>szl (n:=1) rfl (by decide)))) (d_get 3 (wk_uns rfl) (r_op2 (o_int fun i j=>i + j) (r_op2 (o_int fun i j=>i + j) (exr_p (e_cr (fun _=>(by decide:(0:Int) < 2147483647)) (e_var 2) (e_int _) rfl)) (r_op2 o_mul (exr_p (e_cl (fun _=>Or.inl ⟨by decide,by decide⟩) (e_int _) (e_var 1) rfl)) (exr_p (e_var 1)))) (exr_p (e_int _))) fun v_number_14=>(d_let 4 (e_int _) fun v_found_15=>(d_for (Bs:=(fun (s17:(Int×Int))=>[(.fr v_script),(.fr v_k),(.fr s2),(.fr s17.1),(.fr s17.2),.un])) (wk_uns rfl) (i_rng1 (exr_p (e_int _))) (.same (.same (.same (.same (.same (.same .nil)))))) (fun _ _=>(g_name 5)) (fun s17 x18 B27=>(d_let 3 (e_cr (fun _=>(by decide:(0:Int) < 2147483629)) (e_op2 (o_int fun i j=>i + j) (e_cr (fun _=>Or.inr ⟨by decide,by decide⟩) (e_var 3) (e_int _) rfl) (e_cl (fun _=>Or.inl ⟨by decide,by decide⟩) (e_int _) (e_var 5) rfl) rfl) (e_int _) rfl) fun v_number_19=>(d_get 3 (wk_uns rfl) (r_cr (fun _=>(by decide:(0:Int) < 2147483587)) (r_op2 o_mul (exr_p (e_var 3)) (exr_p (e_var 3))) (e_int _)) fun v_number_23=>(d_let 4 (e_op2 (o_int fun i j=>i + j) (e_cr (fun _=>Or.inr ⟨by decide,by decide⟩) (e_var 4) (e_int _) rfl) (e_var 3) rfl) fun v_found_24=>(d_nx (.same (.same (.same (.same (.same (.drop .nil))))))))))) (fun s25=>(d_ret (e_lst (xs:=[s25.2]) (a_cons (e_var 4) a_nil) (szl (n:=1) rfl (by decide))))))))))))
theorem ok_m_pool (R0:Raw c.K mg "_law_pool" "_law_pool" s_pool) :
    Cal P w c.K mg base "_law_pool" 1 ["_law_script","_law_k"] (spF c (fun x:(Sq Int)×Int×Unit=>m_pool x.1 x.2.1) (fun x:(List Int)=>kNw c.K x)):=by
  obtain ⟨f,fd,gf,F⟩:=R0.ex
  exact ⟨f,fd,gf,F.kp,F.binds fun _ _ _ _ _ _ us hl=>match us,hl with | [_,_],_=>rfl,ok_m_pool_F T F⟩
theorem ok_m_take_F {f:Addr} {fd:FuncData} (F:Fun c.K "_law_take" "_law_take" s_take f fd) :
    FnOk P w c.K mg base (L2.CX P w) 1 f fd ["_law_pool_here","_law_many"] (spIO c (fun (a:Unit) (x:(List Int)) (b:Int×Unit)=>m_take x b.1) (fun x:Int=>kFr c.K x)):=by
  have nd:=sc_take.nd
  refine F.okX sc_take (fun vs H Q E h=>spIO_len vs H Q E h) (fun cdv A outer s H vs Q E hr h=>?_)
  refine ⟨_,(pss_cons (ps_set (i:=2) nd rfl (by trivial) (pe_op op_mod (pe_ix (r:=rIxL c.K) ix_list (pv 0) pe_int (fun _ _=>rfl)) (pv 1))) (pss_cons (ps_asg (pe_op op_fdiv (pe_ix (r:=rIxL c.K) ix_list (pv 0) pe_int (fun _ _=>rfl)) (pv 1)) (pg_sub (pv 0) pe_int set_list)) (pss_cons (ps_ret (pv 2)) pss_nil))),?_⟩
  refine fn_ioR (n:=1) (m:=fun a x b=>m_take_b x b.1) plain_fr h ?hN ?hm ?hd
  case hN=>exact rfl
  case hm=>exact fun _ _ _=>by unfold m_take; rfl
  intro W a v_pool_here b pinv
  obtain ⟨⟩:=a
  obtain ⟨v_many,⟨⟩⟩:=b
  show Den _ _ _ _ _ _ _ [(.ow (some pinv) v_pool_here),(.fr v_many),.un] (m_take_b v_pool_here v_many) noSl
  unfold m_take_b
  exact (d_get 2 (wk_uns rfl) (r_op2 o_mod (r_op2 o_ixL (exr_p (e_varS 0)) (exr_p (e_int _))) (exr_p (e_var 1))) fun v_found_5=>(d_setL 0 rfl (wk_uns rfl) (r_op2 o_fdiv (r_op2 o_ixL (exr_p (e_varS 0)) (exr_p (e_int _))) (exr_p (e_var 1))) (exr_p (e_int _)) fun v_pool_here_10=>(d_retIO 0 rfl (wk_uns rfl) (exr_p (e_var 2)))))
theorem ok_m_take (R0:Raw c.K mg "_law_take" "_law_take" s_take) :
    Cal P w c.K mg base "_law_take" 1 ["_law_pool_here","_law_many"] (spIO c (fun (a:Unit) (x:(List Int)) (b:Int×Unit)=>m_take x b.1) (fun x:Int=>kFr c.K x)):=by
  obtain ⟨f,fd,gf,F⟩:=R0.ex
  exact ⟨f,fd,gf,F.kp,F.binds fun _ _ _ _ _ _ us hl=>match us,hl with | [_,_],_=>rfl,ok_m_take_F T F⟩
theorem ok_m_word_F {f:Addr} {fd:FuncData} (F:Fun c.K "_law_word" "_law_word" s_word f fd) :
    FnOk P w c.K mg base (L2.CX P w) 1 f fd ["_law_place","_law_k"] (spF c (fun x:Int×Int×Unit=>m_word x.1 x.2.1) (fun x:Str=>kFr c.K x)):=by
  have nd:=sc_word.nd
  refine F.okX sc_word (fun vs H Q E h=>spF_len vs H Q E h) (fun cdv A outer s H vs Q E hr h=>?_)
  refine ⟨_,(pss_cons (ps_ret (pe_op op_add_str (pe_op op_add_str (pe_slice sl_str pe_str po_none (po_some (pv 0))) (pe_ix ix_str pe_str (pv 1) (fun _ _=>rfl))) (pe_slice sl_str pe_str (po_some (pv 0)) po_none))) pss_nil),?_⟩
  have hm:∀ x:Int×Int×Unit,(fun x:Int×Int×Unit=>m_word x.1 x.2.1) x = (m_word_b x.1 x.2.1).run:=fun _=>by unfold m_word; rfl
  have hN:N_word.length = Args.num (Int×Int×Unit) + 0:=rfl
  refine fn_run (Bs:=fun _=>uns 2) (n:=0) (m:=fun x=>m_word_b x.1 x.2.1) h ?hN ?hm ?hd
  case hN=>exact hN
  case hm=>exact hm
  intro W x
  obtain ⟨v_place,v_k,⟨⟩⟩:=x
  show Den _ _ _ _ _ _ _ [(.fr v_place),(.fr v_k)] (m_word_b v_place v_k) (fun _=>uns 2)
  unfold m_word_b
  exact (d_retR (wk_uns rfl) (r_op2 o_addS (r_op2 o_addS (r_slT (exr_p (e_str _)) po_none' (po_some' (exr_p (e_var 0)))) (r_op2 o_ixS (exr_p (e_str _)) (exr_p (e_var 1)))) (r_slT (exr_p (e_str _)) (po_some' (exr_p (e_var 0))) po_none')))
theorem ok_m_word (R0:Raw c.K mg "_law_word" "_law_word" s_word) :
    Cal P w c.K mg base "_law_word" 1 ["_law_place","_law_k"] (spF c (fun x:Int×Int×Unit=>m_word x.1 x.2.1) (fun x:Str=>kFr c.K x)):=by
  obtain ⟨f,fd,gf,F⟩:=R0.ex
  exact ⟨f,fd,gf,F.kp,F.binds fun _ _ _ _ _ _ us hl=>match us,hl with | [_,_],_=>rfl,ok_m_word_F T F⟩
theorem ok_m_bench_F {f:Addr} {fd:FuncData} (F:Fun c.K "_law_bench" "_law_bench" s_bench f fd)
    (C_m_take:Cal P w c.K mg base "_law_take" 1 ["_law_pool_here","_law_many"] (spIO c (fun (a:Unit) (x:(List Int)) (b:Int×Unit)=>m_take x b.1) (fun x:Int=>kFr c.K x)))
    (C_m_word:Cal P w c.K mg base "_law_word" 1 ["_law_place","_law_k"] (spF c (fun x:Int×Int×Unit=>m_word x.1 x.2.1) (fun x:Str=>kFr c.K x))) :
    FnOk P w c.K mg base (L2.CX P w) 2 f fd ["_law_pool_here"] (spIO c (fun (a:Unit) (x:(List Int)) (b:Unit)=>m_bench x) (fun x:(Str×(List (T3 Str Str (Str⊕(TZ (Str×Str))))))=>kFr c.K x)):=by
  obtain ⟨f_m_take,fd_m_take,g_m_take,k_m_take,b_m_take,G_m_take⟩:=C_m_take.ex
  obtain ⟨f_m_word,fd_m_word,g_m_word,k_m_word,b_m_word,G_m_word⟩:=C_m_word.ex
  have nd:=sc_bench.nd
  refine F.okX sc_bench (fun vs H Q E h=>spIO_len vs H Q E h) (fun cdv A outer s H vs Q E hr h=>?_)
  refine ⟨_,(pss_cons (ps_set (i:=1) nd rfl (by trivial) (pe_callS G_m_take (hr.mono (by decide)) (by rfl) g_m_take k_m_take b_m_take (fun σ=>passAt (takes_of rfl rfl rfl rfl) σ) (pa_cons (pv 0) (pa_cons pe_int pa_nil)))) (pss_cons (ps_set (i:=2) nd rfl (by trivial) (pe_callS G_m_word (hr.mono (by decide)) (by rfl) g_m_word k_m_word b_m_word (fun σ=>passAt (takes_of rfl rfl rfl rfl) σ) (pa_cons (pv 1) (pa_cons (pe_callS G_m_take (hr.mono (by decide)) (by rfl) g_m_take k_m_take b_m_take (fun σ=>passAt (takes_of rfl rfl rfl rfl) σ) (pa_cons (pv 0) (pa_cons pe_int pa_nil))) pa_nil)))) (pss_cons (ps_set (i:=3) nd rfl (by trivial) (pe_callS G_m_take (hr.mono (by decide)) (by rfl) g_m_take k_m_take b_m_take (fun σ=>passAt (takes_of rfl rfl rfl rfl) σ) (pa_cons (pv 0) (pa_cons pe_int pa_nil)))) (pss_cons (ps_set (i:=4) nd rfl (by trivial) (pe_lst pa_nil)) (pss_cons (ps_for (passes_of rfl) rfl (pi_range1 (by rfl) T.b_range (pa_cons (pe_op op_add pe_int (pe_callS G_m_take (hr.mono (by decide)) (by rfl) g_m_take k_m_take b_m_take (fun σ=>passAt (takes_of rfl rfl rfl rfl) σ) (pa_cons (pv 0) (pa_cons pe_int pa_nil)))) pa_nil)) (pg_name (i:=5) nd rfl (by trivial)) (pss_cons (ps_set (i:=6) nd rfl (by trivial) (pe_callS G_m_word (hr.mono (by decide)) (by rfl) g_m_word k_m_word b_m_word (fun σ=>passAt (takes_of rfl rfl rfl rfl) σ) (pa_cons (pe_op op_mod (pe_op op_add (pv 1) pe_int) pe_int) (pa_cons (pe_op op_mod (pe_op op_add (pe_op op_mul pe_int (pv 5)) (pv 3)) pe_int) pa_nil)))) (pss_cons (ps_if (pt_cmpR op_lt (pe_callS G_m_take (hr.mono (by decide)) (by rfl) g_m_take k_m_take b_m_take (fun σ=>passAt (takes_of rfl rfl rfl rfl) σ) (pa_cons (pv 0) (pa_cons pe_int pa_nil))) pe_int (nomark _)) (pss_cons (ps_expr (pe_bm PySem.F.plainAttrs_list PySem.F.slot_list_append PySem.F.type_list_append mt_append (pv 4) (pa_cons (pe_tup (pa_cons pe_str (pa_cons (pv 6) (pa_cons (pe_callS G_m_word (hr.mono (by decide)) (by rfl) g_m_word k_m_word b_m_word (fun σ=>passAt (takes_of rfl rfl rfl rfl) σ) (pa_cons (pv 1) (pa_cons (pe_callS G_m_take (hr.mono (by decide)) (by rfl) g_m_take k_m_take b_m_take (fun σ=>passAt (takes_of rfl rfl rfl rfl) σ) (pa_cons (pv 0) (pa_cons pe_int pa_nil))) pa_nil))) pa_nil)))) pa_nil))) pss_nil) (pss_cons (ps_set (i:=7) nd rfl (by trivial) (pe_listRg rfl (by rfl) T.b_list (prg_1 (by rfl) T.b_range pe_int))) (pss_cons (ps_set (i:=8) nd rfl (by trivial) (pe_lst pa_nil)) (pss_cons (ps_for (passes_of rfl) rfl (pi_range1 (by rfl) T.b_range (pa_cons (pe_op op_add pe_int (pe_callS G_m_take (hr.mono (by decide)) (by rfl) g_m_take k_m_take b_m_take (fun σ=>passAt (takes_of rfl rfl rfl rfl) σ) (pa_cons (pv 0) (pa_cons pe_int pa_nil)))) pa_nil)) (pg_name (i:=9) nd rfl (by trivial)) (pss_cons (ps_set (i:=10) nd rfl (by trivial) (pe_bm PySem.F.plainAttrs_list PySem.F.slot_list_pop PySem.F.type_list_pop mt_popAt (pv 7) (pa_cons (pe_callS G_m_take (hr.mono (by decide)) (by rfl) g_m_take k_m_take b_m_take (fun σ=>passAt (takes_of rfl rfl rfl rfl) σ) (pa_cons (pv 0) (pa_cons (pe_callB (r:=Fw.rLen c.K) call_len_seq (by rfl) T.b_len (by decide +kernel) (pa_cons (pv 7) pa_nil)) pa_nil))) pa_nil))) (pss_cons (ps_expr (pe_bm PySem.F.plainAttrs_list PySem.F.slot_list_append PySem.F.type_list_append mt_append (pv 8) (pa_cons (pe_tup (pa_cons (pe_callS G_m_word (hr.mono (by decide)) (by rfl) g_m_word k_m_word b_m_word (fun σ=>passAt (takes_of rfl rfl rfl rfl) σ) (pa_cons (pv 1) (pa_cons (pv 10) pa_nil))) (pa_cons (pe_callS G_m_word (hr.mono (by decide)) (by rfl) g_m_word k_m_word b_m_word (fun σ=>passAt (takes_of rfl rfl rfl rfl) σ) (pa_cons (pv 1) (pa_cons (pe_callS G_m_take (hr.mono (by decide)) (by rfl) g_m_take k_m_take b_m_take (fun σ=>passAt (takes_of rfl rfl rfl rfl) σ) (pa_cons (pv 0) (pa_cons pe_int pa_nil))) pa_nil))) pa_nil))) pa_nil))) pss_nil))) (pss_cons (ps_expr (pe_bm PySem.F.plainAttrs_list PySem.F.slot_list_append PySem.F.type_list_append mt_append (pv 4) (pa_cons (pe_tup (pa_cons pe_str (pa_cons (pv 6) (pa_cons (pe_callTy call_tupleZ (by rfl) T.b_tuple (by decide +kernel) (pa_cons (pv 8) pa_nil)) pa_nil)))) pa_nil))) pss_nil))))) pss_nil))) (pss_cons (ps_ret (pe_tup (pa_cons (pv 2) (pa_cons (pv 4) pa_nil)))) pss_nil)))))),?_⟩
  refine fn_ioR (n:=10) (m:=fun a x b=>m_bench_b x) plain_fr h ?hN ?hm ?hd
  case hN=>exact rfl
  case hm=>exact fun _ _ _=>by unfold m_bench; rfl
  intro W a v_pool_here b pinv
  obtain ⟨⟩:=a
  obtain ⟨⟩:=b
  show Den _ _ _ _ _ _ _ [(.ow (some pinv) v_pool_here),.un,.un,.un,.un,.un,.un,.un,.un,.un,.un] (m_bench_b v_pool_here) noSl
  unfold m_bench_b
  exact (d_hoistIO (f:=fun (a_:Unit) (x_:(List Int)) (b_:Int×Unit)=>m_take x_ b_.1) (k:=fun (h1:Int) (v_pool_here_7:(List Int))=>
  (lt h1 fun (v_place_9:Int)=>
  (R.to (((R.ok (6:Int)).bind fun t12=>(R.ok ()).bind fun t13=>(R.ok (t12,t13))).bind fun t14=>(R.ok ((),t14))) fun z15=>R.to (R.np (m_take v_pool_here_7 z15.2.1)) fun r17=>(fun (h10:Int) (v_pool_here_16:(List Int))=>
  (R.to (m_word v_place_9 h10) fun (v_paper_18:Str)=>
  (R.to (((R.ok (18:Int)).bind fun t21=>(R.ok ()).bind fun t22=>(R.ok (t21,t22))).bind fun t23=>(R.ok ((),t23))) fun z24=>R.to (R.np (m_take v_pool_here_16 z24.2.1)) fun r26=>(fun (h19:Int) (v_pool_here_25:(List Int))=>
  (lt h19 fun (v_shift_27:Int)=>
  (lt ([]:List (T3 Str Str (Str⊕(TZ (Str×Str))))) fun (v_inks_28:(List (T3 Str Str (Str⊕(TZ (Str×Str))))))=>
  (R.to (((R.ok (3:Int)).bind fun t31=>(R.ok ()).bind fun t32=>(R.ok (t31,t32))).bind fun t33=>(R.ok ((),t33))) fun z34=>R.to (R.np (m_take v_pool_here_25 z34.2.1)) fun r36=>(fun (h29:Int) (v_pool_here_35:(List Int))=>
  (R.to ((R.ok ((2:Int) + h29)).bind fun t37=>R.rng 0 t37) fun l117=>Out.bind (forL l117 (v_pool_here_35,v_inks_28) (fun (s38:((List Int)×(List (T3 Str Str (Str⊕(TZ (Str×Str))))))) (x39:Int)=>
   (R.to (m_word ((v_place_9 + (1:Int)) % (4:Int)) ((((7:Int) * x39) + v_shift_27) % (18:Int))) fun (v_name_40:Str)=>
  (R.to (((R.ok (3:Int)).bind fun t43=>(R.ok ()).bind fun t44=>(R.ok (t43,t44))).bind fun t45=>(R.ok ((),t45))) fun z46=>R.to (R.np (m_take s38.1 z46.2.1)) fun r48=>(fun (h41:Int) (v_pool_here_47:(List Int))=>
  (Out.bind (if (decide (h41 < (2:Int))) then (R.to (((R.ok (6:Int)).bind fun t52=>(R.ok ()).bind fun t53=>(R.ok (t52,t53))).bind fun t54=>(R.ok ((),t54))) fun z55=>R.to (R.np (m_take v_pool_here_47 z55.2.1)) fun r57=>(fun (h50:Int) (v_pool_here_56:(List Int))=>
  (R.to (((R.ok ("cover":Str)).bind fun t63=>((R.ok v_name_40).bind fun t61=>(((m_word v_place_9 h50).bind fun t58=>(R.ok (Sum.inl t58:(Str⊕(TZ (Str×Str)))))).bind fun t59=>(R.ok ()).bind fun t60=>(R.ok (t59,t60))).bind fun t62=>(R.ok (t61,t62))).bind fun t64=>(R.ok (t63,t64))).bind fun z65=>(R.ok (T3.mk z65.1 z65.2.1 z65.2.2.1))) fun t67=>R.to (R.app s38.2 t67) fun (v_inks_66:(List (T3 Str Str (Str⊕(TZ (Str×Str))))))=>
  (.nx (v_pool_here_56,v_inks_66)))) r57.1 r57.2) else (R.to ((R.ok (6:Int)).bind fun t68=>R.rng 0 t68) fun (v_unders_69:(List Int))=>
  (lt ([]:List (Str×Str)) fun (v_pairs_70:(List (Str×Str)))=>
  (R.to (((R.ok (3:Int)).bind fun t73=>(R.ok ()).bind fun t74=>(R.ok (t73,t74))).bind fun t75=>(R.ok ((),t75))) fun z76=>R.to (R.np (m_take v_pool_here_47 z76.2.1)) fun r78=>(fun (h71:Int) (v_pool_here_77:(List Int))=>
  (R.to ((R.ok ((1:Int) + h71)).bind fun t79=>R.rng 0 t79) fun l113=>Out.bind (forL l113 (v_pool_here_77,v_unders_69,v_pairs_70) (fun (s80:((List Int)×(List Int)×(List (Str×Str)))) (x81:Int)=>
   (R.to (((R.ok (s80.2.1.length:Int)).bind fun t84=>(R.ok ()).bind fun t85=>(R.ok (t84,t85))).bind fun t86=>(R.ok ((),t86))) fun z87=>R.to (R.np (m_take s80.1 z87.2.1)) fun r89=>(fun (h82:Int) (v_pool_here_88:(List Int))=>
  (R.to (R.popI s80.2.1 h82) fun r92=>(fun (v_under_90:Int) (v_unders_91:(List Int))=>
  (R.to (m_word v_place_9 v_under_90) fun (h93:Str)=>
  (R.to (((R.ok (6:Int)).bind fun t97=>(R.ok ()).bind fun t98=>(R.ok (t97,t98))).bind fun t99=>(R.ok ((),t99))) fun z100=>R.to (R.np (m_take v_pool_here_88 z100.2.1)) fun r102=>(fun (h95:Int) (v_pool_here_101:(List Int))=>
  (R.to (((R.ok h93).bind fun t105=>((m_word v_place_9 h95).bind fun t103=>(R.ok ()).bind fun t104=>(R.ok (t103,t104))).bind fun t106=>(R.ok (t105,t106))).bind fun z107=>(R.ok (z107.1,z107.2.1))) fun t109=>R.to (R.app s80.2.2 t109) fun (v_pairs_108:(List (Str×Str)))=>
  (.nx (v_pool_here_101,v_unders_91,v_pairs_108)))) r102.1 r102.2))) r92.1 r92.2)) r89.1 r89.2))) fun (s110:((List Int)×(List Int)×(List (Str×Str))))=>
  (R.to (R.ok (T3.mk ("glaze":Str) v_name_40 (Sum.inr (TZ.mk s110.2.2):(Str⊕(TZ (Str×Str)))))) fun t112=>R.to (R.app s38.2 t112) fun (v_inks_111:(List (T3 Str Str (Str⊕(TZ (Str×Str))))))=>
  (.nx (s110.1,v_inks_111))))) r78.1 r78.2)))) fun (s49:((List Int)×(List (T3 Str Str (Str⊕(TZ (Str×Str)))))))=>
  (.nx (s49.1,s49.2)))) r48.1 r48.2)))) fun (s115:((List Int)×(List (T3 Str Str (Str⊕(TZ (Str×Str)))))))=>
  (R.to (R.ok (v_paper_18,s115.2)) fun r116=>.rt (r116,s115.1)))) r36.1 r36.2)))) r26.1 r26.2))) r17.1 r17.2))) 0 rfl (wk_uns rfl) (axo_here (aar_cons (exr_p (e_int _)) aar_nil)) (hs_asg hs_id) rfl fun h1 v_pool_here_7=>(d_let 1 (e_int _) fun v_place_9=>(d_hoistIO (f:=fun (a_:Unit) (x_:(List Int)) (b_:Int×Unit)=>m_take x_ b_.1) (k:=fun (h10:Int) (v_pool_here_16:(List Int))=>
  (R.to (m_word v_place_9 h10) fun (v_paper_18:Str)=>
  (R.to (((R.ok (18:Int)).bind fun t21=>(R.ok ()).bind fun t22=>(R.ok (t21,t22))).bind fun t23=>(R.ok ((),t23))) fun z24=>R.to (R.np (m_take v_pool_here_16 z24.2.1)) fun r26=>(fun (h19:Int) (v_pool_here_25:(List Int))=>
  (lt h19 fun (v_shift_27:Int)=>
  (lt ([]:List (T3 Str Str (Str⊕(TZ (Str×Str))))) fun (v_inks_28:(List (T3 Str Str (Str⊕(TZ (Str×Str))))))=>
  (R.to (((R.ok (3:Int)).bind fun t31=>(R.ok ()).bind fun t32=>(R.ok (t31,t32))).bind fun t33=>(R.ok ((),t33))) fun z34=>R.to (R.np (m_take v_pool_here_25 z34.2.1)) fun r36=>(fun (h29:Int) (v_pool_here_35:(List Int))=>
  (R.to ((R.ok ((2:Int) + h29)).bind fun t37=>R.rng 0 t37) fun l117=>Out.bind (forL l117 (v_pool_here_35,v_inks_28) (fun (s38:((List Int)×(List (T3 Str Str (Str⊕(TZ (Str×Str))))))) (x39:Int)=>
   (R.to (m_word ((v_place_9 + (1:Int)) % (4:Int)) ((((7:Int) * x39) + v_shift_27) % (18:Int))) fun (v_name_40:Str)=>
  (R.to (((R.ok (3:Int)).bind fun t43=>(R.ok ()).bind fun t44=>(R.ok (t43,t44))).bind fun t45=>(R.ok ((),t45))) fun z46=>R.to (R.np (m_take s38.1 z46.2.1)) fun r48=>(fun (h41:Int) (v_pool_here_47:(List Int))=>
  (Out.bind (if (decide (h41 < (2:Int))) then (R.to (((R.ok (6:Int)).bind fun t52=>(R.ok ()).bind fun t53=>(R.ok (t52,t53))).bind fun t54=>(R.ok ((),t54))) fun z55=>R.to (R.np (m_take v_pool_here_47 z55.2.1)) fun r57=>(fun (h50:Int) (v_pool_here_56:(List Int))=>
  (R.to (((R.ok ("cover":Str)).bind fun t63=>((R.ok v_name_40).bind fun t61=>(((m_word v_place_9 h50).bind fun t58=>(R.ok (Sum.inl t58:(Str⊕(TZ (Str×Str)))))).bind fun t59=>(R.ok ()).bind fun t60=>(R.ok (t59,t60))).bind fun t62=>(R.ok (t61,t62))).bind fun t64=>(R.ok (t63,t64))).bind fun z65=>(R.ok (T3.mk z65.1 z65.2.1 z65.2.2.1))) fun t67=>R.to (R.app s38.2 t67) fun (v_inks_66:(List (T3 Str Str (Str⊕(TZ (Str×Str))))))=>
  (.nx (v_pool_here_56,v_inks_66)))) r57.1 r57.2) else (R.to ((R.ok (6:Int)).bind fun t68=>R.rng 0 t68) fun (v_unders_69:(List Int))=>
  (lt ([]:List (Str×Str)) fun (v_pairs_70:(List (Str×Str)))=>
  (R.to (((R.ok (3:Int)).bind fun t73=>(R.ok ()).bind fun t74=>(R.ok (t73,t74))).bind fun t75=>(R.ok ((),t75))) fun z76=>R.to (R.np (m_take v_pool_here_47 z76.2.1)) fun r78=>(fun (h71:Int) (v_pool_here_77:(List Int))=>
  (R.to ((R.ok ((1:Int) + h71)).bind fun t79=>R.rng 0 t79) fun l113=>Out.bind (forL l113 (v_pool_here_77,v_unders_69,v_pairs_70) (fun (s80:((List Int)×(List Int)×(List (Str×Str)))) (x81:Int)=>
   (R.to (((R.ok (s80.2.1.length:Int)).bind fun t84=>(R.ok ()).bind fun t85=>(R.ok (t84,t85))).bind fun t86=>(R.ok ((),t86))) fun z87=>R.to (R.np (m_take s80.1 z87.2.1)) fun r89=>(fun (h82:Int) (v_pool_here_88:(List Int))=>
  (R.to (R.popI s80.2.1 h82) fun r92=>(fun (v_under_90:Int) (v_unders_91:(List Int))=>
  (R.to (m_word v_place_9 v_under_90) fun (h93:Str)=>
  (R.to (((R.ok (6:Int)).bind fun t97=>(R.ok ()).bind fun t98=>(R.ok (t97,t98))).bind fun t99=>(R.ok ((),t99))) fun z100=>R.to (R.np (m_take v_pool_here_88 z100.2.1)) fun r102=>(fun (h95:Int) (v_pool_here_101:(List Int))=>
  (R.to (((R.ok h93).bind fun t105=>((m_word v_place_9 h95).bind fun t103=>(R.ok ()).bind fun t104=>(R.ok (t103,t104))).bind fun t106=>(R.ok (t105,t106))).bind fun z107=>(R.ok (z107.1,z107.2.1))) fun t109=>R.to (R.app s80.2.2 t109) fun (v_pairs_108:(List (Str×Str)))=>
  (.nx (v_pool_here_101,v_unders_91,v_pairs_108)))) r102.1 r102.2))) r92.1 r92.2)) r89.1 r89.2))) fun (s110:((List Int)×(List Int)×(List (Str×Str))))=>
  (R.to (R.ok (T3.mk ("glaze":Str) v_name_40 (Sum.inr (TZ.mk s110.2.2):(Str⊕(TZ (Str×Str)))))) fun t112=>R.to (R.app s38.2 t112) fun (v_inks_111:(List (T3 Str Str (Str⊕(TZ (Str×Str))))))=>
  (.nx (s110.1,v_inks_111))))) r78.1 r78.2)))) fun (s49:((List Int)×(List (T3 Str Str (Str⊕(TZ (Str×Str)))))))=>
  (.nx (s49.1,s49.2)))) r48.1 r48.2)))) fun (s115:((List Int)×(List (T3 Str Str (Str⊕(TZ (Str×Str)))))))=>
  (R.to (R.ok (v_paper_18,s115.2)) fun r116=>.rt (r116,s115.1)))) r36.1 r36.2)))) r26.1 r26.2))) 0 rfl (wk_uns rfl) (axo_here (aar_cons (exr_p (e_int _)) aar_nil)) (hs_asg (hs_call (ha_V 1 (set_fr (e_var 1)) (ha_here hs_id)))) rfl fun h10 v_pool_here_16=>(d_get 2 (wk_uns rfl) (r_call1 (aa_cons (e_var 1) (aa_cons (e_int _) aa_nil)) rfl) fun v_paper_18=>(d_hoistIO (f:=fun (a_:Unit) (x_:(List Int)) (b_:Int×Unit)=>m_take x_ b_.1) (k:=fun (h19:Int) (v_pool_here_25:(List Int))=>
  (lt h19 fun (v_shift_27:Int)=>
  (lt ([]:List (T3 Str Str (Str⊕(TZ (Str×Str))))) fun (v_inks_28:(List (T3 Str Str (Str⊕(TZ (Str×Str))))))=>
  (R.to (((R.ok (3:Int)).bind fun t31=>(R.ok ()).bind fun t32=>(R.ok (t31,t32))).bind fun t33=>(R.ok ((),t33))) fun z34=>R.to (R.np (m_take v_pool_here_25 z34.2.1)) fun r36=>(fun (h29:Int) (v_pool_here_35:(List Int))=>
  (R.to ((R.ok ((2:Int) + h29)).bind fun t37=>R.rng 0 t37) fun l117=>Out.bind (forL l117 (v_pool_here_35,v_inks_28) (fun (s38:((List Int)×(List (T3 Str Str (Str⊕(TZ (Str×Str))))))) (x39:Int)=>
   (R.to (m_word ((v_place_9 + (1:Int)) % (4:Int)) ((((7:Int) * x39) + v_shift_27) % (18:Int))) fun (v_name_40:Str)=>
  (R.to (((R.ok (3:Int)).bind fun t43=>(R.ok ()).bind fun t44=>(R.ok (t43,t44))).bind fun t45=>(R.ok ((),t45))) fun z46=>R.to (R.np (m_take s38.1 z46.2.1)) fun r48=>(fun (h41:Int) (v_pool_here_47:(List Int))=>
  (Out.bind (if (decide (h41 < (2:Int))) then (R.to (((R.ok (6:Int)).bind fun t52=>(R.ok ()).bind fun t53=>(R.ok (t52,t53))).bind fun t54=>(R.ok ((),t54))) fun z55=>R.to (R.np (m_take v_pool_here_47 z55.2.1)) fun r57=>(fun (h50:Int) (v_pool_here_56:(List Int))=>
  (R.to (((R.ok ("cover":Str)).bind fun t63=>((R.ok v_name_40).bind fun t61=>(((m_word v_place_9 h50).bind fun t58=>(R.ok (Sum.inl t58:(Str⊕(TZ (Str×Str)))))).bind fun t59=>(R.ok ()).bind fun t60=>(R.ok (t59,t60))).bind fun t62=>(R.ok (t61,t62))).bind fun t64=>(R.ok (t63,t64))).bind fun z65=>(R.ok (T3.mk z65.1 z65.2.1 z65.2.2.1))) fun t67=>R.to (R.app s38.2 t67) fun (v_inks_66:(List (T3 Str Str (Str⊕(TZ (Str×Str))))))=>
  (.nx (v_pool_here_56,v_inks_66)))) r57.1 r57.2) else (R.to ((R.ok (6:Int)).bind fun t68=>R.rng 0 t68) fun (v_unders_69:(List Int))=>
  (lt ([]:List (Str×Str)) fun (v_pairs_70:(List (Str×Str)))=>
  (R.to (((R.ok (3:Int)).bind fun t73=>(R.ok ()).bind fun t74=>(R.ok (t73,t74))).bind fun t75=>(R.ok ((),t75))) fun z76=>R.to (R.np (m_take v_pool_here_47 z76.2.1)) fun r78=>(fun (h71:Int) (v_pool_here_77:(List Int))=>
  (R.to ((R.ok ((1:Int) + h71)).bind fun t79=>R.rng 0 t79) fun l113=>Out.bind (forL l113 (v_pool_here_77,v_unders_69,v_pairs_70) (fun (s80:((List Int)×(List Int)×(List (Str×Str)))) (x81:Int)=>
   (R.to (((R.ok (s80.2.1.length:Int)).bind fun t84=>(R.ok ()).bind fun t85=>(R.ok (t84,t85))).bind fun t86=>(R.ok ((),t86))) fun z87=>R.to (R.np (m_take s80.1 z87.2.1)) fun r89=>(fun (h82:Int) (v_pool_here_88:(List Int))=>
  (R.to (R.popI s80.2.1 h82) fun r92=>(fun (v_under_90:Int) (v_unders_91:(List Int))=>
  (R.to (m_word v_place_9 v_under_90) fun (h93:Str)=>
  (R.to (((R.ok (6:Int)).bind fun t97=>(R.ok ()).bind fun t98=>(R.ok (t97,t98))).bind fun t99=>(R.ok ((),t99))) fun z100=>R.to (R.np (m_take v_pool_here_88 z100.2.1)) fun r102=>(fun (h95:Int) (v_pool_here_101:(List Int))=>
  (R.to (((R.ok h93).bind fun t105=>((m_word v_place_9 h95).bind fun t103=>(R.ok ()).bind fun t104=>(R.ok (t103,t104))).bind fun t106=>(R.ok (t105,t106))).bind fun z107=>(R.ok (z107.1,z107.2.1))) fun t109=>R.to (R.app s80.2.2 t109) fun (v_pairs_108:(List (Str×Str)))=>
  (.nx (v_pool_here_101,v_unders_91,v_pairs_108)))) r102.1 r102.2))) r92.1 r92.2)) r89.1 r89.2))) fun (s110:((List Int)×(List Int)×(List (Str×Str))))=>
  (R.to (R.ok (T3.mk ("glaze":Str) v_name_40 (Sum.inr (TZ.mk s110.2.2):(Str⊕(TZ (Str×Str)))))) fun t112=>R.to (R.app s38.2 t112) fun (v_inks_111:(List (T3 Str Str (Str⊕(TZ (Str×Str))))))=>
  (.nx (s110.1,v_inks_111))))) r78.1 r78.2)))) fun (s49:((List Int)×(List (T3 Str Str (Str⊕(TZ (Str×Str)))))))=>
  (.nx (s49.1,s49.2)))) r48.1 r48.2)))) fun (s115:((List Int)×(List (T3 Str Str (Str⊕(TZ (Str×Str)))))))=>
  (R.to (R.ok (v_paper_18,s115.2)) fun r116=>.rt (r116,s115.1)))) r36.1 r36.2)))) 0 rfl (wk_uns rfl) (axo_here (aar_cons (exr_p (e_int _)) aar_nil)) (hs_asg hs_id) rfl fun h19 v_pool_here_25=>(d_let 3 (e_int _) fun v_shift_27=>(d_letN 4 e_nil fun v_inks_28=>(d_hoistIO (f:=fun (a_:Unit) (x_:(List Int)) (b_:Int×Unit)=>m_take x_ b_.1) (k:=fun (h29:Int) (v_pool_here_35:(List Int))=>
  (R.to ((R.ok ((2:Int) + h29)).bind fun t37=>R.rng 0 t37) fun l117=>Out.bind (forL l117 (v_pool_here_35,v_inks_28) (fun (s38:((List Int)×(List (T3 Str Str (Str⊕(TZ (Str×Str))))))) (x39:Int)=>
   (R.to (m_word ((v_place_9 + (1:Int)) % (4:Int)) ((((7:Int) * x39) + v_shift_27) % (18:Int))) fun (v_name_40:Str)=>
  (R.to (((R.ok (3:Int)).bind fun t43=>(R.ok ()).bind fun t44=>(R.ok (t43,t44))).bind fun t45=>(R.ok ((),t45))) fun z46=>R.to (R.np (m_take s38.1 z46.2.1)) fun r48=>(fun (h41:Int) (v_pool_here_47:(List Int))=>
  (Out.bind (if (decide (h41 < (2:Int))) then (R.to (((R.ok (6:Int)).bind fun t52=>(R.ok ()).bind fun t53=>(R.ok (t52,t53))).bind fun t54=>(R.ok ((),t54))) fun z55=>R.to (R.np (m_take v_pool_here_47 z55.2.1)) fun r57=>(fun (h50:Int) (v_pool_here_56:(List Int))=>
  (R.to (((R.ok ("cover":Str)).bind fun t63=>((R.ok v_name_40).bind fun t61=>(((m_word v_place_9 h50).bind fun t58=>(R.ok (Sum.inl t58:(Str⊕(TZ (Str×Str)))))).bind fun t59=>(R.ok ()).bind fun t60=>(R.ok (t59,t60))).bind fun t62=>(R.ok (t61,t62))).bind fun t64=>(R.ok (t63,t64))).bind fun z65=>(R.ok (T3.mk z65.1 z65.2.1 z65.2.2.1))) fun t67=>R.to (R.app s38.2 t67) fun (v_inks_66:(List (T3 Str Str (Str⊕(TZ (Str×Str))))))=>
  (.nx (v_pool_here_56,v_inks_66)))) r57.1 r57.2) else (R.to ((R.ok (6:Int)).bind fun t68=>R.rng 0 t68) fun (v_unders_69:(List Int))=>
  (lt ([]:List (Str×Str)) fun (v_pairs_70:(List (Str×Str)))=>
  (R.to (((R.ok (3:Int)).bind fun t73=>(R.ok ()).bind fun t74=>(R.ok (t73,t74))).bind fun t75=>(R.ok ((),t75))) fun z76=>R.to (R.np (m_take v_pool_here_47 z76.2.1)) fun r78=>(fun (h71:Int) (v_pool_here_77:(List Int))=>
  (R.to ((R.ok ((1:Int) + h71)).bind fun t79=>R.rng 0 t79) fun l113=>Out.bind (forL l113 (v_pool_here_77,v_unders_69,v_pairs_70) (fun (s80:((List Int)×(List Int)×(List (Str×Str)))) (x81:Int)=>
   (R.to (((R.ok (s80.2.1.length:Int)).bind fun t84=>(R.ok ()).bind fun t85=>(R.ok (t84,t85))).bind fun t86=>(R.ok ((),t86))) fun z87=>R.to (R.np (m_take s80.1 z87.2.1)) fun r89=>(fun (h82:Int) (v_pool_here_88:(List Int))=>
  (R.to (R.popI s80.2.1 h82) fun r92=>(fun (v_under_90:Int) (v_unders_91:(List Int))=>
  (R.to (m_word v_place_9 v_under_90) fun (h93:Str)=>
  (R.to (((R.ok (6:Int)).bind fun t97=>(R.ok ()).bind fun t98=>(R.ok (t97,t98))).bind fun t99=>(R.ok ((),t99))) fun z100=>R.to (R.np (m_take v_pool_here_88 z100.2.1)) fun r102=>(fun (h95:Int) (v_pool_here_101:(List Int))=>
  (R.to (((R.ok h93).bind fun t105=>((m_word v_place_9 h95).bind fun t103=>(R.ok ()).bind fun t104=>(R.ok (t103,t104))).bind fun t106=>(R.ok (t105,t106))).bind fun z107=>(R.ok (z107.1,z107.2.1))) fun t109=>R.to (R.app s80.2.2 t109) fun (v_pairs_108:(List (Str×Str)))=>
  (.nx (v_pool_here_101,v_unders_91,v_pairs_108)))) r102.1 r102.2))) r92.1 r92.2)) r89.1 r89.2))) fun (s110:((List Int)×(List Int)×(List (Str×Str))))=>
  (R.to (R.ok (T3.mk ("glaze":Str) v_name_40 (Sum.inr (TZ.mk s110.2.2):(Str⊕(TZ (Str×Str)))))) fun t112=>R.to (R.app s38.2 t112) fun (v_inks_111:(List (T3 Str Str (Str⊕(TZ (Str×Str))))))=>
  (.nx (s110.1,v_inks_111))))) r78.1 r78.2)))) fun (s49:((List Int)×(List (T3 Str Str (Str⊕(TZ (Str×Str)))))))=>
  (.nx (s49.1,s49.2)))) r48.1 r48.2)))) fun (s115:((List Int)×(List (T3 Str Str (Str⊕(TZ (Str×Str)))))))=>
  (R.to (R.ok (v_paper_18,s115.2)) fun r116=>.rt (r116,s115.1)))) 0 rfl (wk_uns rfl) (axo_here (aar_cons (exr_p (e_int _)) aar_nil)) (hs_for (hi_rng (ha_here (hs_opC hs_id)))) rfl fun h29 v_pool_here_35=>(d_for (Bs:=(fun (s38:((List Int)×(List (T3 Str Str (Str⊕(TZ (Str×Str)))))))=>[(.ow (some pinv) s38.1),(.fr v_place_9),(.fr v_paper_18),(.fr v_shift_27),(.ow none s38.2),.un,.un,.un,.un,.un,.un])) (wk_uns rfl) (i_rng1 (exr_p (e_op2 (o_int fun i j=>i + j) (e_int _) (e_int _) rfl))) (.same (.same (.same (.same (.same (.same (.same (.same (.same (.same (.same .nil))))))))))) (fun _ _=>(g_name 5)) (fun s38 x39 B118=>(d_get 6 (wk_uns rfl) (r_call1 (aa_cons (e_cr (fun _=>(by decide:(0:Int) < 4)) (e_op2 (o_int fun i j=>i + j) (e_var 1) (e_int _) rfl) (e_int _) rfl) (aa_cons (e_cr (fun _=>(by decide:(0:Int) < 18)) (e_op2 (o_int fun i j=>i + j) (e_cl (fun _=>Or.inl ⟨by decide,by decide⟩) (e_int _) (e_var 5) rfl) (e_var 3) rfl) (e_int _) rfl) aa_nil)) rfl) fun v_name_40=>(d_hoistIO (f:=fun (a_:Unit) (x_:(List Int)) (b_:Int×Unit)=>m_take x_ b_.1) (k:=fun (h41:Int) (v_pool_here_47:(List Int))=>
  (Out.bind (if (decide (h41 < (2:Int))) then (R.to (((R.ok (6:Int)).bind fun t52=>(R.ok ()).bind fun t53=>(R.ok (t52,t53))).bind fun t54=>(R.ok ((),t54))) fun z55=>R.to (R.np (m_take v_pool_here_47 z55.2.1)) fun r57=>(fun (h50:Int) (v_pool_here_56:(List Int))=>
  (R.to (((R.ok ("cover":Str)).bind fun t63=>((R.ok v_name_40).bind fun t61=>(((m_word v_place_9 h50).bind fun t58=>(R.ok (Sum.inl t58:(Str⊕(TZ (Str×Str)))))).bind fun t59=>(R.ok ()).bind fun t60=>(R.ok (t59,t60))).bind fun t62=>(R.ok (t61,t62))).bind fun t64=>(R.ok (t63,t64))).bind fun z65=>(R.ok (T3.mk z65.1 z65.2.1 z65.2.2.1))) fun t67=>R.to (R.app s38.2 t67) fun (v_inks_66:(List (T3 Str Str (Str⊕(TZ (Str×Str))))))=>
  (.nx (v_pool_here_56,v_inks_66)))) r57.1 r57.2) else (R.to ((R.ok (6:Int)).bind fun t68=>R.rng 0 t68) fun (v_unders_69:(List Int))=>
  (lt ([]:List (Str×Str)) fun (v_pairs_70:(List (Str×Str)))=>
  (R.to (((R.ok (3:Int)).bind fun t73=>(R.ok ()).bind fun t74=>(R.ok (t73,t74))).bind fun t75=>(R.ok ((),t75))) fun z76=>R.to (R.np (m_take v_pool_here_47 z76.2.1)) fun r78=>(fun (h71:Int) (v_pool_here_77:(List Int))=>
  (R.to ((R.ok ((1:Int) + h71)).bind fun t79=>R.rng 0 t79) fun l113=>Out.bind (forL l113 (v_pool_here_77,v_unders_69,v_pairs_70) (fun (s80:((List Int)×(List Int)×(List (Str×Str)))) (x81:Int)=>
   (R.to (((R.ok (s80.2.1.length:Int)).bind fun t84=>(R.ok ()).bind fun t85=>(R.ok (t84,t85))).bind fun t86=>(R.ok ((),t86))) fun z87=>R.to (R.np (m_take s80.1 z87.2.1)) fun r89=>(fun (h82:Int) (v_pool_here_88:(List Int))=>
  (R.to (R.popI s80.2.1 h82) fun r92=>(fun (v_under_90:Int) (v_unders_91:(List Int))=>
  (R.to (m_word v_place_9 v_under_90) fun (h93:Str)=>
  (R.to (((R.ok (6:Int)).bind fun t97=>(R.ok ()).bind fun t98=>(R.ok (t97,t98))).bind fun t99=>(R.ok ((),t99))) fun z100=>R.to (R.np (m_take v_pool_here_88 z100.2.1)) fun r102=>(fun (h95:Int) (v_pool_here_101:(List Int))=>
  (R.to (((R.ok h93).bind fun t105=>((m_word v_place_9 h95).bind fun t103=>(R.ok ()).bind fun t104=>(R.ok (t103,t104))).bind fun t106=>(R.ok (t105,t106))).bind fun z107=>(R.ok (z107.1,z107.2.1))) fun t109=>R.to (R.app s80.2.2 t109) fun (v_pairs_108:(List (Str×Str)))=>
  (.nx (v_pool_here_101,v_unders_91,v_pairs_108)))) r102.1 r102.2))) r92.1 r92.2)) r89.1 r89.2))) fun (s110:((List Int)×(List Int)×(List (Str×Str))))=>
  (R.to (R.ok (T3.mk ("glaze":Str) v_name_40 (Sum.inr (TZ.mk s110.2.2):(Str⊕(TZ (Str×Str)))))) fun t112=>R.to (R.app s38.2 t112) fun (v_inks_111:(List (T3 Str Str (Str⊕(TZ (Str×Str))))))=>
  (.nx (s110.1,v_inks_111))))) r78.1 r78.2)))) fun (s49:((List Int)×(List (T3 Str Str (Str⊕(TZ (Str×Str)))))))=>
  (.nx (s49.1,s49.2)))) 0 rfl (wk_uns rfl) (axo_here (aar_cons (exr_p (e_int _)) aar_nil)) (hs_if (ht_test (hs_opL hs_id))) rfl fun h41 v_pool_here_47=>(d_ifp (Bs:=(fun (s49:((List Int)×(List (T3 Str Str (Str⊕(TZ (Str×Str)))))))=>[(.ow (some pinv) s49.1),(.fr v_place_9),(.fr v_paper_18),(.fr v_shift_27),(.ow none s49.2),(.fr x39),(.fr v_name_40),.un,.un,.un,.un])) (t_e (e_op2 (o_cmp fun i j=>decide (i < j)) (e_int _) (e_int _) rfl)) (d_hoistIO (f:=fun (a_:Unit) (x_:(List Int)) (b_:Int×Unit)=>m_take x_ b_.1) (k:=fun (h50:Int) (v_pool_here_56:(List Int))=>
  (R.to (((R.ok ("cover":Str)).bind fun t63=>((R.ok v_name_40).bind fun t61=>(((m_word v_place_9 h50).bind fun t58=>(R.ok (Sum.inl t58:(Str⊕(TZ (Str×Str)))))).bind fun t59=>(R.ok ()).bind fun t60=>(R.ok (t59,t60))).bind fun t62=>(R.ok (t61,t62))).bind fun t64=>(R.ok (t63,t64))).bind fun z65=>(R.ok (T3.mk z65.1 z65.2.1 z65.2.2.1))) fun t67=>R.to (R.app s38.2 t67) fun (v_inks_66:(List (T3 Str Str (Str⊕(TZ (Str×Str))))))=>
  (.nx (v_pool_here_56,v_inks_66)))) 0 rfl (wk_uns rfl) (axo_here (aar_cons (exr_p (e_int _)) aar_nil)) (hs_drop (hs_bm 4 rfl (ha_here (hs_tup (ha_C (ha_V 6 (set_fr (e_var 6)) (ha_here (hs_call (ha_V 1 (set_fr (e_var 1)) (ha_here hs_id)))))))))) rfl fun h50 v_pool_here_56=>(d_app 4 rfl (wk_uns rfl) (r_t3 (ar_cons (k:=fun (x:Str)=>kFr c.K x) (exr_p (e_str _)) (ar_cons (k:=fun (x:Str)=>kFr c.K x) (exr_p (e_var 6)) (ar_cons (k:=fun (x:(Str⊕(TZ (Str×Str))))=>kFr c.K x) (r_inl (r_call1 (aa_cons (e_var 1) (aa_cons (e_int _) aa_nil)) rfl)) (axr_p (k:=fun _=>aNil) a_nil))))) fun v_inks_66=>(d_nx (.same (.same (.same (.same (.same (.same (.same (.same (.same (.same (.same .nil)))))))))))))) (d_getN 7 (wk_uns rfl) (r_lstRg (exr_p (e_int _))) fun v_unders_69=>(d_letN 8 e_nil fun v_pairs_70=>(d_hoistIO (f:=fun (a_:Unit) (x_:(List Int)) (b_:Int×Unit)=>m_take x_ b_.1) (k:=fun (h71:Int) (v_pool_here_77:(List Int))=>
  (R.to ((R.ok ((1:Int) + h71)).bind fun t79=>R.rng 0 t79) fun l113=>Out.bind (forL l113 (v_pool_here_77,v_unders_69,v_pairs_70) (fun (s80:((List Int)×(List Int)×(List (Str×Str)))) (x81:Int)=>
   (R.to (((R.ok (s80.2.1.length:Int)).bind fun t84=>(R.ok ()).bind fun t85=>(R.ok (t84,t85))).bind fun t86=>(R.ok ((),t86))) fun z87=>R.to (R.np (m_take s80.1 z87.2.1)) fun r89=>(fun (h82:Int) (v_pool_here_88:(List Int))=>
  (R.to (R.popI s80.2.1 h82) fun r92=>(fun (v_under_90:Int) (v_unders_91:(List Int))=>
  (R.to (m_word v_place_9 v_under_90) fun (h93:Str)=>
  (R.to (((R.ok (6:Int)).bind fun t97=>(R.ok ()).bind fun t98=>(R.ok (t97,t98))).bind fun t99=>(R.ok ((),t99))) fun z100=>R.to (R.np (m_take v_pool_here_88 z100.2.1)) fun r102=>(fun (h95:Int) (v_pool_here_101:(List Int))=>
  (R.to (((R.ok h93).bind fun t105=>((m_word v_place_9 h95).bind fun t103=>(R.ok ()).bind fun t104=>(R.ok (t103,t104))).bind fun t106=>(R.ok (t105,t106))).bind fun z107=>(R.ok (z107.1,z107.2.1))) fun t109=>R.to (R.app s80.2.2 t109) fun (v_pairs_108:(List (Str×Str)))=>
  (.nx (v_pool_here_101,v_unders_91,v_pairs_108)))) r102.1 r102.2))) r92.1 r92.2)) r89.1 r89.2))) fun (s110:((List Int)×(List Int)×(List (Str×Str))))=>
  (R.to (R.ok (T3.mk ("glaze":Str) v_name_40 (Sum.inr (TZ.mk s110.2.2):(Str⊕(TZ (Str×Str)))))) fun t112=>R.to (R.app s38.2 t112) fun (v_inks_111:(List (T3 Str Str (Str⊕(TZ (Str×Str))))))=>
  (.nx (s110.1,v_inks_111))))) 0 rfl (wk_uns rfl) (axo_here (aar_cons (exr_p (e_int _)) aar_nil)) (hs_for (hi_rng (ha_here (hs_opC hs_id)))) rfl fun h71 v_pool_here_77=>(d_for (Bs:=(fun (s80:((List Int)×(List Int)×(List (Str×Str))))=>[(.ow (some pinv) s80.1),(.fr v_place_9),(.fr v_paper_18),(.fr v_shift_27),(.ow none s38.2),(.fr x39),(.fr v_name_40),(.ow none s80.2.1),(.ow none s80.2.2),.un,.un])) (wk_uns rfl) (i_rng1 (exr_p (e_op2 (o_int fun i j=>i + j) (e_int _) (e_int _) rfl))) (.same (.same (.same (.same (.same (.same (.same (.same (.same (.same (.same .nil))))))))))) (fun _ _=>(g_name 9)) (fun s80 x81 B114=>(d_hoistIO (f:=fun (a_:Unit) (x_:(List Int)) (b_:Int×Unit)=>m_take x_ b_.1) (k:=fun (h82:Int) (v_pool_here_88:(List Int))=>
  (R.to (R.popI s80.2.1 h82) fun r92=>(fun (v_under_90:Int) (v_unders_91:(List Int))=>
  (R.to (m_word v_place_9 v_under_90) fun (h93:Str)=>
  (R.to (((R.ok (6:Int)).bind fun t97=>(R.ok ()).bind fun t98=>(R.ok (t97,t98))).bind fun t99=>(R.ok ((),t99))) fun z100=>R.to (R.np (m_take v_pool_here_88 z100.2.1)) fun r102=>(fun (h95:Int) (v_pool_here_101:(List Int))=>
  (R.to (((R.ok h93).bind fun t105=>((m_word v_place_9 h95).bind fun t103=>(R.ok ()).bind fun t104=>(R.ok (t103,t104))).bind fun t106=>(R.ok (t105,t106))).bind fun z107=>(R.ok (z107.1,z107.2.1))) fun t109=>R.to (R.app s80.2.2 t109) fun (v_pairs_108:(List (Str×Str)))=>
  (.nx (v_pool_here_101,v_unders_91,v_pairs_108)))) r102.1 r102.2))) r92.1 r92.2)) 0 rfl (wk_uns rfl) (axo_here (aar_cons (exr_p (e_opA (x:=(s80.2.1,())) o_lenL (a_cons (e_varS 7) a_nil) rfl)) aar_nil)) (hs_asg (hs_bm 7 rfl (ha_here hs_id))) rfl fun h82 v_pool_here_88=>(d_popI (k:=fun (v_under_90:Int) (v_unders_91:(List Int))=>
  (R.to (m_word v_place_9 v_under_90) fun (h93:Str)=>
  (R.to (((R.ok (6:Int)).bind fun t97=>(R.ok ()).bind fun t98=>(R.ok (t97,t98))).bind fun t99=>(R.ok ((),t99))) fun z100=>R.to (R.np (m_take v_pool_here_88 z100.2.1)) fun r102=>(fun (h95:Int) (v_pool_here_101:(List Int))=>
  (R.to (((R.ok h93).bind fun t105=>((m_word v_place_9 h95).bind fun t103=>(R.ok ()).bind fun t104=>(R.ok (t103,t104))).bind fun t106=>(R.ok (t105,t106))).bind fun z107=>(R.ok (z107.1,z107.2.1))) fun t109=>R.to (R.app s80.2.2 t109) fun (v_pairs_108:(List (Str×Str)))=>
  (.nx (v_pool_here_101,v_unders_91,v_pairs_108)))) r102.1 r102.2))) 7 10 (by decide) rfl (e_int _) fun v_under_90 v_unders_91=>(d_hoistS (wk_uns rfl) (r_call1 (aa_cons (e_var 1) (aa_cons (e_var 10) aa_nil)) rfl) (hs_drop (hs_bm 8 rfl (ha_here (hs_tup (ha_here hs_id))))) rfl fun h93 sk94=>(d_hoistIO (f:=fun (a_:Unit) (x_:(List Int)) (b_:Int×Unit)=>m_take x_ b_.1) (k:=fun (h95:Int) (v_pool_here_101:(List Int))=>
  (R.to (((R.ok h93).bind fun t105=>((m_word v_place_9 h95).bind fun t103=>(R.ok ()).bind fun t104=>(R.ok (t103,t104))).bind fun t106=>(R.ok (t105,t106))).bind fun z107=>(R.ok (z107.1,z107.2.1))) fun t109=>R.to (R.app s80.2.2 t109) fun (v_pairs_108:(List (Str×Str)))=>
  (.nx (v_pool_here_101,v_unders_91,v_pairs_108)))) 0 rfl (wk_uns rfl) (axo_here (aar_cons (exr_p (e_int _)) aar_nil)) (hs_drop (hs_bm 8 rfl (ha_here (hs_tup (ha_C (ha_here (hs_call (ha_V 1 (set_fr (e_var 1)) (ha_here hs_id))))))))) rfl fun h95 v_pool_here_101=>(d_app 8 rfl (wk_uns rfl) (r_pair (ar_cons (k:=fun (x:Str)=>kFr c.K x) (exr_p (e_str _ sk94)) (ar_cons (k:=fun (x:Str)=>kFr c.K x) (r_call1 (aa_cons (e_var 1) (aa_cons (e_int _) aa_nil)) rfl) (axr_p (k:=fun _=>aNil) a_nil)))) fun v_pairs_108=>(d_nx (.same (.same (.same (.same (.same (.same (.same (.same (.same (.drop (.drop .nil)))))))))))))))))) (fun s110=>(d_app 4 rfl (wk_uns rfl) (exr_p (e_t3 (a_cons (e_str _) (a_cons (e_var 6) (a_cons (e_inr (e_opA (x:=(s110.2.2,())) o_tupleZ (a_cons (e_varS 8) a_nil) rfl)) a_nil))))) fun v_inks_111=>(d_nx (.same (.same (.same (.same (.same (.same (.same (.drop (.drop (.same (.same .nil)))))))))))))))))) (fun s49=>(d_nx (.same (.same (.same (.same (.same (.drop (.drop (.same (.same (.same (.same .nil))))))))))))))))) (fun s115=>(d_fz 4 rfl (d_retIO 0 rfl (wk_uns rfl) (exr_p (e_pair (a_cons (e_var 2) (a_cons (e_var 4) a_nil))))))))))))))))
theorem ok_m_bench (R0:Raw c.K mg "_law_bench" "_law_bench" s_bench)
    (C_m_take:Cal P w c.K mg base "_law_take" 1 ["_law_pool_here","_law_many"] (spIO c (fun (a:Unit) (x:(List Int)) (b:Int×Unit)=>m_take x b.1) (fun x:Int=>kFr c.K x)))
    (C_m_word:Cal P w c.K mg base "_law_word" 1 ["_law_place","_law_k"] (spF c (fun x:Int×Int×Unit=>m_word x.1 x.2.1) (fun x:Str=>kFr c.K x))) :
    Cal P w c.K mg base "_law_bench" 2 ["_law_pool_here"] (spIO c (fun (a:Unit) (x:(List Int)) (b:Unit)=>m_bench x) (fun x:(Str×(List (T3 Str Str (Str⊕(TZ (Str×Str))))))=>kFr c.K x)):=by
  obtain ⟨f,fd,gf,F⟩:=R0.ex
  exact ⟨f,fd,gf,F.kp,F.binds fun _ _ _ _ _ _ us hl=>match us,hl with | [_],_=>rfl,ok_m_bench_F T F C_m_take C_m_word⟩
theorem ok_m_size_F {f:Addr} {fd:FuncData} (F:Fun c.K "_law_size" "_law_size" s_size f fd)
    (C_m_take:Cal P w c.K mg base "_law_take" 1 ["_law_pool_here","_law_many"] (spIO c (fun (a:Unit) (x:(List Int)) (b:Int×Unit)=>m_take x b.1) (fun x:Int=>kFr c.K x))) :
    FnOk P w c.K mg base (L2.CX P w) 2 f fd ["_law_pool_here"] (spIO c (fun (a:Unit) (x:(List Int)) (b:Unit)=>m_size x) (fun x:(Int×Int)=>kFr c.K x)):=by
  obtain ⟨f_m_take,fd_m_take,g_m_take,k_m_take,b_m_take,G_m_take⟩:=C_m_take.ex
  have nd:=sc_size.nd
  refine F.okX sc_size (fun vs H Q E h=>spIO_len vs H Q E h) (fun cdv A outer s H vs Q E hr h=>?_)
  refine ⟨_,(pss_cons (ps_set (i:=1) nd rfl (by trivial) (pe_op op_add pe_int (pe_callS G_m_take (hr.mono (by decide)) (by rfl) g_m_take k_m_take b_m_take (fun σ=>passAt (takes_of rfl rfl rfl rfl) σ) (pa_cons (pv 0) (pa_cons pe_int pa_nil))))) (pss_cons (ps_ret (pe_tup (pa_cons (pv 1) (pa_cons (pe_op op_add pe_int (pe_callS G_m_take (hr.mono (by decide)) (by rfl) g_m_take k_m_take b_m_take (fun σ=>passAt (takes_of rfl rfl rfl rfl) σ) (pa_cons (pv 0) (pa_cons pe_int pa_nil)))) pa_nil)))) pss_nil)),?_⟩
  refine fn_ioR (n:=1) (m:=fun a x b=>m_size_b x) plain_fr h ?hN ?hm ?hd
  case hN=>exact rfl
  case hm=>exact fun _ _ _=>by unfold m_size; rfl
  intro W a v_pool_here b pinv
  obtain ⟨⟩:=a
  obtain ⟨⟩:=b
  show Den _ _ _ _ _ _ _ [(.ow (some pinv) v_pool_here),.un] (m_size_b v_pool_here) noSl
  unfold m_size_b
  exact (d_hoistIO (f:=fun (a_:Unit) (x_:(List Int)) (b_:Int×Unit)=>m_take x_ b_.1) (k:=fun (h1:Int) (v_pool_here_7:(List Int))=>
  (lt ((1:Int) + h1) fun (v_wide_9:Int)=>
  (R.to (((R.ok (4:Int)).bind fun t12=>(R.ok ()).bind fun t13=>(R.ok (t12,t13))).bind fun t14=>(R.ok ((),t14))) fun z15=>R.to (R.np (m_take v_pool_here_7 z15.2.1)) fun r17=>(fun (h10:Int) (v_pool_here_16:(List Int))=>
  (R.to (R.ok (v_wide_9,((1:Int) + h10))) fun r18=>.rt (r18,v_pool_here_16))) r17.1 r17.2))) 0 rfl (wk_uns rfl) (axo_here (aar_cons (exr_p (e_int _)) aar_nil)) (hs_asg (hs_opC hs_id)) rfl fun h1 v_pool_here_7=>(d_let 1 (e_op2 (o_int fun i j=>i + j) (e_int _) (e_int _) rfl) fun v_wide_9=>(d_hoistIO (f:=fun (a_:Unit) (x_:(List Int)) (b_:Int×Unit)=>m_take x_ b_.1) (k:=fun (h10:Int) (v_pool_here_16:(List Int))=>
  (R.to (R.ok (v_wide_9,((1:Int) + h10))) fun r18=>.rt (r18,v_pool_here_16))) 0 rfl (wk_uns rfl) (axo_here (aar_cons (exr_p (e_int _)) aar_nil)) (hs_ret (hs_tup (ha_V 1 (set_fr (e_var 1)) (ha_here (hs_opC hs_id))))) rfl fun h10 v_pool_here_16=>(d_retIO 0 rfl (wk_uns rfl) (exr_p (e_pair (a_cons (e_var 1) (a_cons (e_op2 (o_int fun i j=>i + j) (e_int _) (e_int _) rfl) a_nil))))))))
theorem ok_m_size (R0:Raw c.K mg "_law_size" "_law_size" s_size)
    (C_m_take:Cal P w c.K mg base "_law_take" 1 ["_law_pool_here","_law_many"] (spIO c (fun (a:Unit) (x:(List Int)) (b:Int×Unit)=>m_take x b.1) (fun x:Int=>kFr c.K x))) :
    Cal P w c.K mg base "_law_size" 2 ["_law_pool_here"] (spIO c (fun (a:Unit) (x:(List Int)) (b:Unit)=>m_size x) (fun x:(Int×Int)=>kFr c.K x)):=by
  obtain ⟨f,fd,gf,F⟩:=R0.ex
  exact ⟨f,fd,gf,F.kp,F.binds fun _ _ _ _ _ _ us hl=>match us,hl with | [_],_=>rfl,ok_m_size_F T F C_m_take⟩
theorem ok_m_Shop_init_F {f:Addr} {fd:FuncData} (F:Fun c.K "__init__" "Shop.__init__" s_Shop_init f fd) :
    FnOk P w c.K mg base (L2.CX P w) 1 f fd ["self","bench","size","states"] (spN c "Shop" (fun a:(Str×(List (T3 Str Str (Str⊕(TZ (Str×Str))))))×(Int×Int)×(List Int)×Unit=>m_Shop_init a.1 a.2.1 a.2.2.1)):=by
  have nd:=sc_Shop_init.nd
  refine F.okX sc_Shop_init (fun vs H Q E h=>spN_len vs H Q E h) (fun cdv A outer s H vs Q E hr h=>?_)
  refine ⟨_,(pss_cons (ps_fld (pv 0) (pe_tup (pa_cons (pe_ix (r:=rIxT c.K) ix_tup (pv 1) pe_int (fun _ _=>rfl)) (pa_cons (pe_callTy call_list_of (by rfl) T.b_list (by decide +kernel) (pa_cons (pe_ix (r:=rIxT c.K) ix_tup (pv 1) pe_int (fun _ _=>rfl)) pa_nil)) pa_nil))) rfl) (pss_cons (ps_fld (pv 0) (pv 2) rfl) (pss_cons (ps_fld (pv 0) (pe_callTy call_list_of (by rfl) T.b_list (by decide +kernel) (pa_cons (pv 3) pa_nil)) rfl) (pss_cons (ps_fld (pv 0) pe_dnewK rfl) (pss_cons (ps_fld (pv 0) pe_dnewK rfl) pss_nil))))),?_⟩
  refine fn_N (n:=0) (Bs:=fun (pinv:V) (y:O_Shop)=>[(.ow (some pinv) y),.un,.un,.un]) (m:=fun a=>m_Shop_init_b (Ins.mk Fn.mk) a.1 a.2.1 a.2.2.1) h ?hN ?hm ?hj ?hd
  case hN=>exact rfl
  case hm=>exact fun _=>by unfold m_Shop_init; rfl
  case hj=>exact fun _ _=>rfl
  intro W a pinv
  obtain ⟨v_bench,v_size,v_states,⟨⟩⟩:=a
  show Den _ _ _ _ _ _ _ [(.ow (some pinv) (Ins.mk Fn.mk:Ins "Shop" Fn)),(.fr v_bench),(.fr v_size),(.fr v_states)] (m_Shop_init_b (Ins.mk Fn.mk) v_bench v_size v_states) (fun y=>[(.ow (some pinv) y),.un,.un,.un])
  unfold m_Shop_init_b
  exact (d_fnew (x:=(Ins.mk Fn.mk:Ins "Shop" Fn)) T.ct_Shop (by decide +kernel) (by decide +kernel) (by decide +kernel) 0 rfl (wk_uns rfl) (exr_p (e_nwFr (e_pair (a_cons (e_ixc (x:=v_bench) p_0 (e_var 1) (e_int _) rfl) (a_cons (e_fz (e_opA (x:=(v_bench.2,())) o_list (a_cons (e_sh (e_ixc (x:=v_bench) p_1 (e_var 1) (e_int _) rfl)) a_nil) rfl)) a_nil))))) fun v_self_1=>(d_fnew (x:=v_self_1) T.ct_Shop (by decide +kernel) (by decide +kernel) (by decide +kernel) 0 rfl (wk_uns rfl) (exr_p (e_nwFr (e_var 2))) fun v_self_3=>(d_fnew (x:=v_self_3) T.ct_Shop (by decide +kernel) (by decide +kernel) (by decide +kernel) 0 rfl (wk_uns rfl) (exr_p (e_nwFr (e_fz (e_opA (x:=(v_states,())) o_list (a_cons (e_sh (e_var 3)) a_nil) rfl)))) fun v_self_5=>(d_fnew (x:=v_self_5) T.ct_Shop (by decide +kernel) (by decide +kernel) (by decide +kernel) 0 rfl (wk_uns rfl) (exr_p (e_nwQ (e_dnew rfl))) fun v_self_7=>(d_fnew (x:=v_self_7) T.ct_Shop (by decide +kernel) (by decide +kernel) (by decide +kernel) 0 rfl (wk_uns rfl) (exr_p (e_gknew rfl)) fun v_self_9=>(d_nx (.same (.drop (.drop (.drop .nil))))))))))
theorem ok_m_Shop_init (R0:RawN c.K C_Shop "Shop.__init__" s_Shop_init) :
    CalN P w c.K mg base C_Shop 1 ["self","bench","size","states"] (spN c "Shop" (fun a:(Str×(List (T3 Str Str (Str⊕(TZ (Str×Str))))))×(Int×Int)×(List Int)×Unit=>m_Shop_init a.1 a.2.1 a.2.2.1)):=by
  obtain ⟨f,fd,M,F⟩:=R0.ex
  exact ⟨f,fd,M,F.binds fun _ _ _ _ _ _ us hl=>match us,hl with | [_,_,_,_],_=>rfl,ok_m_Shop_init_F T F⟩
theorem ok_m_cell_at_F {f:Addr} {fd:FuncData} (F:Fun c.K "_law_cell_at" "_law_cell_at" s_cell_at f fd) :
    FnOk P w c.K mg base (L2.CX P w) 1 f fd ["_law_script","_law_k"] (spF c (fun x:(Sq Int)×Int×Unit=>m_cell_at x.1 x.2.1) (fun x:Int=>kFr c.K x)):=by
  have nd:=sc_cell_at.nd
  refine F.okX sc_cell_at (fun vs H Q E h=>spF_len vs H Q E h) (fun cdv A outer s H vs Q E hr h=>?_)
  refine ⟨_,(pss_cons (ps_if (pt_cmpR op_lt (pv 1) (pe_callB (r:=Fw.rLen c.K) call_len_seq (by rfl) T.b_len (by decide +kernel) (pa_cons (pv 0) pa_nil)) (nomark _)) (pss_cons (ps_ret (pe_ix (r:=rIxL c.K) ix_list (pv 0) (pv 1) (fun _ _=>rfl))) pss_nil) pss_nil) (pss_cons (ps_ret pe_int) pss_nil)),?_⟩
  have hm:∀ x:(Sq Int)×Int×Unit,(fun x:(Sq Int)×Int×Unit=>m_cell_at x.1 x.2.1) x = (m_cell_at_b x.1 x.2.1).run:=fun _=>by unfold m_cell_at; rfl
  have hN:N_cell_at.length = Args.num ((Sq Int)×Int×Unit) + 0:=rfl
  refine fn_run (Bs:=fun _=>uns 2) (n:=0) (m:=fun x=>m_cell_at_b x.1 x.2.1) h ?hN ?hm ?hd
  case hN=>exact hN
  case hm=>exact hm
  intro W x
  obtain ⟨v_script,v_k,⟨⟩⟩:=x
  show Den _ _ _ _ _ _ _ [(.fr v_script),(.fr v_k)] (m_cell_at_b v_script v_k) (fun _=>uns 2)
  unfold m_cell_at_b
  exact (d_ifap (t_e (e_op2 (o_cmp fun i j=>decide (i < j)) (e_var 1) (e_opA (x:=(v_script.l,())) o_lenL (a_cons (e_shQ (e_var 0)) a_nil) rfl) rfl)) (d_retR (wk_uns rfl) (r_op2 o_ixL (exr_p (e_shQ (e_var 0))) (exr_p (e_var 1)))) (d_ret (e_int _)))
theorem ok_m_cell_at (R0:Raw c.K mg "_law_cell_at" "_law_cell_at" s_cell_at) :
    Cal P w c.K mg base "_law_cell_at" 1 ["_law_script","_law_k"] (spF c (fun x:(Sq Int)×Int×Unit=>m_cell_at x.1 x.2.1) (fun x:Int=>kFr c.K x)):=by
  obtain ⟨f,fd,gf,F⟩:=R0.ex
  exact ⟨f,fd,gf,F.kp,F.binds fun _ _ _ _ _ _ us hl=>match us,hl with | [_,_],_=>rfl,ok_m_cell_at_F T F⟩
theorem ok_m_is_word_F {f:Addr} {fd:FuncData} (F:Fun c.K "is_word" "is_word" s_is_word f fd) :
    FnOk P w c.K mg base (L2.CX P w) 1 f fd ["text"] (spF c (fun x:Str×Unit=>m_is_word x.1) (fun x:Bool=>kFr c.K x)):=by
  have nd:=sc_is_word.nd
  refine F.okX sc_is_word (fun vs H Q E h=>spF_len vs H Q E h) (fun cdv A outer s H vs Q E hr h=>?_)
  refine ⟨_,(pss_cons (ps_for (passes_of rfl) rfl (pi_str (pv 0)) (pg_name (i:=1) nd rfl (by trivial)) (pss_cons (ps_if (pt_cmpR op_notin_str (pv 1) (pe_glob (v:=.str ("abcdefghijklmnopqrstuvwxyz":Str)) rfl T.c_LETTERS ⟨_,rfl⟩) (by rfl)) (pss_cons (ps_ret pe_bl) pss_nil) pss_nil) pss_nil)) (pss_cons (ps_ret (pe_chain op_le op_le pe_int (pe_callB call_len_str (by rfl) T.b_len (by decide +kernel) (pa_cons (pv 0) pa_nil)) (pe_glob (v:=.int 8) rfl T.c_LONGEST ⟨_,rfl⟩))) pss_nil)),?_⟩
  have hm:∀ x:Str×Unit,(fun x:Str×Unit=>m_is_word x.1) x = (m_is_word_b x.1).run:=fun _=>by unfold m_is_word; rfl
  have hN:N_is_word.length = Args.num (Str×Unit) + 1:=rfl
  refine fn_run (Bs:=fun _=>uns 2) (n:=1) (m:=fun x=>m_is_word_b x.1) h ?hN ?hm ?hd
  case hN=>exact hN
  case hm=>exact hm
  intro W x
  obtain ⟨v_text,⟨⟩⟩:=x
  show Den _ _ _ _ _ _ _ [(.fr v_text),.un] (m_is_word_b v_text) (fun _=>uns 2)
  unfold m_is_word_b
  exact (d_for (Bs:=(fun (s2:Unit)=>[(.fr v_text),.un])) (wk_uns rfl) (i_str (exr_p (e_var 0))) (.same (.same .nil)) (fun _ _=>(g_name 1)) (fun s2 x3 B6=>(d_ifap (t_e (e_op2 o_ninS (e_var 1) (e_str _) rfl)) (d_ret (e_bl _)) (d_nx (.same (.drop .nil))))) (fun s4=>(d_ret (e_chain (o_cmp fun i j=>decide (i ≤ j)) (o_cmp fun i j=>decide (i ≤ j)) (e_int _) (e_opA (x:=(v_text,())) o_lenS (a_cons (e_var 0) a_nil) rfl) (e_int _) rfl))))
theorem ok_m_is_word (R0:Raw c.K mg "is_word" "is_word" s_is_word) :
    Cal P w c.K mg base "is_word" 1 ["text"] (spF c (fun x:Str×Unit=>m_is_word x.1) (fun x:Bool=>kFr c.K x)):=by
  obtain ⟨f,fd,gf,F⟩:=R0.ex
  exact ⟨f,fd,gf,F.kp,F.binds fun _ _ _ _ _ _ us hl=>match us,hl with | [_],_=>rfl,ok_m_is_word_F T F⟩
theorem ok_m_Shop_look_at_new_F {f:Addr} {fd:FuncData} (F:Fun c.K "look_at_new" "Shop.look_at_new" s_Shop_look_at_new f fd)
    (C_m_is_word:Cal P w c.K mg base "is_word" 1 ["text"] (spF c (fun x:Str×Unit=>m_is_word x.1) (fun x:Bool=>kFr c.K x))) :
    FnOk P w c.K mg base (L2.CX P w) 2 f fd ["self","name","names"] (spF c (fun x:O_Shop×Str×(Dq Str Int)×Unit=>m_Shop_look_at_new x.1 x.2.1 x.2.2.1) (fun x:Unit=>kFr c.K x)):=by
  obtain ⟨f_m_is_word,fd_m_is_word,g_m_is_word,k_m_is_word,b_m_is_word,G_m_is_word⟩:=C_m_is_word.ex
  have nd:=sc_Shop_look_at_new.nd
  refine F.okX sc_Shop_look_at_new (fun vs H Q E h=>spF_len vs H Q E h) (fun cdv A outer s H vs Q E hr h=>?_)
  refine ⟨_,(pss_cons (ps_if (pt_not (pt_val (pe_callS G_m_is_word (hr.mono (by decide)) (by rfl) g_m_is_word k_m_is_word b_m_is_word (fun σ=>passAt (takes_of rfl rfl rfl rfl) σ) (pa_cons (pv 1) pa_nil)))) (pss_cons (ps_raise rfl (takes_of rfl rfl rfl rfl) (pmk_z T.x_NoName.o T.z_NoName T.g_NoName (by rfl))) pss_nil) pss_nil) (pss_cons (ps_if (pt_cmp (pc_dinO (hu1 hr) (pv 1) (pv 2))) (pss_cons (ps_raise rfl (takes_of rfl rfl rfl rfl) (pmk_z T.x_Twice.o T.z_Twice T.g_Twice (by rfl))) pss_nil) pss_nil) pss_nil)),?_⟩
  have hm:∀ x:O_Shop×Str×(Dq Str Int)×Unit,(fun x:O_Shop×Str×(Dq Str Int)×Unit=>m_Shop_look_at_new x.1 x.2.1 x.2.2.1) x = (m_Shop_look_at_new_b x.1 x.2.1 x.2.2.1).finX fun _=>.ok ():=fun _=>by unfold m_Shop_look_at_new; rfl
  have hN:N_Shop_look_at_new.length = Args.num (O_Shop×Str×(Dq Str Int)×Unit) + 0:=rfl
  refine fn_finX (Bs:=fun _=>uns 3) (n:=0) (m:=fun x=>m_Shop_look_at_new_b x.1 x.2.1 x.2.2.1) h ?hN ?hm ?hd
  case hN=>exact hN
  case hm=>exact hm
  intro W x
  obtain ⟨v_self,v_name,v_names,⟨⟩⟩:=x
  show Den _ _ _ _ _ _ _ [(.fr v_self),(.fr v_name),(.fr v_names)] (m_Shop_look_at_new_b v_self v_name v_names) (fun _=>uns 3)
  unfold m_Shop_look_at_new_b
  exact (d_ifa (wk_uns rfl) (tr_not (tr_B (r_call1 (aa_cons (e_var 1) aa_nil) rfl))) (d_raise0 T.M_NoName (wk_uns rfl)) (d_ifap (t_B (e_op2 o_din (e_var 1) (e_qs (e_var 2)) rfl)) (d_raise0 T.M_Twice (wk_uns rfl)) (d_nx (.drop (.drop (.drop .nil))))))
theorem ok_m_Shop_look_at_new (R0:RawM c.K C_Shop "look_at_new" "Shop.look_at_new" s_Shop_look_at_new)
    (C_m_is_word:Cal P w c.K mg base "is_word" 1 ["text"] (spF c (fun x:Str×Unit=>m_is_word x.1) (fun x:Bool=>kFr c.K x))) :
    CalM P w c.K mg base C_Shop "look_at_new" 2 ["self","name","names"] (spF c (fun x:O_Shop×Str×(Dq Str Int)×Unit=>m_Shop_look_at_new x.1 x.2.1 x.2.2.1) (fun x:Unit=>kFr c.K x)):=by
  obtain ⟨f,fd,M,F⟩:=R0.ex
  exact ⟨f,fd,M,F.binds fun _ _ _ _ _ _ us hl=>match us,hl with | [_,_,_],_=>rfl,ok_m_Shop_look_at_new_F T F C_m_is_word⟩
theorem ok_m_all_of_F {f:Addr} {fd:FuncData} (F:Fun c.K "all_of" "all_of" s_all_of f fd) :
    FnOk P w c.K mg base (L2.CX P w) 1 f fd ["size"] (spF c (fun x:(Int×Int)×Unit=>m_all_of x.1) (fun x:Int=>kFr c.K x)):=by
  have nd:=sc_all_of.nd
  refine F.okX sc_all_of (fun vs H Q E h=>spF_len vs H Q E h) (fun cdv A outer s H vs Q E hr h=>?_)
  refine ⟨_,(pss_cons (ps_ret (pe_op op_sub (pe_op op_shl pe_int (pe_op op_mul (pe_ix (r:=rIxT c.K) ix_tup (pv 0) pe_int (fun _ _=>rfl)) (pe_ix (r:=rIxT c.K) ix_tup (pv 0) pe_int (fun _ _=>rfl)))) pe_int)) pss_nil),?_⟩
  have hm:∀ x:(Int×Int)×Unit,(fun x:(Int×Int)×Unit=>m_all_of x.1) x = (m_all_of_b x.1).run:=fun _=>by unfold m_all_of; rfl
  have hN:N_all_of.length = Args.num ((Int×Int)×Unit) + 0:=rfl
  refine fn_run (Bs:=fun _=>uns 1) (n:=0) (m:=fun x=>m_all_of_b x.1) h ?hN ?hm ?hd
  case hN=>exact hN
  case hm=>exact hm
  intro W x
  obtain ⟨v_size,⟨⟩⟩:=x
  show Den _ _ _ _ _ _ _ [(.fr v_size)] (m_all_of_b v_size) (fun _=>uns 1)
  unfold m_all_of_b
  exact (d_retR (wk_uns rfl) (r_op2 (o_int fun i j=>i - j) (r_op2 o_shl (exr_p (e_int _)) (r_op2 o_mul (exr_p (e_ixc (x:=v_size) p_0 (e_var 0) (e_int _) rfl)) (exr_p (e_ixc (x:=v_size) p_1 (e_var 0) (e_int _) rfl)))) (exr_p (e_int _))))
theorem ok_m_all_of (R0:Raw c.K mg "all_of" "all_of" s_all_of) :
    Cal P w c.K mg base "all_of" 1 ["size"] (spF c (fun x:(Int×Int)×Unit=>m_all_of x.1) (fun x:Int=>kFr c.K x)):=by
  obtain ⟨f,fd,gf,F⟩:=R0.ex
  exact ⟨f,fd,gf,F.kp,F.binds fun _ _ _ _ _ _ us hl=>match us,hl with | [_],_=>rfl,ok_m_all_of_F T F⟩
theorem ok_m_Shop_block_F {f:Addr} {fd:FuncData} (F:Fun c.K "block" "Shop.block" s_Shop_block f fd)
    (C_m_Shop_look_at_new:CalM P w c.K mg base C_Shop "look_at_new" 2 ["self","name","names"] (spF c (fun x:O_Shop×Str×(Dq Str Int)×Unit=>m_Shop_look_at_new x.1 x.2.1 x.2.2.1) (fun x:Unit=>kFr c.K x)))
    (C_m_all_of:Cal P w c.K mg base "all_of" 1 ["size"] (spF c (fun x:(Int×Int)×Unit=>m_all_of x.1) (fun x:Int=>kFr c.K x))) :
    FnOk P w c.K mg base (L2.CX P w) 3 f fd ["self","name"] (spM c (fun (x:O_Shop) (a:Str×Unit)=>m_Shop_block x a.1) (fun x:Unit=>kFr c.K x)):=by
  obtain ⟨f_m_Shop_look_at_new,fd_m_Shop_look_at_new,M_m_Shop_look_at_new,b_m_Shop_look_at_new,G_m_Shop_look_at_new⟩:=C_m_Shop_look_at_new.ex
  obtain ⟨f_m_all_of,fd_m_all_of,g_m_all_of,k_m_all_of,b_m_all_of,G_m_all_of⟩:=C_m_all_of.ex
  have nd:=sc_Shop_block.nd
  refine F.okX sc_Shop_block (fun vs H Q E h=>spM_len vs H Q E h) (fun cdv A outer s H vs Q E hr h=>?_)
  refine ⟨_,(pss_cons (ps_expr (pe_methD G_m_Shop_look_at_new (hr.mono (by decide)) (pv 0) T.ct_Shop.cl M_m_Shop_look_at_new b_m_Shop_look_at_new (fun σ=>passAt (takes_of rfl rfl rfl rfl) σ) (pa_cons (pv 1) (pa_cons (pe_fldK (K:=c.K) (by rfl) (pv 0)) pa_nil)))) (pss_cons (ps_dput (hu1 hr) (pe_fldK (K:=c.K) (by rfl) (pv 0)) (pv 1) (pe_callS G_m_all_of (hr.mono (by decide)) (by rfl) g_m_all_of k_m_all_of b_m_all_of (fun σ=>passAt (takes_of rfl rfl rfl rfl) σ) (pa_cons (pe_fldK (K:=c.K) (by rfl) (pv 0)) pa_nil)) rfl) pss_nil)),?_⟩
  refine fn_mFX (n:=0) (Bs:=fun (pinv:V) (y:O_Shop)=>[(.ow (some pinv) y),.un]) (m:=fun x a=>m_Shop_block_b x a.1) h ?hN ?hm ?hj ?hd
  case hN=>exact rfl
  case hm=>exact fun _ _=>by unfold m_Shop_block; rfl
  case hj=>exact fun _ _=>rfl
  intro W v_self a pinv
  obtain ⟨v_name,⟨⟩⟩:=a
  show Den _ _ _ _ _ _ _ [(.ow (some pinv) v_self),(.fr v_name)] (m_Shop_block_b v_self v_name) (fun y=>[(.ow (some pinv) y),.un])
  unfold m_Shop_block_b
  exact (d_drop (kd:=fun (x:Unit)=>kFr c.K x) (.same (wk_uns rfl)) (r_fv (fun _=>kbk_fr) (.ow (.fr .nil)) fun _=>(r_meth (m:="look_at_new") (f:=(fun x:O_Shop×Str×(Dq Str Int)×Unit=>m_Shop_look_at_new x.1 x.2.1 x.2.2.1)) T.ct_Shop (by decide +kernel) (exr_p (e_var 0)) (axr_p (k:=fun x=>kAs c.K x) (aa_cons (e_var 1) (aa_cons (e_fld ((Sel.up (Sel.here (by decide +kernel))):Sel (Fd (Fd (Fd (Fd (Fd Fn "bench" (Fr (Str×(List (T3 Str Str (Str⊕(TZ (Str×Str)))))))) "size" (Fr (Int×Int))) "states" (Fr (List Int))) "woods" (Dq Str Int)) "prints" (DGk Str (Int×Int))) (Fd (Fd (Fd (Fd (Fd Fn "bench" (Fr (Str×(List (T3 Str Str (Str⊕(TZ (Str×Str)))))))) "size" (Fr (Int×Int))) "states" (Fr (List Int))) "woods" (Dq Str Int)) "prints" (DGk Str (Int×Int))) "woods" (Dq Str Int) (Dq Str Int)) T.ct_Shop (by decide +kernel) (e_var 0)) aa_nil))))) (d_dputF2 (x:=v_self) (s:=((Sel.up (Sel.here (by decide +kernel))):Sel (Fd (Fd (Fd (Fd (Fd Fn "bench" (Fr (Str×(List (T3 Str Str (Str⊕(TZ (Str×Str)))))))) "size" (Fr (Int×Int))) "states" (Fr (List Int))) "woods" (Dq Str Int)) "prints" (DGk Str (Int×Int))) (Fd (Fd (Fd (Fd (Fd Fn "bench" (Fr (Str×(List (T3 Str Str (Str⊕(TZ (Str×Str)))))))) "size" (Fr (Int×Int))) "states" (Fr (List Int))) "woods" (Dq Str Int)) "prints" (DGk Str (Int×Int))) "woods" (Dq Str Int) (Dq Str Int))) (i:=0) (g:=v_self.f.r.x) (v:=fun d_=>(Ins.mk (Fd.mk (Fd.mk v_self.f.r.r d_) v_self.f.x))) T.ct_Shop (by decide +kernel) rfl (.same (wk_uns rfl)) (r_call1 (aa_cons (e_fldO ((Sel.up (Sel.up (Sel.up (Sel.here (by decide +kernel))))):Sel (Fd (Fd (Fd (Fd (Fd Fn "bench" (Fr (Str×(List (T3 Str Str (Str⊕(TZ (Str×Str)))))))) "size" (Fr (Int×Int))) "states" (Fr (List Int))) "woods" (Dq Str Int)) "prints" (DGk Str (Int×Int))) (Fd (Fd (Fd (Fd (Fd Fn "bench" (Fr (Str×(List (T3 Str Str (Str⊕(TZ (Str×Str)))))))) "size" (Fr (Int×Int))) "states" (Fr (List Int))) "woods" (Dq Str Int)) "prints" (DGk Str (Int×Int))) "size" (Fr (Int×Int)) (Fr (Int×Int))) T.ct_Shop (by decide +kernel) 0 rfl) aa_nil) rfl) (exr_p (e_var 1)) rfl (fun _=>rfl) fun v_self_3=>(d_nx (.same (.drop .nil)))))
theorem ok_m_Shop_block (R0:RawM c.K C_Shop "block" "Shop.block" s_Shop_block)
    (C_m_Shop_look_at_new:CalM P w c.K mg base C_Shop "look_at_new" 2 ["self","name","names"] (spF c (fun x:O_Shop×Str×(Dq Str Int)×Unit=>m_Shop_look_at_new x.1 x.2.1 x.2.2.1) (fun x:Unit=>kFr c.K x)))
    (C_m_all_of:Cal P w c.K mg base "all_of" 1 ["size"] (spF c (fun x:(Int×Int)×Unit=>m_all_of x.1) (fun x:Int=>kFr c.K x))) :
    CalM P w c.K mg base C_Shop "block" 3 ["self","name"] (spM c (fun (x:O_Shop) (a:Str×Unit)=>m_Shop_block x a.1) (fun x:Unit=>kFr c.K x)):=by
  obtain ⟨f,fd,M,F⟩:=R0.ex
  exact ⟨f,fd,M,F.binds fun _ _ _ _ _ _ us hl=>match us,hl with | [_,_],_=>rfl,ok_m_Shop_block_F T F C_m_Shop_look_at_new C_m_all_of⟩
theorem ok_m_Shop_look_at_new_2_F {f:Addr} {fd:FuncData} (F:Fun c.K "look_at_new" "Shop.look_at_new" s_Shop_look_at_new f fd)
    (C_m_is_word:Cal P w c.K mg base "is_word" 1 ["text"] (spF c (fun x:Str×Unit=>m_is_word x.1) (fun x:Bool=>kFr c.K x))) :
    FnOk P w c.K mg base (L2.CX P w) 2 f fd ["self","name","names"] (spF c (fun x:O_Shop×Str×(Dq Str (List (Int×Int)))×Unit=>m_Shop_look_at_new_2 x.1 x.2.1 x.2.2.1) (fun x:Unit=>kFr c.K x)):=by
  obtain ⟨f_m_is_word,fd_m_is_word,g_m_is_word,k_m_is_word,b_m_is_word,G_m_is_word⟩:=C_m_is_word.ex
  have nd:=sc_Shop_look_at_new.nd
  refine F.okX sc_Shop_look_at_new (fun vs H Q E h=>spF_len vs H Q E h) (fun cdv A outer s H vs Q E hr h=>?_)
  refine ⟨_,(pss_cons (ps_if (pt_not (pt_val (pe_callS G_m_is_word (hr.mono (by decide)) (by rfl) g_m_is_word k_m_is_word b_m_is_word (fun σ=>passAt (takes_of rfl rfl rfl rfl) σ) (pa_cons (pv 1) pa_nil)))) (pss_cons (ps_raise rfl (takes_of rfl rfl rfl rfl) (pmk_z T.x_NoName.o T.z_NoName T.g_NoName (by rfl))) pss_nil) pss_nil) (pss_cons (ps_if (pt_cmp (pc_dinO (hu1 hr) (pv 1) (pv 2))) (pss_cons (ps_raise rfl (takes_of rfl rfl rfl rfl) (pmk_z T.x_Twice.o T.z_Twice T.g_Twice (by rfl))) pss_nil) pss_nil) pss_nil)),?_⟩
  have hm:∀ x:O_Shop×Str×(Dq Str (List (Int×Int)))×Unit,(fun x:O_Shop×Str×(Dq Str (List (Int×Int)))×Unit=>m_Shop_look_at_new_2 x.1 x.2.1 x.2.2.1) x = (m_Shop_look_at_new_2_b x.1 x.2.1 x.2.2.1).finX fun _=>.ok ():=fun _=>by unfold m_Shop_look_at_new_2; rfl
  have hN:N_Shop_look_at_new.length = Args.num (O_Shop×Str×(Dq Str (List (Int×Int)))×Unit) + 0:=rfl
  refine fn_finX (Bs:=fun _=>uns 3) (n:=0) (m:=fun x=>m_Shop_look_at_new_2_b x.1 x.2.1 x.2.2.1) h ?hN ?hm ?hd
  case hN=>exact hN
  case hm=>exact hm
  intro W x
  obtain ⟨v_self,v_name,v_names,⟨⟩⟩:=x
  show Den _ _ _ _ _ _ _ [(.fr v_self),(.fr v_name),(.fr v_names)] (m_Shop_look_at_new_2_b v_self v_name v_names) (fun _=>uns 3)
  unfold m_Shop_look_at_new_2_b
  exact (d_ifa (wk_uns rfl) (tr_not (tr_B (r_call1 (aa_cons (e_var 1) aa_nil) rfl))) (d_raise0 T.M_NoName (wk_uns rfl)) (d_ifap (t_B (e_op2 o_din (e_var 1) (e_qs (e_var 2)) rfl)) (d_raise0 T.M_Twice (wk_uns rfl)) (d_nx (.drop (.drop (.drop .nil))))))
theorem ok_m_Shop_look_at_new_2 (R0:RawM c.K C_Shop "look_at_new" "Shop.look_at_new" s_Shop_look_at_new)
    (C_m_is_word:Cal P w c.K mg base "is_word" 1 ["text"] (spF c (fun x:Str×Unit=>m_is_word x.1) (fun x:Bool=>kFr c.K x))) :
    CalM P w c.K mg base C_Shop "look_at_new" 2 ["self","name","names"] (spF c (fun x:O_Shop×Str×(Dq Str (List (Int×Int)))×Unit=>m_Shop_look_at_new_2 x.1 x.2.1 x.2.2.1) (fun x:Unit=>kFr c.K x)):=by
  obtain ⟨f,fd,M,F⟩:=R0.ex
  exact ⟨f,fd,M,F.binds fun _ _ _ _ _ _ us hl=>match us,hl with | [_,_,_],_=>rfl,ok_m_Shop_look_at_new_2_F T F C_m_is_word⟩
theorem ok_m_Shop_sheet_F {f:Addr} {fd:FuncData} (F:Fun c.K "sheet" "Shop.sheet" s_Shop_sheet f fd)
    (C_m_Shop_look_at_new_2:CalM P w c.K mg base C_Shop "look_at_new" 2 ["self","name","names"] (spF c (fun x:O_Shop×Str×(Dq Str (List (Int×Int)))×Unit=>m_Shop_look_at_new_2 x.1 x.2.1 x.2.2.1) (fun x:Unit=>kFr c.K x))) :
    FnOk P w c.K mg base (L2.CX P w) 3 f fd ["self","name"] (spM c (fun (x:O_Shop) (a:Str×Unit)=>m_Shop_sheet x a.1) (fun x:Unit=>kFr c.K x)):=by
  obtain ⟨f_m_Shop_look_at_new_2,fd_m_Shop_look_at_new_2,M_m_Shop_look_at_new_2,b_m_Shop_look_at_new_2,G_m_Shop_look_at_new_2⟩:=C_m_Shop_look_at_new_2.ex
  have nd:=sc_Shop_sheet.nd
  refine F.okX sc_Shop_sheet (fun vs H Q E h=>spM_len vs H Q E h) (fun cdv A outer s H vs Q E hr h=>?_)
  refine ⟨_,(pss_cons (ps_expr (pe_methD G_m_Shop_look_at_new_2 (hr.mono (by decide)) (pv 0) T.ct_Shop.cl M_m_Shop_look_at_new_2 b_m_Shop_look_at_new_2 (fun σ=>passAt (takes_of rfl rfl rfl rfl) σ) (pa_cons (pv 1) (pa_cons (pe_fldK (K:=c.K) (by rfl) (pv 0)) pa_nil)))) (pss_cons (ps_dput (hu1 hr) (pe_fldK (K:=c.K) (by rfl) (pv 0)) (pv 1) (pe_lst pa_nil) rfl) pss_nil)),?_⟩
  refine fn_mFX (n:=0) (Bs:=fun (pinv:V) (y:O_Shop)=>[(.ow (some pinv) y),.un]) (m:=fun x a=>m_Shop_sheet_b x a.1) h ?hN ?hm ?hj ?hd
  case hN=>exact rfl
  case hm=>exact fun _ _=>by unfold m_Shop_sheet; rfl
  case hj=>exact fun _ _=>rfl
  intro W v_self a pinv
  obtain ⟨v_name,⟨⟩⟩:=a
  show Den _ _ _ _ _ _ _ [(.ow (some pinv) v_self),(.fr v_name)] (m_Shop_sheet_b v_self v_name) (fun y=>[(.ow (some pinv) y),.un])
  unfold m_Shop_sheet_b
  exact (d_drop (kd:=fun (x:Unit)=>kFr c.K x) (.same (wk_uns rfl)) (r_fv (fun _=>kbk_fr) (.ow (.fr .nil)) fun _=>(r_meth (m:="look_at_new") (f:=(fun x:O_Shop×Str×(Dq Str (List (Int×Int)))×Unit=>m_Shop_look_at_new_2 x.1 x.2.1 x.2.2.1)) T.ct_Shop (by decide +kernel) (exr_p (e_var 0)) (axr_p (k:=fun x=>kAs c.K x) (aa_cons (e_var 1) (aa_cons (e_gkq (e_fld ((Sel.here (by decide +kernel)):Sel (Fd (Fd (Fd (Fd (Fd Fn "bench" (Fr (Str×(List (T3 Str Str (Str⊕(TZ (Str×Str)))))))) "size" (Fr (Int×Int))) "states" (Fr (List Int))) "woods" (Dq Str Int)) "prints" (DGk Str (Int×Int))) (Fd (Fd (Fd (Fd (Fd Fn "bench" (Fr (Str×(List (T3 Str Str (Str⊕(TZ (Str×Str)))))))) "size" (Fr (Int×Int))) "states" (Fr (List Int))) "woods" (Dq Str Int)) "prints" (DGk Str (Int×Int))) "prints" (DGk Str (Int×Int)) (DGk Str (Int×Int))) T.ct_Shop (by decide +kernel) (e_var 0))) aa_nil))))) (d_newF (x:=v_self) (s:=((Sel.here (by decide +kernel)):Sel (Fd (Fd (Fd (Fd (Fd Fn "bench" (Fr (Str×(List (T3 Str Str (Str⊕(TZ (Str×Str)))))))) "size" (Fr (Int×Int))) "states" (Fr (List Int))) "woods" (Dq Str Int)) "prints" (DGk Str (Int×Int))) (Fd (Fd (Fd (Fd (Fd Fn "bench" (Fr (Str×(List (T3 Str Str (Str⊕(TZ (Str×Str)))))))) "size" (Fr (Int×Int))) "states" (Fr (List Int))) "woods" (Dq Str Int)) "prints" (DGk Str (Int×Int))) "prints" (DGk Str (Int×Int)) (DGk Str (Int×Int)))) (i:=0) (g:=v_self.f.x) (v:=fun d_=>(Ins.mk (Fd.mk v_self.f.r d_))) T.ct_Shop (by decide +kernel) rfl (.same (wk_uns rfl)) (exr_p (e_var 1)) rfl (fun _=>rfl) fun v_self_3=>(d_nx (.same (.drop .nil)))))
theorem ok_m_Shop_sheet (R0:RawM c.K C_Shop "sheet" "Shop.sheet" s_Shop_sheet)
    (C_m_Shop_look_at_new_2:CalM P w c.K mg base C_Shop "look_at_new" 2 ["self","name","names"] (spF c (fun x:O_Shop×Str×(Dq Str (List (Int×Int)))×Unit=>m_Shop_look_at_new_2 x.1 x.2.1 x.2.2.1) (fun x:Unit=>kFr c.K x))) :
    CalM P w c.K mg base C_Shop "sheet" 3 ["self","name"] (spM c (fun (x:O_Shop) (a:Str×Unit)=>m_Shop_sheet x a.1) (fun x:Unit=>kFr c.K x)):=by
  obtain ⟨f,fd,M,F⟩:=R0.ex
  exact ⟨f,fd,M,F.binds fun _ _ _ _ _ _ us hl=>match us,hl with | [_,_],_=>rfl,ok_m_Shop_sheet_F T F C_m_Shop_look_at_new_2⟩
theorem ok_m_Shop_look_at_known_F {f:Addr} {fd:FuncData} (F:Fun c.K "look_at_known" "Shop.look_at_known" s_Shop_look_at_known f fd) :
    FnOk P w c.K mg base (L2.CX P w) 1 f fd ["self","name","names"] (spF c (fun x:O_Shop×Str×(Dq Str (List (Int×Int)))×Unit=>m_Shop_look_at_known x.1 x.2.1 x.2.2.1) (fun x:Unit=>kFr c.K x)):=by
  have nd:=sc_Shop_look_at_known.nd
  refine F.okX sc_Shop_look_at_known (fun vs H Q E h=>spF_len vs H Q E h) (fun cdv A outer s H vs Q E hr h=>?_)
  refine ⟨_,(pss_cons (ps_if (pt_cmp (pc_dniO (hu1 hr) (pv 1) (pv 2))) (pss_cons (ps_raise rfl (takes_of rfl rfl rfl rfl) (pmk_z T.x_NoName.o T.z_NoName T.g_NoName (by rfl))) pss_nil) pss_nil) pss_nil),?_⟩
  have hm:∀ x:O_Shop×Str×(Dq Str (List (Int×Int)))×Unit,(fun x:O_Shop×Str×(Dq Str (List (Int×Int)))×Unit=>m_Shop_look_at_known x.1 x.2.1 x.2.2.1) x = (m_Shop_look_at_known_b x.1 x.2.1 x.2.2.1).finX fun _=>.ok ():=fun _=>by unfold m_Shop_look_at_known; rfl
  have hN:N_Shop_look_at_known.length = Args.num (O_Shop×Str×(Dq Str (List (Int×Int)))×Unit) + 0:=rfl
  refine fn_finX (Bs:=fun _=>uns 3) (n:=0) (m:=fun x=>m_Shop_look_at_known_b x.1 x.2.1 x.2.2.1) h ?hN ?hm ?hd
  case hN=>exact hN
  case hm=>exact hm
  intro W x
  obtain ⟨v_self,v_name,v_names,⟨⟩⟩:=x
  show Den _ _ _ _ _ _ _ [(.fr v_self),(.fr v_name),(.fr v_names)] (m_Shop_look_at_known_b v_self v_name v_names) (fun _=>uns 3)
  unfold m_Shop_look_at_known_b
  exact (d_ifap (t_B (e_op2 o_dni (e_var 1) (e_qs (e_var 2)) rfl)) (d_raise0 T.M_NoName (wk_uns rfl)) (d_nx (.drop (.drop (.drop .nil)))))
theorem ok_m_Shop_look_at_known (R0:RawM c.K C_Shop "look_at_known" "Shop.look_at_known" s_Shop_look_at_known) :
    CalM P w c.K mg base C_Shop "look_at_known" 1 ["self","name","names"] (spF c (fun x:O_Shop×Str×(Dq Str (List (Int×Int)))×Unit=>m_Shop_look_at_known x.1 x.2.1 x.2.2.1) (fun x:Unit=>kFr c.K x)):=by
  obtain ⟨f,fd,M,F⟩:=R0.ex
  exact ⟨f,fd,M,F.binds fun _ _ _ _ _ _ us hl=>match us,hl with | [_,_,_],_=>rfl,ok_m_Shop_look_at_known_F T F⟩
theorem ok_m_Shop_spoil_F {f:Addr} {fd:FuncData} (F:Fun c.K "spoil" "Shop.spoil" s_Shop_spoil f fd)
    (C_m_Shop_look_at_known:CalM P w c.K mg base C_Shop "look_at_known" 1 ["self","name","names"] (spF c (fun x:O_Shop×Str×(Dq Str (List (Int×Int)))×Unit=>m_Shop_look_at_known x.1 x.2.1 x.2.2.1) (fun x:Unit=>kFr c.K x))) :
    FnOk P w c.K mg base (L2.CX P w) 2 f fd ["self","name"] (spM c (fun (x:O_Shop) (a:Str×Unit)=>m_Shop_spoil x a.1) (fun x:Unit=>kFr c.K x)):=by
  obtain ⟨f_m_Shop_look_at_known,fd_m_Shop_look_at_known,M_m_Shop_look_at_known,b_m_Shop_look_at_known,G_m_Shop_look_at_known⟩:=C_m_Shop_look_at_known.ex
  have nd:=sc_Shop_spoil.nd
  refine F.okX sc_Shop_spoil (fun vs H Q E h=>spM_len vs H Q E h) (fun cdv A outer s H vs Q E hr h=>?_)
  refine ⟨_,(pss_cons (ps_expr (pe_methD G_m_Shop_look_at_known (hr.mono (by decide)) (pv 0) T.ct_Shop.cl M_m_Shop_look_at_known b_m_Shop_look_at_known (fun σ=>passAt (takes_of rfl rfl rfl rfl) σ) (pa_cons (pv 1) (pa_cons (pe_fldK (K:=c.K) (by rfl) (pv 0)) pa_nil)))) (pss_cons (ps_expr (pe_dpopG (hu1 hr) (pe_fldK (K:=c.K) (by rfl) (pv 0)) (pv 1) ⟨by rfl,by rfl,by rfl,by rfl⟩)) pss_nil)),?_⟩
  refine fn_mFX (n:=0) (Bs:=fun (pinv:V) (y:O_Shop)=>[(.ow (some pinv) y),.un]) (m:=fun x a=>m_Shop_spoil_b x a.1) h ?hN ?hm ?hj ?hd
  case hN=>exact rfl
  case hm=>exact fun _ _=>by unfold m_Shop_spoil; rfl
  case hj=>exact fun _ _=>rfl
  intro W v_self a pinv
  obtain ⟨v_name,⟨⟩⟩:=a
  show Den _ _ _ _ _ _ _ [(.ow (some pinv) v_self),(.fr v_name)] (m_Shop_spoil_b v_self v_name) (fun y=>[(.ow (some pinv) y),.un])
  unfold m_Shop_spoil_b
  exact (d_drop (kd:=fun (x:Unit)=>kFr c.K x) (.same (wk_uns rfl)) (r_fv (fun _=>kbk_fr) (.ow (.fr .nil)) fun _=>(r_meth (m:="look_at_known") (f:=(fun x:O_Shop×Str×(Dq Str (List (Int×Int)))×Unit=>m_Shop_look_at_known x.1 x.2.1 x.2.2.1)) T.ct_Shop (by decide +kernel) (exr_p (e_var 0)) (axr_p (k:=fun x=>kAs c.K x) (aa_cons (e_var 1) (aa_cons (e_gkq (e_fld ((Sel.here (by decide +kernel)):Sel (Fd (Fd (Fd (Fd (Fd Fn "bench" (Fr (Str×(List (T3 Str Str (Str⊕(TZ (Str×Str)))))))) "size" (Fr (Int×Int))) "states" (Fr (List Int))) "woods" (Dq Str Int)) "prints" (DGk Str (Int×Int))) (Fd (Fd (Fd (Fd (Fd Fn "bench" (Fr (Str×(List (T3 Str Str (Str⊕(TZ (Str×Str)))))))) "size" (Fr (Int×Int))) "states" (Fr (List Int))) "woods" (Dq Str Int)) "prints" (DGk Str (Int×Int))) "prints" (DGk Str (Int×Int)) (DGk Str (Int×Int))) T.ct_Shop (by decide +kernel) (e_var 0))) aa_nil))))) (d_popF (x:=v_self) (s:=((Sel.here (by decide +kernel)):Sel (Fd (Fd (Fd (Fd (Fd Fn "bench" (Fr (Str×(List (T3 Str Str (Str⊕(TZ (Str×Str)))))))) "size" (Fr (Int×Int))) "states" (Fr (List Int))) "woods" (Dq Str Int)) "prints" (DGk Str (Int×Int))) (Fd (Fd (Fd (Fd (Fd Fn "bench" (Fr (Str×(List (T3 Str Str (Str⊕(TZ (Str×Str)))))))) "size" (Fr (Int×Int))) "states" (Fr (List Int))) "woods" (Dq Str Int)) "prints" (DGk Str (Int×Int))) "prints" (DGk Str (Int×Int)) (DGk Str (Int×Int)))) (i:=0) (g:=v_self.f.x) (v:=fun d_=>(Ins.mk (Fd.mk v_self.f.r d_))) T.ct_Shop (by decide +kernel) rfl (.same (wk_uns rfl)) (exr_p (e_var 1)) rfl (fun _=>rfl) fun v_self_3=>(d_nx (.same (.drop .nil)))))
theorem ok_m_Shop_spoil (R0:RawM c.K C_Shop "spoil" "Shop.spoil" s_Shop_spoil)
    (C_m_Shop_look_at_known:CalM P w c.K mg base C_Shop "look_at_known" 1 ["self","name","names"] (spF c (fun x:O_Shop×Str×(Dq Str (List (Int×Int)))×Unit=>m_Shop_look_at_known x.1 x.2.1 x.2.2.1) (fun x:Unit=>kFr c.K x))) :
    CalM P w c.K mg base C_Shop "spoil" 2 ["self","name"] (spM c (fun (x:O_Shop) (a:Str×Unit)=>m_Shop_spoil x a.1) (fun x:Unit=>kFr c.K x)):=by
  obtain ⟨f,fd,M,F⟩:=R0.ex
  exact ⟨f,fd,M,F.binds fun _ _ _ _ _ _ us hl=>match us,hl with | [_,_],_=>rfl,ok_m_Shop_spoil_F T F C_m_Shop_look_at_known⟩
theorem ok_m_Shop_look_at_known_2_F {f:Addr} {fd:FuncData} (F:Fun c.K "look_at_known" "Shop.look_at_known" s_Shop_look_at_known f fd) :
    FnOk P w c.K mg base (L2.CX P w) 1 f fd ["self","name","names"] (spF c (fun x:O_Shop×Str×(Dq Str Int)×Unit=>m_Shop_look_at_known_2 x.1 x.2.1 x.2.2.1) (fun x:Unit=>kFr c.K x)):=by
  have nd:=sc_Shop_look_at_known.nd
  refine F.okX sc_Shop_look_at_known (fun vs H Q E h=>spF_len vs H Q E h) (fun cdv A outer s H vs Q E hr h=>?_)
  refine ⟨_,(pss_cons (ps_if (pt_cmp (pc_dniO (hu1 hr) (pv 1) (pv 2))) (pss_cons (ps_raise rfl (takes_of rfl rfl rfl rfl) (pmk_z T.x_NoName.o T.z_NoName T.g_NoName (by rfl))) pss_nil) pss_nil) pss_nil),?_⟩
  have hm:∀ x:O_Shop×Str×(Dq Str Int)×Unit,(fun x:O_Shop×Str×(Dq Str Int)×Unit=>m_Shop_look_at_known_2 x.1 x.2.1 x.2.2.1) x = (m_Shop_look_at_known_2_b x.1 x.2.1 x.2.2.1).finX fun _=>.ok ():=fun _=>by unfold m_Shop_look_at_known_2; rfl
  have hN:N_Shop_look_at_known.length = Args.num (O_Shop×Str×(Dq Str Int)×Unit) + 0:=rfl
  refine fn_finX (Bs:=fun _=>uns 3) (n:=0) (m:=fun x=>m_Shop_look_at_known_2_b x.1 x.2.1 x.2.2.1) h ?hN ?hm ?hd
  case hN=>exact hN
  case hm=>exact hm
  intro W x
  obtain ⟨v_self,v_name,v_names,⟨⟩⟩:=x
  show Den _ _ _ _ _ _ _ [(.fr v_self),(.fr v_name),(.fr v_names)] (m_Shop_look_at_known_2_b v_self v_name v_names) (fun _=>uns 3)
  unfold m_Shop_look_at_known_2_b
  exact (d_ifap (t_B (e_op2 o_dni (e_var 1) (e_qs (e_var 2)) rfl)) (d_raise0 T.M_NoName (wk_uns rfl)) (d_nx (.drop (.drop (.drop .nil)))))
theorem ok_m_Shop_look_at_known_2 (R0:RawM c.K C_Shop "look_at_known" "Shop.look_at_known" s_Shop_look_at_known) :
    CalM P w c.K mg base C_Shop "look_at_known" 1 ["self","name","names"] (spF c (fun x:O_Shop×Str×(Dq Str Int)×Unit=>m_Shop_look_at_known_2 x.1 x.2.1 x.2.2.1) (fun x:Unit=>kFr c.K x)):=by
  obtain ⟨f,fd,M,F⟩:=R0.ex
  exact ⟨f,fd,M,F.binds fun _ _ _ _ _ _ us hl=>match us,hl with | [_,_,_],_=>rfl,ok_m_Shop_look_at_known_2_F T F⟩
theorem ok_m_Shop_wood_F {f:Addr} {fd:FuncData} (F:Fun c.K "wood" "Shop.wood" s_Shop_wood f fd)
    (C_m_Shop_look_at_known_2:CalM P w c.K mg base C_Shop "look_at_known" 1 ["self","name","names"] (spF c (fun x:O_Shop×Str×(Dq Str Int)×Unit=>m_Shop_look_at_known_2 x.1 x.2.1 x.2.2.1) (fun x:Unit=>kFr c.K x))) :
    FnOk P w c.K mg base (L2.CX P w) 2 f fd ["self","name"] (spF c (fun x:O_Shop×Str×Unit=>m_Shop_wood x.1 x.2.1) (fun x:Int=>kFr c.K x)):=by
  obtain ⟨f_m_Shop_look_at_known_2,fd_m_Shop_look_at_known_2,M_m_Shop_look_at_known_2,b_m_Shop_look_at_known_2,G_m_Shop_look_at_known_2⟩:=C_m_Shop_look_at_known_2.ex
  have nd:=sc_Shop_wood.nd
  refine F.okX sc_Shop_wood (fun vs H Q E h=>spF_len vs H Q E h) (fun cdv A outer s H vs Q E hr h=>?_)
  refine ⟨_,(pss_cons (ps_expr (pe_methD G_m_Shop_look_at_known_2 (hr.mono (by decide)) (pv 0) T.ct_Shop.cl M_m_Shop_look_at_known_2 b_m_Shop_look_at_known_2 (fun σ=>passAt (takes_of rfl rfl rfl rfl) σ) (pa_cons (pv 1) (pa_cons (pe_fldK (K:=c.K) (by rfl) (pv 0)) pa_nil)))) (pss_cons (ps_ret (pe_dgetO (hu1 hr) (pe_fldK (K:=c.K) (by rfl) (pv 0)) (pv 1))) pss_nil)),?_⟩
  have hm:∀ x:O_Shop×Str×Unit,(fun x:O_Shop×Str×Unit=>m_Shop_wood x.1 x.2.1) x = (m_Shop_wood_b x.1 x.2.1).runX:=fun _=>by unfold m_Shop_wood; rfl
  have hN:N_Shop_wood.length = Args.num (O_Shop×Str×Unit) + 0:=rfl
  refine fn_runX (Bs:=fun _=>uns 2) (n:=0) (m:=fun x=>m_Shop_wood_b x.1 x.2.1) h ?hN ?hm ?hd
  case hN=>exact hN
  case hm=>exact hm
  intro W x
  obtain ⟨v_self,v_name,⟨⟩⟩:=x
  show Den _ _ _ _ _ _ _ [(.fr v_self),(.fr v_name)] (m_Shop_wood_b v_self v_name) (fun _=>uns 2)
  unfold m_Shop_wood_b
  exact (d_drop (kd:=fun (x:Unit)=>kFr c.K x) (wk_uns rfl) (r_meth (m:="look_at_known") (f:=(fun x:O_Shop×Str×(Dq Str Int)×Unit=>m_Shop_look_at_known_2 x.1 x.2.1 x.2.2.1)) T.ct_Shop (by decide +kernel) (exr_p (e_var 0)) (axr_p (k:=fun x=>kAs c.K x) (aa_cons (e_var 1) (aa_cons (e_fld ((Sel.up (Sel.here (by decide +kernel))):Sel (Fd (Fd (Fd (Fd (Fd Fn "bench" (Fr (Str×(List (T3 Str Str (Str⊕(TZ (Str×Str)))))))) "size" (Fr (Int×Int))) "states" (Fr (List Int))) "woods" (Dq Str Int)) "prints" (DGk Str (Int×Int))) (Fd (Fd (Fd (Fd (Fd Fn "bench" (Fr (Str×(List (T3 Str Str (Str⊕(TZ (Str×Str)))))))) "size" (Fr (Int×Int))) "states" (Fr (List Int))) "woods" (Dq Str Int)) "prints" (DGk Str (Int×Int))) "woods" (Dq Str Int) (Dq Str Int)) T.ct_Shop (by decide +kernel) (e_var 0)) aa_nil)))) (d_retR (wk_uns rfl) (r_op2 o_dget (exr_p (e_qs (e_fld ((Sel.up (Sel.here (by decide +kernel))):Sel (Fd (Fd (Fd (Fd (Fd Fn "bench" (Fr (Str×(List (T3 Str Str (Str⊕(TZ (Str×Str)))))))) "size" (Fr (Int×Int))) "states" (Fr (List Int))) "woods" (Dq Str Int)) "prints" (DGk Str (Int×Int))) (Fd (Fd (Fd (Fd (Fd Fn "bench" (Fr (Str×(List (T3 Str Str (Str⊕(TZ (Str×Str)))))))) "size" (Fr (Int×Int))) "states" (Fr (List Int))) "woods" (Dq Str Int)) "prints" (DGk Str (Int×Int))) "woods" (Dq Str Int) (Dq Str Int)) T.ct_Shop (by decide +kernel) (e_var 0)))) (exr_p (e_var 1)))))
theorem ok_m_Shop_wood (R0:RawM c.K C_Shop "wood" "Shop.wood" s_Shop_wood)
    (C_m_Shop_look_at_known_2:CalM P w c.K mg base C_Shop "look_at_known" 1 ["self","name","names"] (spF c (fun x:O_Shop×Str×(Dq Str Int)×Unit=>m_Shop_look_at_known_2 x.1 x.2.1 x.2.2.1) (fun x:Unit=>kFr c.K x))) :
    CalM P w c.K mg base C_Shop "wood" 2 ["self","name"] (spF c (fun x:O_Shop×Str×Unit=>m_Shop_wood x.1 x.2.1) (fun x:Int=>kFr c.K x)):=by
  obtain ⟨f,fd,M,F⟩:=R0.ex
  exact ⟨f,fd,M,F.binds fun _ _ _ _ _ _ us hl=>match us,hl with | [_,_],_=>rfl,ok_m_Shop_wood_F T F C_m_Shop_look_at_known_2⟩
theorem ok_m_stack_at_F {f:Addr} {fd:FuncData} (F:Fun c.K "stack_at" "stack_at" s_stack_at f fd) :
    FnOk P w c.K mg base (L2.CX P w) 1 f fd ["states","bit"] (spF c (fun x:(List Int)×Int×Unit=>m_stack_at x.1 x.2.1) (fun x:TK=>kFr c.K x)):=by
  have nd:=sc_stack_at.nd
  refine F.okX sc_stack_at (fun vs H Q E h=>spF_len vs H Q E h) (fun cdv A outer s H vs Q E hr h=>?_)
  refine ⟨_,(pss_cons (ps_ret (pe_callTy call_tuple_of (by rfl) T.b_tuple (by decide +kernel) (pa_cons (pe_lc (own:=[("number",2),("state",3)]) (g:=gTup c.K 2 (gCons (gName 2) (gCons (gName 3) gNil))) (by rfl) nd (pi_enum (by rfl) T.b_enumerate (pa_cons (pv 0) pa_nil)) (blkOk_by (own:=[("number",2),("state",3)]) (N:=N_stack_at) (sc:=(defScope s_stack_at)) (by decide +kernel)) (fun _ _ _ _ _=>(pg_tup (by rfl) (pgs_cons (pg_name (i:=2) nd rfl (by trivial)) (pgs_cons (pg_name (i:=3) nd rfl (by trivial)) pgs_nil)))) (fun _ _ _ _ _=>(pts_one (pt_cmpR op_eq (pe_op op_and (pe_op op_shr (pv 3) (pv 1)) pe_int) pe_int (nomark _)))) (fun _ _ _ _ _=>(pv 2))) pa_nil))) pss_nil),?_⟩
  have hm:∀ x:(List Int)×Int×Unit,(fun x:(List Int)×Int×Unit=>m_stack_at x.1 x.2.1) x = (m_stack_at_b x.1 x.2.1).run:=fun _=>by unfold m_stack_at; rfl
  have hN:N_stack_at.length = Args.num ((List Int)×Int×Unit) + 2:=rfl
  refine fn_run (Bs:=fun _=>uns 4) (n:=2) (m:=fun x=>m_stack_at_b x.1 x.2.1) h ?hN ?hm ?hd
  case hN=>exact hN
  case hm=>exact hm
  intro W x
  obtain ⟨v_states,v_bit,⟨⟩⟩:=x
  show Den _ _ _ _ _ _ _ [(.fr v_states),(.fr v_bit),.un,.un] (m_stack_at_b v_states v_bit) (fun _=>uns 4)
  unfold m_stack_at_b
  exact (d_retR (wk_uns rfl) (r_opA o_tupleK (ar_cons (k:=fun (x:(List Int))=>kSh c.K x) (r_shN (r_lcG (ixh (i_enum (exr_p (e_var 0)))) (gs_tup2 2 3) (fun x2=>(tr_e (r_op2 o_eq (r_op2 (o_int Builtin.bitAnd) (r_op2 o_shr (exr_p (e_var 3)) (exr_p (e_var 1))) (exr_p (e_int _))) (exr_p (e_int _))))) (fun x2=>(exr_p (e_var 2))))) (axr_p (k:=fun _=>aNil) a_nil))))
theorem ok_m_stack_at (R0:Raw c.K mg "stack_at" "stack_at" s_stack_at) :
    Cal P w c.K mg base "stack_at" 1 ["states","bit"] (spF c (fun x:(List Int)×Int×Unit=>m_stack_at x.1 x.2.1) (fun x:TK=>kFr c.K x)):=by
  obtain ⟨f,fd,gf,F⟩:=R0.ex
  exact ⟨f,fd,gf,F.kp,F.binds fun _ _ _ _ _ _ us hl=>match us,hl with | [_,_],_=>rfl,ok_m_stack_at_F T F⟩
theorem ok_m_laid_F {f:Addr} {fd:FuncData} (F:Fun c.K "laid" "laid" s_laid f fd) :
    FnOk P w c.K mg base (L2.CX P w) 1 f fd ["ink","colour"] (spF c (fun x:(T3 Str Str (Str⊕(TZ (Str×Str))))×Str×Unit=>m_laid x.1 x.2.1) (fun x:Str=>kFr c.K x)):=by
  have nd:=sc_laid.nd
  refine F.okX sc_laid (fun vs H Q E h=>spF_len vs H Q E h) (fun cdv A outer s H vs Q E hr h=>?_)
  refine ⟨_,(pss_cons (ps_if (pt_cmpR op_eq (pe_ix (r:=rIxT c.K) ix_tup (pv 0) pe_int (fun _ _=>rfl)) pe_str (nomark _)) (pss_cons (ps_ret (pe_ix (r:=rIxT c.K) ix_tup (pv 0) pe_int (fun _ _=>rfl))) pss_nil) pss_nil) (pss_cons (ps_for (passes_of rfl) rfl (pi_tup (pe_ix (r:=rIxT c.K) ix_tup (pv 0) pe_int (fun _ _=>rfl))) (pg_tup (by rfl) (pgs_cons (pg_name (i:=2) nd rfl (by trivial)) (pgs_cons (pg_name (i:=3) nd rfl (by trivial)) pgs_nil))) (pss_cons (ps_if (pt_cmpR op_eq (pv 2) (pv 1) (nomark _)) (pss_cons (ps_ret (pv 3)) pss_nil) pss_nil) pss_nil)) (pss_cons (ps_ret (pv 1)) pss_nil))),?_⟩
  have hm:∀ x:(T3 Str Str (Str⊕(TZ (Str×Str))))×Str×Unit,(fun x:(T3 Str Str (Str⊕(TZ (Str×Str))))×Str×Unit=>m_laid x.1 x.2.1) x = (m_laid_b x.1 x.2.1).run:=fun _=>by unfold m_laid; rfl
  have hN:N_laid.length = Args.num ((T3 Str Str (Str⊕(TZ (Str×Str))))×Str×Unit) + 2:=rfl
  refine fn_run (Bs:=fun _=>uns 4) (n:=2) (m:=fun x=>m_laid_b x.1 x.2.1) h ?hN ?hm ?hd
  case hN=>exact hN
  case hm=>exact hm
  intro W x
  obtain ⟨v_ink,v_colour,⟨⟩⟩:=x
  show Den _ _ _ _ _ _ _ [(.fr v_ink),(.fr v_colour),.un,.un] (m_laid_b v_ink v_colour) (fun _=>uns 4)
  unfold m_laid_b
  exact (d_ifap (t_e (e_op2 o_eq (e_ixc (x:=v_ink) p3_0 (e_var 0) (e_int _) rfl) (e_str _) rfl)) (d_retR (wk_uns rfl) (r_getL (exr_p (e_ixc (x:=v_ink) p3_2 (e_var 0) (e_int _) rfl)))) (d_for (Bs:=(fun (s3:Unit)=>[(.fr v_ink),(.fr v_colour),.un,.un])) (wk_uns rfl) (i_tup (r_tz (r_getR (exr_p (e_ixc (x:=v_ink) p3_2 (e_var 0) (e_int _) rfl))))) (.same (.same (.same (.same .nil)))) (fun _ _=>(g_tup2 2 3)) (fun s3 x4 B7=>(d_ifap (t_e (e_op2 o_eq (e_var 2) (e_var 1) rfl)) (d_ret (e_var 3)) (d_nx (.same (.same (.drop (.drop .nil))))))) (fun s5=>(d_ret (e_var 1)))))
theorem ok_m_laid (R0:Raw c.K mg "laid" "laid" s_laid) :
    Cal P w c.K mg base "laid" 1 ["ink","colour"] (spF c (fun x:(T3 Str Str (Str⊕(TZ (Str×Str))))×Str×Unit=>m_laid x.1 x.2.1) (fun x:Str=>kFr c.K x)):=by
  obtain ⟨f,fd,gf,F⟩:=R0.ex
  exact ⟨f,fd,gf,F.kp,F.binds fun _ _ _ _ _ _ us hl=>match us,hl with | [_,_],_=>rfl,ok_m_laid_F T F⟩
theorem ok_m_colour_of_F {f:Addr} {fd:FuncData} (F:Fun c.K "colour_of" "colour_of" s_colour_of f fd)
    (C_m_laid:Cal P w c.K mg base "laid" 1 ["ink","colour"] (spF c (fun x:(T3 Str Str (Str⊕(TZ (Str×Str))))×Str×Unit=>m_laid x.1 x.2.1) (fun x:Str=>kFr c.K x))) :
    FnOk P w c.K mg base (L2.CX P w) 2 f fd ["bench","stack"] (spF c (fun x:(Str×(List (T3 Str Str (Str⊕(TZ (Str×Str))))))×(Tup Int)×Unit=>m_colour_of x.1 x.2.1) (fun x:Str=>kFr c.K x)):=by
  obtain ⟨f_m_laid,fd_m_laid,g_m_laid,k_m_laid,b_m_laid,G_m_laid⟩:=C_m_laid.ex
  have nd:=sc_colour_of.nd
  refine F.okX sc_colour_of (fun vs H Q E h=>spF_len vs H Q E h) (fun cdv A outer s H vs Q E hr h=>?_)
  refine ⟨_,(pss_cons (ps_asg (pv 0) (pg_tup (by rfl) (pgs_cons (pg_name (i:=2) nd rfl (by trivial)) (pgs_cons (pg_name (i:=3) nd rfl (by trivial)) pgs_nil)))) (pss_cons (ps_set (i:=4) nd rfl (by trivial) (pv 2)) (pss_cons (ps_for (passes_of rfl) rfl (pi_tup (pv 1)) (pg_name (i:=5) nd rfl (by trivial)) (pss_cons (ps_set (i:=4) nd rfl (by trivial) (pe_callS G_m_laid (hr.mono (by decide)) (by rfl) g_m_laid k_m_laid b_m_laid (fun σ=>passAt (takes_of rfl rfl rfl rfl) σ) (pa_cons (pe_ix (r:=rIxL c.K) ix_list (pv 3) (pv 5) (fun _ _=>rfl)) (pa_cons (pv 4) pa_nil)))) pss_nil)) (pss_cons (ps_ret (pv 4)) pss_nil)))),?_⟩
  have hm:∀ x:(Str×(List (T3 Str Str (Str⊕(TZ (Str×Str))))))×(Tup Int)×Unit,(fun x:(Str×(List (T3 Str Str (Str⊕(TZ (Str×Str))))))×(Tup Int)×Unit=>m_colour_of x.1 x.2.1) x = (m_colour_of_b x.1 x.2.1).run:=fun _=>by unfold m_colour_of; rfl
  have hN:N_colour_of.length = Args.num ((Str×(List (T3 Str Str (Str⊕(TZ (Str×Str))))))×(Tup Int)×Unit) + 4:=rfl
  refine fn_run (Bs:=fun _=>uns 6) (n:=4) (m:=fun x=>m_colour_of_b x.1 x.2.1) h ?hN ?hm ?hd
  case hN=>exact hN
  case hm=>exact hm
  intro W x
  obtain ⟨v_bench,v_stack,⟨⟩⟩:=x
  show Den _ _ _ _ _ _ _ [(.fr v_bench),(.fr v_stack),.un,.un,.un,.un] (m_colour_of_b v_bench v_stack) (fun _=>uns 6)
  unfold m_colour_of_b
  exact (d_let2 2 3 (e_var 0) fun v_paper_1 v_inks_2=>(d_let 4 (e_var 2) fun v_colour_3=>(d_for (Bs:=(fun (s5:Str)=>[(.fr v_bench),(.fr v_stack),(.fr v_paper_1),(.fr v_inks_2),(.fr s5),.un])) (wk_uns rfl) (i_tup (exr_p (e_var 1))) (.same (.same (.same (.same (.same (.same .nil)))))) (fun _ _=>(g_name 5)) (fun s5 x6 B17=>(d_get 4 (wk_uns rfl) (r_call (aar_cons (r_op2 o_ixL (exr_p (e_sh (e_var 3))) (exr_p (e_var 5))) (aar_cons (exr_p (e_var 4)) aar_nil))) fun v_colour_14=>(d_nx (.same (.same (.same (.same (.same (.drop .nil))))))))) (fun s15=>(d_ret (e_var 4))))))
theorem ok_m_colour_of (R0:Raw c.K mg "colour_of" "colour_of" s_colour_of)
    (C_m_laid:Cal P w c.K mg base "laid" 1 ["ink","colour"] (spF c (fun x:(T3 Str Str (Str⊕(TZ (Str×Str))))×Str×Unit=>m_laid x.1 x.2.1) (fun x:Str=>kFr c.K x))) :
    Cal P w c.K mg base "colour_of" 2 ["bench","stack"] (spF c (fun x:(Str×(List (T3 Str Str (Str⊕(TZ (Str×Str))))))×(Tup Int)×Unit=>m_colour_of x.1 x.2.1) (fun x:Str=>kFr c.K x)):=by
  obtain ⟨f,fd,gf,F⟩:=R0.ex
  exact ⟨f,fd,gf,F.kp,F.binds fun _ _ _ _ _ _ us hl=>match us,hl with | [_,_],_=>rfl,ok_m_colour_of_F T F C_m_laid⟩
theorem ok_m_pressed_F {f:Addr} {fd:FuncData} (F:Fun c.K "pressed" "pressed" s_pressed f fd)
    (C_m_stack_at:Cal P w c.K mg base "stack_at" 1 ["states","bit"] (spF c (fun x:(List Int)×Int×Unit=>m_stack_at x.1 x.2.1) (fun x:TK=>kFr c.K x)))
    (C_m_colour_of:Cal P w c.K mg base "colour_of" 2 ["bench","stack"] (spF c (fun x:(Str×(List (T3 Str Str (Str⊕(TZ (Str×Str))))))×(Tup Int)×Unit=>m_colour_of x.1 x.2.1) (fun x:Str=>kFr c.K x))) :
    FnOk P w c.K mg base (L2.CX P w) 3 f fd ["bench","size","states"] (spF c (fun x:(Str×(List (T3 Str Str (Str⊕(TZ (Str×Str))))))×(Int×Int)×(List Int)×Unit=>m_pressed x.1 x.2.1 x.2.2.1) (fun x:(DL Str)=>kNw c.K x)):=by
  obtain ⟨f_m_stack_at,fd_m_stack_at,g_m_stack_at,k_m_stack_at,b_m_stack_at,G_m_stack_at⟩:=C_m_stack_at.ex
  obtain ⟨f_m_colour_of,fd_m_colour_of,g_m_colour_of,k_m_colour_of,b_m_colour_of,G_m_colour_of⟩:=C_m_colour_of.ex
  have nd:=sc_pressed.nd
  refine F.okX sc_pressed (fun vs H Q E h=>spF_len vs H Q E h) (fun cdv A outer s H vs Q E hr h=>?_)
  refine ⟨_,(pss_cons (ps_asg (pv 1) (pg_tup (by rfl) (pgs_cons (pg_name (i:=3) nd rfl (by trivial)) (pgs_cons (pg_name (i:=4) nd rfl (by trivial)) pgs_nil)))) (pss_cons (ps_set (i:=5) nd rfl (by trivial) pe_dnewT) (pss_cons (ps_set (i:=6) nd rfl (by trivial) (pe_lst pa_nil)) (pss_cons (ps_for (passes_of rfl) rfl (pi_range1 (by rfl) T.b_range (pa_cons (pv 4) pa_nil)) (pg_name (i:=7) nd rfl (by trivial)) (pss_cons (ps_set (i:=8) nd rfl (by trivial) (pe_lst pa_nil)) (pss_cons (ps_for (passes_of rfl) rfl (pi_range1 (by rfl) T.b_range (pa_cons (pv 3) pa_nil)) (pg_name (i:=9) nd rfl (by trivial)) (pss_cons (ps_set (i:=10) nd rfl (by trivial) (pe_callS G_m_stack_at (hr.mono (by decide)) (by rfl) g_m_stack_at k_m_stack_at b_m_stack_at (fun σ=>passAt (takes_of rfl rfl rfl rfl) σ) (pa_cons (pv 2) (pa_cons (pe_op op_add (pe_op op_mul (pv 7) (pv 3)) (pv 9)) pa_nil)))) (pss_cons (ps_if (pt_cmp (pc_dniO (hu1 hr) (pv 10) (pv 5))) (pss_cons (ps_dput (hu1 hr) (pv 5) (pv 10) (pe_callS G_m_colour_of (hr.mono (by decide)) (by rfl) g_m_colour_of k_m_colour_of b_m_colour_of (fun σ=>passAt (takes_of rfl rfl rfl rfl) σ) (pa_cons (pv 0) (pa_cons (pv 10) pa_nil))) rfl) pss_nil) pss_nil) (pss_cons (ps_expr (pe_bm PySem.F.plainAttrs_list PySem.F.slot_list_append PySem.F.type_list_append mt_append (pv 8) (pa_cons (pe_dgetO (hu1 hr) (pv 5) (pv 10)) pa_nil))) pss_nil)))) (pss_cons (ps_expr (pe_bm PySem.F.plainAttrs_list PySem.F.slot_list_append PySem.F.type_list_append mt_append (pv 6) (pa_cons (pv 8) pa_nil))) pss_nil)))) (pss_cons (ps_ret (pv 6)) pss_nil))))),?_⟩
  have hm:∀ x:(Str×(List (T3 Str Str (Str⊕(TZ (Str×Str))))))×(Int×Int)×(List Int)×Unit,(fun x:(Str×(List (T3 Str Str (Str⊕(TZ (Str×Str))))))×(Int×Int)×(List Int)×Unit=>m_pressed x.1 x.2.1 x.2.2.1) x = (m_pressed_b x.1 x.2.1 x.2.2.1).run:=fun _=>by unfold m_pressed; rfl
  have hN:N_pressed.length = Args.num ((Str×(List (T3 Str Str (Str⊕(TZ (Str×Str))))))×(Int×Int)×(List Int)×Unit) + 8:=rfl
  refine fn_run (Bs:=fun _=>uns 11) (n:=8) (m:=fun x=>m_pressed_b x.1 x.2.1 x.2.2.1) h ?hN ?hm ?hd
  case hN=>exact hN
  case hm=>exact hm
  intro W x
  obtain ⟨v_bench,v_size,v_states,⟨⟩⟩:=x
  show Den _ _ _ _ _ _ _ [(.fr v_bench),(.fr v_size),(.fr v_states),.un,.un,.un,.un,.un,.un,.un,.un] (m_pressed_b v_bench v_size v_states) (fun _=>uns 11)
  unfold m_pressed_b
  exact (d_let2 3 4 (e_var 1) fun v_wide_1 v_high_2=>(d_letN 5 (e_dnew rfl) fun v_known_3=>(d_letN 6 e_nilD fun v_picture_4=>(d_for (Bs:=(fun (s6:((Dk TK Str)×(DL Str)))=>[(.fr v_bench),(.fr v_size),(.fr v_states),(.fr v_wide_1),(.fr v_high_2),(.ow none s6.1),(.ow none s6.2),.un,.un,.un,.un])) (wk_uns rfl) (i_rng1 (exr_p (e_var 4))) (.same (.same (.same (.same (.same (.same (.same (.same (.same (.same (.same .nil))))))))))) (fun _ _=>(g_name 7)) (fun s6 x7 B36=>(d_letN 8 e_nil fun v_colours_8=>(d_for (Bs:=(fun (s10:((Dk TK Str)×(List Str)))=>[(.fr v_bench),(.fr v_size),(.fr v_states),(.fr v_wide_1),(.fr v_high_2),(.ow none s10.1),(.ow none s6.2),(.fr x7),(.ow none s10.2),.un,.un])) (wk_uns rfl) (i_rng1 (exr_p (e_var 3))) (.same (.same (.same (.same (.same (.same (.same (.same (.same (.same (.same .nil))))))))))) (fun _ _=>(g_name 9)) (fun s10 x11 B33=>(d_get 10 (wk_uns rfl) (r_call (aar_cons (exr_p (e_var 2)) (aar_cons (r_op2 (o_int fun i j=>i + j) (r_op2 o_mul (exr_p (e_var 7)) (exr_p (e_var 3))) (exr_p (e_var 9))) aar_nil))) fun v_stack_21=>(d_ifp (Bs:=(fun (s22:(Dk TK Str))=>[(.fr v_bench),(.fr v_size),(.fr v_states),(.fr v_wide_1),(.fr v_high_2),(.ow none s22),(.ow none s6.2),(.fr x7),(.ow none s10.2),(.fr x11),(.fr v_stack_21)])) (t_B (e_op2 o_dni (e_var 10) (e_varD 5) rfl)) (d_dput 5 rfl (wk_uns rfl) (r_call1 (aa_cons (e_var 0) (aa_cons (e_tk (e_var 10)) aa_nil)) rfl) (exr_p (e_var 10)) fun v_known_27=>(d_nx (.same (.same (.same (.same (.same (.same (.same (.same (.same (.same (.same .nil))))))))))))) (d_nx (.same (.same (.same (.same (.same (.same (.same (.same (.same (.same (.same .nil)))))))))))) (fun s22=>(d_app 8 rfl (wk_uns rfl) (r_op2 o_dget (exr_p (e_varD 5)) (exr_p (e_var 10))) fun v_colours_25=>(d_nx (.same (.same (.same (.same (.same (.same (.same (.same (.same (.drop (.drop .nil))))))))))))))))) (fun s30=>(d_appDv 6 8 rfl rfl (by decide) fun v_picture_31=>(d_nx (.same (.same (.same (.same (.same (.same (.same (.drop (.same (.same (.same .nil))))))))))))))))) (fun s34=>(d_retO 6 rfl rfl))))))
theorem ok_m_pressed (R0:Raw c.K mg "pressed" "pressed" s_pressed)
    (C_m_stack_at:Cal P w c.K mg base "stack_at" 1 ["states","bit"] (spF c (fun x:(List Int)×Int×Unit=>m_stack_at x.1 x.2.1) (fun x:TK=>kFr c.K x)))
    (C_m_colour_of:Cal P w c.K mg base "colour_of" 2 ["bench","stack"] (spF c (fun x:(Str×(List (T3 Str Str (Str⊕(TZ (Str×Str))))))×(Tup Int)×Unit=>m_colour_of x.1 x.2.1) (fun x:Str=>kFr c.K x))) :
    Cal P w c.K mg base "pressed" 3 ["bench","size","states"] (spF c (fun x:(Str×(List (T3 Str Str (Str⊕(TZ (Str×Str))))))×(Int×Int)×(List Int)×Unit=>m_pressed x.1 x.2.1 x.2.2.1) (fun x:(DL Str)=>kNw c.K x)):=by
  obtain ⟨f,fd,gf,F⟩:=R0.ex
  exact ⟨f,fd,gf,F.kp,F.binds fun _ _ _ _ _ _ us hl=>match us,hl with | [_,_,_],_=>rfl,ok_m_pressed_F T F C_m_stack_at C_m_colour_of⟩
theorem ok_m_Shop_shows_F {f:Addr} {fd:FuncData} (F:Fun c.K "shows" "Shop.shows" s_Shop_shows f fd)
    (C_m_Shop_look_at_known:CalM P w c.K mg base C_Shop "look_at_known" 1 ["self","name","names"] (spF c (fun x:O_Shop×Str×(Dq Str (List (Int×Int)))×Unit=>m_Shop_look_at_known x.1 x.2.1 x.2.2.1) (fun x:Unit=>kFr c.K x)))
    (C_m_pressed:Cal P w c.K mg base "pressed" 3 ["bench","size","states"] (spF c (fun x:(Str×(List (T3 Str Str (Str⊕(TZ (Str×Str))))))×(Int×Int)×(List Int)×Unit=>m_pressed x.1 x.2.1 x.2.2.1) (fun x:(DL Str)=>kNw c.K x))) :
    FnOk P w c.K mg base (L2.CX P w) 4 f fd ["self","sheet"] (spF c (fun x:O_Shop×Str×Unit=>m_Shop_shows x.1 x.2.1) (fun x:(DL Str)=>kNw c.K x)):=by
  obtain ⟨f_m_Shop_look_at_known,fd_m_Shop_look_at_known,M_m_Shop_look_at_known,b_m_Shop_look_at_known,G_m_Shop_look_at_known⟩:=C_m_Shop_look_at_known.ex
  obtain ⟨f_m_pressed,fd_m_pressed,g_m_pressed,k_m_pressed,b_m_pressed,G_m_pressed⟩:=C_m_pressed.ex
  have nd:=sc_Shop_shows.nd
  refine F.okX sc_Shop_shows (fun vs H Q E h=>spF_len vs H Q E h) (fun cdv A outer s H vs Q E hr h=>?_)
  refine ⟨_,(pss_cons (ps_expr (pe_methD G_m_Shop_look_at_known (hr.mono (by decide)) (pv 0) T.ct_Shop.cl M_m_Shop_look_at_known b_m_Shop_look_at_known (fun σ=>passAt (takes_of rfl rfl rfl rfl) σ) (pa_cons (pv 1) (pa_cons (pe_fldK (K:=c.K) (by rfl) (pv 0)) pa_nil)))) (pss_cons (ps_set (i:=2) nd rfl (by trivial) (pe_op op_rep (pe_lst (pa_cons pe_int pa_nil)) (pe_callB (r:=Fw.rLen c.K) call_len_seq (by rfl) T.b_len (by decide +kernel) (pa_cons (pe_ix (r:=rIxT c.K) ix_tup (pe_fldK (K:=c.K) (by rfl) (pv 0)) pe_int (fun _ _=>rfl)) pa_nil)))) (pss_cons (ps_for (passes_of rfl) rfl (pi_list (pe_dgetO (hu1 hr) (pe_fldK (K:=c.K) (by rfl) (pv 0)) (pv 1))) (pg_tup (by rfl) (pgs_cons (pg_name (i:=3) nd rfl (by trivial)) (pgs_cons (pg_name (i:=4) nd rfl (by trivial)) pgs_nil))) (pss_cons (ps_asg (pv 4) (pg_sub (pv 2) (pv 3) set_list)) pss_nil)) (pss_cons (ps_ret (pe_callS G_m_pressed (hr.mono (by decide)) (by rfl) g_m_pressed k_m_pressed b_m_pressed (fun σ=>passAt (takes_of rfl rfl rfl rfl) σ) (pa_cons (pe_fldK (K:=c.K) (by rfl) (pv 0)) (pa_cons (pe_fldK (K:=c.K) (by rfl) (pv 0)) (pa_cons (pv 2) pa_nil))))) pss_nil)))),?_⟩
  have hm:∀ x:O_Shop×Str×Unit,(fun x:O_Shop×Str×Unit=>m_Shop_shows x.1 x.2.1) x = (m_Shop_shows_b x.1 x.2.1).runX:=fun _=>by unfold m_Shop_shows; rfl
  have hN:N_Shop_shows.length = Args.num (O_Shop×Str×Unit) + 3:=rfl
  refine fn_runX (Bs:=fun _=>uns 5) (n:=3) (m:=fun x=>m_Shop_shows_b x.1 x.2.1) h ?hN ?hm ?hd
  case hN=>exact hN
  case hm=>exact hm
  intro W x
  obtain ⟨v_self,v_sheet,⟨⟩⟩:=x
  show Den _ _ _ _ _ _ _ [(.fr v_self),(.fr v_sheet),.un,.un,.un] (m_Shop_shows_b v_self v_sheet) (fun _=>uns 5)
  unfold m_Shop_shows_b
  exact (d_drop (kd:=fun (x:Unit)=>kFr c.K x) (wk_uns rfl) (r_meth (m:="look_at_known") (f:=(fun x:O_Shop×Str×(Dq Str (List (Int×Int)))×Unit=>m_Shop_look_at_known x.1 x.2.1 x.2.2.1)) T.ct_Shop (by decide +kernel) (exr_p (e_var 0)) (axr_p (k:=fun x=>kAs c.K x) (aa_cons (e_var 1) (aa_cons (e_gkq (e_fld ((Sel.here (by decide +kernel)):Sel (Fd (Fd (Fd (Fd (Fd Fn "bench" (Fr (Str×(List (T3 Str Str (Str⊕(TZ (Str×Str)))))))) "size" (Fr (Int×Int))) "states" (Fr (List Int))) "woods" (Dq Str Int)) "prints" (DGk Str (Int×Int))) (Fd (Fd (Fd (Fd (Fd Fn "bench" (Fr (Str×(List (T3 Str Str (Str⊕(TZ (Str×Str)))))))) "size" (Fr (Int×Int))) "states" (Fr (List Int))) "woods" (Dq Str Int)) "prints" (DGk Str (Int×Int))) "prints" (DGk Str (Int×Int)) (DGk Str (Int×Int))) T.ct_Shop (by decide +kernel) (e_var 0))) aa_nil)))) (d_getN 2 (wk_uns rfl) (r_op2 o_rep (exr_p (e_lsN (e_lst (xs:=[(0:Int)]) (a_cons (e_int _) a_nil) (szl (n:=1) rfl (by decide))))) (exr_p (e_opA (x:=(v_self.f.r.r.r.r.x.x.2,())) o_lenL (a_cons (e_sh (e_ixc (x:=v_self.f.r.r.r.r.x.x) p_1 (e_frx (e_fld ((Sel.up (Sel.up (Sel.up (Sel.up (Sel.here (by decide +kernel)))))):Sel (Fd (Fd (Fd (Fd (Fd Fn "bench" (Fr (Str×(List (T3 Str Str (Str⊕(TZ (Str×Str)))))))) "size" (Fr (Int×Int))) "states" (Fr (List Int))) "woods" (Dq Str Int)) "prints" (DGk Str (Int×Int))) (Fd (Fd (Fd (Fd (Fd Fn "bench" (Fr (Str×(List (T3 Str Str (Str⊕(TZ (Str×Str)))))))) "size" (Fr (Int×Int))) "states" (Fr (List Int))) "woods" (Dq Str Int)) "prints" (DGk Str (Int×Int))) "bench" (Fr (Str×(List (T3 Str Str (Str⊕(TZ (Str×Str))))))) (Fr (Str×(List (T3 Str Str (Str⊕(TZ (Str×Str)))))))) T.ct_Shop (by decide +kernel) (e_var 0))) (e_int _) rfl)) a_nil) rfl))) fun v_states_5=>(d_for (Bs:=(fun (s8:(List Int))=>[(.fr v_self),(.fr v_sheet),(.ow none s8),.un,.un])) (wk_uns rfl) (i_list (r_op2 o_dget (exr_p (e_qs (e_gkq (e_fld ((Sel.here (by decide +kernel)):Sel (Fd (Fd (Fd (Fd (Fd Fn "bench" (Fr (Str×(List (T3 Str Str (Str⊕(TZ (Str×Str)))))))) "size" (Fr (Int×Int))) "states" (Fr (List Int))) "woods" (Dq Str Int)) "prints" (DGk Str (Int×Int))) (Fd (Fd (Fd (Fd (Fd Fn "bench" (Fr (Str×(List (T3 Str Str (Str⊕(TZ (Str×Str)))))))) "size" (Fr (Int×Int))) "states" (Fr (List Int))) "woods" (Dq Str Int)) "prints" (DGk Str (Int×Int))) "prints" (DGk Str (Int×Int)) (DGk Str (Int×Int))) T.ct_Shop (by decide +kernel) (e_var 0))))) (exr_p (e_var 1)))) (.same (.same (.same (.same (.same .nil))))) (fun _ _=>(g_tup2 3 4)) (fun s8 x9 B15=>(d_setL 2 rfl (wk_uns rfl) (exr_p (e_var 4)) (exr_p (e_var 3)) fun v_states_10=>(d_nx (.same (.same (.same (.drop (.drop .nil)))))))) (fun s13=>(d_fz 2 rfl (d_retR (wk_uns rfl) (r_call1 (aa_cons (e_frx (e_fld ((Sel.up (Sel.up (Sel.up (Sel.up (Sel.here (by decide +kernel)))))):Sel (Fd (Fd (Fd (Fd (Fd Fn "bench" (Fr (Str×(List (T3 Str Str (Str⊕(TZ (Str×Str)))))))) "size" (Fr (Int×Int))) "states" (Fr (List Int))) "woods" (Dq Str Int)) "prints" (DGk Str (Int×Int))) (Fd (Fd (Fd (Fd (Fd Fn "bench" (Fr (Str×(List (T3 Str Str (Str⊕(TZ (Str×Str)))))))) "size" (Fr (Int×Int))) "states" (Fr (List Int))) "woods" (Dq Str Int)) "prints" (DGk Str (Int×Int))) "bench" (Fr (Str×(List (T3 Str Str (Str⊕(TZ (Str×Str))))))) (Fr (Str×(List (T3 Str Str (Str⊕(TZ (Str×Str)))))))) T.ct_Shop (by decide +kernel) (e_var 0))) (aa_cons (e_frx (e_fld ((Sel.up (Sel.up (Sel.up (Sel.here (by decide +kernel))))):Sel (Fd (Fd (Fd (Fd (Fd Fn "bench" (Fr (Str×(List (T3 Str Str (Str⊕(TZ (Str×Str)))))))) "size" (Fr (Int×Int))) "states" (Fr (List Int))) "woods" (Dq Str Int)) "prints" (DGk Str (Int×Int))) (Fd (Fd (Fd (Fd (Fd Fn "bench" (Fr (Str×(List (T3 Str Str (Str⊕(TZ (Str×Str)))))))) "size" (Fr (Int×Int))) "states" (Fr (List Int))) "woods" (Dq Str Int)) "prints" (DGk Str (Int×Int))) "size" (Fr (Int×Int)) (Fr (Int×Int))) T.ct_Shop (by decide +kernel) (e_var 0))) (aa_cons (e_var 2) aa_nil))) rfl)))))))
theorem ok_m_Shop_shows (R0:RawM c.K C_Shop "shows" "Shop.shows" s_Shop_shows)
    (C_m_Shop_look_at_known:CalM P w c.K mg base C_Shop "look_at_known" 1 ["self","name","names"] (spF c (fun x:O_Shop×Str×(Dq Str (List (Int×Int)))×Unit=>m_Shop_look_at_known x.1 x.2.1 x.2.2.1) (fun x:Unit=>kFr c.K x)))
    (C_m_pressed:Cal P w c.K mg base "pressed" 3 ["bench","size","states"] (spF c (fun x:(Str×(List (T3 Str Str (Str⊕(TZ (Str×Str))))))×(Int×Int)×(List Int)×Unit=>m_pressed x.1 x.2.1 x.2.2.1) (fun x:(DL Str)=>kNw c.K x))) :
    CalM P w c.K mg base C_Shop "shows" 4 ["self","sheet"] (spF c (fun x:O_Shop×Str×Unit=>m_Shop_shows x.1 x.2.1) (fun x:(DL Str)=>kNw c.K x)):=by
  obtain ⟨f,fd,M,F⟩:=R0.ex
  exact ⟨f,fd,M,F.binds fun _ _ _ _ _ _ us hl=>match us,hl with | [_,_],_=>rfl,ok_m_Shop_shows_F T F C_m_Shop_look_at_known C_m_pressed⟩
theorem ok_m_Shop_lacks_F {f:Addr} {fd:FuncData} (F:Fun c.K "lacks" "Shop.lacks" s_Shop_lacks f fd)
    (C_m_Shop_look_at_known:CalM P w c.K mg base C_Shop "look_at_known" 1 ["self","name","names"] (spF c (fun x:O_Shop×Str×(Dq Str (List (Int×Int)))×Unit=>m_Shop_look_at_known x.1 x.2.1 x.2.2.1) (fun x:Unit=>kFr c.K x))) :
    FnOk P w c.K mg base (L2.CX P w) 2 f fd ["self","sheet"] (spF c (fun x:O_Shop×Str×Unit=>m_Shop_lacks x.1 x.2.1) (fun x:(List Int)=>kNw c.K x)):=by
  obtain ⟨f_m_Shop_look_at_known,fd_m_Shop_look_at_known,M_m_Shop_look_at_known,b_m_Shop_look_at_known,G_m_Shop_look_at_known⟩:=C_m_Shop_look_at_known.ex
  have nd:=sc_Shop_lacks.nd
  refine F.okX sc_Shop_lacks (fun vs H Q E h=>spF_len vs H Q E h) (fun cdv A outer s H vs Q E hr h=>?_)
  refine ⟨_,(pss_cons (ps_expr (pe_methD G_m_Shop_look_at_known (hr.mono (by decide)) (pv 0) T.ct_Shop.cl M_m_Shop_look_at_known b_m_Shop_look_at_known (fun σ=>passAt (takes_of rfl rfl rfl rfl) σ) (pa_cons (pv 1) (pa_cons (pe_fldK (K:=c.K) (by rfl) (pv 0)) pa_nil)))) (pss_cons (ps_set (i:=2) nd rfl (by trivial) (pe_lc (own:=[("number",3),("some",4)]) (g:=gTup c.K 2 (gCons (gName 3) (gCons (gName 4) gNil))) (by rfl) nd (pi_list (pe_dgetO (hu1 hr) (pe_fldK (K:=c.K) (by rfl) (pv 0)) (pv 1))) (blkOk_by (own:=[("number",3),("some",4)]) (N:=N_Shop_lacks) (sc:=(defScope s_Shop_lacks)) (by decide +kernel)) (fun _ _ _ _ _=>(pg_tup (by rfl) (pgs_cons (pg_name (i:=3) nd rfl (by trivial)) (pgs_cons (pg_name (i:=4) nd rfl (by trivial)) pgs_nil)))) (fun _ _ _ _ _=>pts_nil) (fun _ _ _ _ _=>(pv 3)))) (pss_cons (ps_ret (pe_lc (own:=[("number",3)]) (by rfl) nd (pi_range1 (by rfl) T.b_range (pa_cons (pe_callB (r:=Fw.rLen c.K) call_len_seq (by rfl) T.b_len (by decide +kernel) (pa_cons (pe_ix (r:=rIxT c.K) ix_tup (pe_fldK (K:=c.K) (by rfl) (pv 0)) pe_int (fun _ _=>rfl)) pa_nil)) pa_nil)) (blkOk_by (own:=[("number",3)]) (N:=N_Shop_lacks) (sc:=(defScope s_Shop_lacks)) (by decide +kernel)) (fun _ _ _ _ _=>(pg_name (i:=3) nd rfl (by trivial))) (fun _ _ _ _ _=>(pts_one (pt_cmpR (r:=rNotInD c.K) (op_notInD (hu65 hr)) (pv 3) (pv 2) (by rfl)))) (fun _ _ _ _ _=>(pv 3)))) pss_nil))),?_⟩
  have hm:∀ x:O_Shop×Str×Unit,(fun x:O_Shop×Str×Unit=>m_Shop_lacks x.1 x.2.1) x = (m_Shop_lacks_b x.1 x.2.1).runX:=fun _=>by unfold m_Shop_lacks; rfl
  have hN:N_Shop_lacks.length = Args.num (O_Shop×Str×Unit) + 3:=rfl
  refine fn_runX (Bs:=fun _=>uns 5) (n:=3) (m:=fun x=>m_Shop_lacks_b x.1 x.2.1) h ?hN ?hm ?hd
  case hN=>exact hN
  case hm=>exact hm
  intro W x
  obtain ⟨v_self,v_sheet,⟨⟩⟩:=x
  show Den _ _ _ _ _ _ _ [(.fr v_self),(.fr v_sheet),.un,.un,.un] (m_Shop_lacks_b v_self v_sheet) (fun _=>uns 5)
  unfold m_Shop_lacks_b
  exact (d_drop (kd:=fun (x:Unit)=>kFr c.K x) (wk_uns rfl) (r_meth (m:="look_at_known") (f:=(fun x:O_Shop×Str×(Dq Str (List (Int×Int)))×Unit=>m_Shop_look_at_known x.1 x.2.1 x.2.2.1)) T.ct_Shop (by decide +kernel) (exr_p (e_var 0)) (axr_p (k:=fun x=>kAs c.K x) (aa_cons (e_var 1) (aa_cons (e_gkq (e_fld ((Sel.here (by decide +kernel)):Sel (Fd (Fd (Fd (Fd (Fd Fn "bench" (Fr (Str×(List (T3 Str Str (Str⊕(TZ (Str×Str)))))))) "size" (Fr (Int×Int))) "states" (Fr (List Int))) "woods" (Dq Str Int)) "prints" (DGk Str (Int×Int))) (Fd (Fd (Fd (Fd (Fd Fn "bench" (Fr (Str×(List (T3 Str Str (Str⊕(TZ (Str×Str)))))))) "size" (Fr (Int×Int))) "states" (Fr (List Int))) "woods" (Dq Str Int)) "prints" (DGk Str (Int×Int))) "prints" (DGk Str (Int×Int)) (DGk Str (Int×Int))) T.ct_Shop (by decide +kernel) (e_var 0))) aa_nil)))) (d_get 2 (wk_uns rfl) (r_fz (r_lcM (ixh (i_list (r_op2 o_dget (exr_p (e_qs (e_gkq (e_fld ((Sel.here (by decide +kernel)):Sel (Fd (Fd (Fd (Fd (Fd Fn "bench" (Fr (Str×(List (T3 Str Str (Str⊕(TZ (Str×Str)))))))) "size" (Fr (Int×Int))) "states" (Fr (List Int))) "woods" (Dq Str Int)) "prints" (DGk Str (Int×Int))) (Fd (Fd (Fd (Fd (Fd Fn "bench" (Fr (Str×(List (T3 Str Str (Str⊕(TZ (Str×Str)))))))) "size" (Fr (Int×Int))) "states" (Fr (List Int))) "woods" (Dq Str Int)) "prints" (DGk Str (Int×Int))) "prints" (DGk Str (Int×Int)) (DGk Str (Int×Int))) T.ct_Shop (by decide +kernel) (e_var 0))))) (exr_p (e_var 1))))) (gs_tup2 3 4) (fun x5=>(e_var 3)))) fun v_there_7=>(d_retR (wk_uns rfl) (r_lcT (ixh (i_rng1 (exr_p (e_opA (x:=(v_self.f.r.r.r.r.x.x.2,())) o_lenL (a_cons (e_sh (e_ixc (x:=v_self.f.r.r.r.r.x.x) p_1 (e_frx (e_fld ((Sel.up (Sel.up (Sel.up (Sel.up (Sel.here (by decide +kernel)))))):Sel (Fd (Fd (Fd (Fd (Fd Fn "bench" (Fr (Str×(List (T3 Str Str (Str⊕(TZ (Str×Str)))))))) "size" (Fr (Int×Int))) "states" (Fr (List Int))) "woods" (Dq Str Int)) "prints" (DGk Str (Int×Int))) (Fd (Fd (Fd (Fd (Fd Fn "bench" (Fr (Str×(List (T3 Str Str (Str⊕(TZ (Str×Str)))))))) "size" (Fr (Int×Int))) "states" (Fr (List Int))) "woods" (Dq Str Int)) "prints" (DGk Str (Int×Int))) "bench" (Fr (Str×(List (T3 Str Str (Str⊕(TZ (Str×Str))))))) (Fr (Str×(List (T3 Str Str (Str⊕(TZ (Str×Str)))))))) T.ct_Shop (by decide +kernel) (e_var 0))) (e_int _) rfl)) a_nil) rfl)))) (gs_name 3) (fun x9=>(t_e (e_op2 (o_ninD (α:=Int)) (e_bw (e_var 3)) (e_bw (e_var 2)) rfl))) (fun x9=>(e_var 3))))))
theorem ok_m_Shop_lacks (R0:RawM c.K C_Shop "lacks" "Shop.lacks" s_Shop_lacks)
    (C_m_Shop_look_at_known:CalM P w c.K mg base C_Shop "look_at_known" 1 ["self","name","names"] (spF c (fun x:O_Shop×Str×(Dq Str (List (Int×Int)))×Unit=>m_Shop_look_at_known x.1 x.2.1 x.2.2.1) (fun x:Unit=>kFr c.K x))) :
    CalM P w c.K mg base C_Shop "lacks" 2 ["self","sheet"] (spF c (fun x:O_Shop×Str×Unit=>m_Shop_lacks x.1 x.2.1) (fun x:(List Int)=>kNw c.K x)):=by
  obtain ⟨f,fd,M,F⟩:=R0.ex
  exact ⟨f,fd,M,F.binds fun _ _ _ _ _ _ us hl=>match us,hl with | [_,_],_=>rfl,ok_m_Shop_lacks_F T F C_m_Shop_look_at_known⟩
theorem ok_m_kind_F {f:Addr} {fd:FuncData} (F:Fun c.K "_law_kind" "_law_kind" s_kind f fd) :
    FnOk P w c.K mg base (L2.CX P w) 1 f fd ["_law_error"] (spF c (fun x:(Option Exc)×Unit=>m_kind x.1) (fun x:(List (Dy 0))=>kNw c.K x)):=by
  have nd:=sc_kind.nd
  refine F.okX sc_kind (fun vs H Q E h=>spF_len vs H Q E h) (fun cdv A outer s H vs Q E hr h=>?_)
  refine ⟨_,(pss_cons (ps_if (pt_val (pe_callB (r:=rIsKO c.K) call_isKO (by rfl) T.b_isinstance (by decide +kernel) (pa_cons (pv 0) (pa_cons (pe_glob (v:=.ref C_Wrong) rfl T.g_Wrong rfl) pa_nil)))) (pss_cons (ps_ret (pe_lst (pa_cons pe_str (pa_cons (pe_xkK (K:=c.K) rfl (pv 0)) (pa_cons (pe_xkK (K:=c.K) rfl (pv 0)) pa_nil))))) pss_nil) pss_nil) (pss_cons (ps_set (i:=1) nd rfl (by trivial) (pe_lst (pa_cons (pe_callB (r:=rIsKO c.K) call_isKO (by rfl) T.b_isinstance (by decide +kernel) (pa_cons (pv 0) (pa_cons (pe_glob (v:=.ref C_NoName) rfl T.g_NoName rfl) pa_nil))) (pa_cons (pe_callB (r:=rIsKO c.K) call_isKO (by rfl) T.b_isinstance (by decide +kernel) (pa_cons (pv 0) (pa_cons (pe_glob (v:=.ref C_Twice) rfl T.g_Twice rfl) pa_nil))) (pa_cons (pe_callB (r:=rIsKO c.K) call_isKO (by rfl) T.b_isinstance (by decide +kernel) (pa_cons (pv 0) (pa_cons (pe_glob (v:=.ref C_Order) rfl T.g_Order rfl) pa_nil))) (pa_cons (pe_callB (r:=rIsKO c.K) call_isKO (by rfl) T.b_isinstance (by decide +kernel) (pa_cons (pv 0) (pa_cons (pe_glob (v:=.ref C_NoStroke) rfl T.g_NoStroke rfl) pa_nil))) pa_nil)))))) (pss_cons (ps_ret (pe_op op_cat (pe_lst (pa_cons (pe_and (pe_callB (r:=rIsKO c.K) call_isKO (by rfl) T.b_isinstance (by decide +kernel) (pa_cons (pv 0) (pa_cons (pe_glob (v:=.ref C_BlockError) rfl T.g_BlockError rfl) pa_nil))) (pe_one (pe_callB (r:=rIsKO c.K) call_isKO (by rfl) T.b_isinstance (by decide +kernel) (pa_cons (pv 0) (pa_cons (pe_bltn (v:=.ty "ValueError") (by rfl) T.b_ValueError (by decide +kernel) rfl) pa_nil))))) pa_nil)) (pv 1))) pss_nil))),?_⟩
  have hm:∀ x:(Option Exc)×Unit,(fun x:(Option Exc)×Unit=>m_kind x.1) x = (m_kind_b x.1).run:=fun _=>by unfold m_kind; rfl
  have hN:N_kind.length = Args.num ((Option Exc)×Unit) + 1:=rfl
  refine fn_run (Bs:=fun _=>uns 2) (n:=1) (m:=fun x=>m_kind_b x.1) h ?hN ?hm ?hd
  case hN=>exact hN
  case hm=>exact hm
  intro W x
  obtain ⟨v_error,⟨⟩⟩:=x
  show Den _ _ _ _ _ _ _ [(.fr v_error),.un] (m_kind_b v_error) (fun _=>uns 2)
  unfold m_kind_b
  exact (d_ifa (wk_uns rfl) (tr_B (r_opA (o_isKO (cv:=(.ref C_Wrong)) (cV:=(.ref C_Wrong)) ([("NoName",false),("Twice",false)]:List (Str×Bool)) (fun u h=>h) T.k_Wrong (.own _) T.kn_Wrong) (ar_cons (exr_p (e_var 0)) (axr_p (k:=fun _=>aCons (kV (.ref C_Wrong)) aNil) (x:=()) (a_cons (e_ref C_Wrong) a_nil))))) (d_retR (wk_uns rfl) (r_lst (g:=fun z14=>[z14.1,z14.2.1,z14.2.2.1]) (ar_cons (k:=fun (x:(Dy 0))=>kFr c.K x) (exr_p (e_as (f:=dyOf 0) (dy_rep (by decide)) (e_str _))) (ar_cons (k:=fun (x:(Dy 0))=>kFr c.K x) (r_as (f:=dyOf 0) (dy_rep (by decide)) (r_fld "column" (r_get (exr_p (e_var 0))) ([]:List Str) T.f_column)) (ar_cons (k:=fun (x:(Dy 0))=>kFr c.K x) (r_as (f:=dyOf 0) (dy_rep (by decide)) (r_fld "row" (r_get (exr_p (e_var 0))) ([]:List Str) T.f_row)) (axr_p (k:=fun _=>aNil) a_nil)))) (fun _=>rfl) (fun _=>szl (n:=3) rfl (by decide)))) (d_get 1 (wk_uns rfl) (r_fz (r_lst (g:=fun z35=>[z35.1,z35.2.1,z35.2.2.1,z35.2.2.2.1]) (ar_cons (k:=fun (x:Bool)=>kFr c.K x) (r_opA (o_isKO (cv:=(.ref C_NoName)) (cV:=(.ref C_NoName)) ([("NoName",true),("Twice",false)]:List (Str×Bool)) (fun u h=>h) T.k_NoName (.own _) T.kn_NoName) (ar_cons (exr_p (e_var 0)) (axr_p (k:=fun _=>aCons (kV (.ref C_NoName)) aNil) (x:=()) (a_cons (e_ref C_NoName) a_nil)))) (ar_cons (k:=fun (x:Bool)=>kFr c.K x) (r_opA (o_isKO (cv:=(.ref C_Twice)) (cV:=(.ref C_Twice)) ([("NoName",false),("Twice",true)]:List (Str×Bool)) (fun u h=>h) T.k_Twice (.own _) T.kn_Twice) (ar_cons (exr_p (e_var 0)) (axr_p (k:=fun _=>aCons (kV (.ref C_Twice)) aNil) (x:=()) (a_cons (e_ref C_Twice) a_nil)))) (ar_cons (k:=fun (x:Bool)=>kFr c.K x) (r_opA (o_isKO (cv:=(.ref C_Order)) (cV:=(.ref C_Order)) ([("NoName",false),("Twice",false)]:List (Str×Bool)) (fun u h=>h) T.k_Order (.own _) T.kn_Order) (ar_cons (exr_p (e_var 0)) (axr_p (k:=fun _=>aCons (kV (.ref C_Order)) aNil) (x:=()) (a_cons (e_ref C_Order) a_nil)))) (ar_cons (k:=fun (x:Bool)=>kFr c.K x) (r_opA (o_isKO (cv:=(.ref C_NoStroke)) (cV:=(.ref C_NoStroke)) ([("NoName",false),("Twice",false)]:List (Str×Bool)) (fun u h=>h) T.k_NoStroke (.own _) T.kn_NoStroke) (ar_cons (exr_p (e_var 0)) (axr_p (k:=fun _=>aCons (kV (.ref C_NoStroke)) aNil) (x:=()) (a_cons (e_ref C_NoStroke) a_nil)))) (axr_p (k:=fun _=>aNil) a_nil))))) (fun _=>rfl) (fun _=>szl (n:=4) rfl (by decide)))) fun v_seen_36=>(d_retR (wk_uns rfl) (r_op2 o_cat (r_lsN (r_lst (g:=fun z46=>[z46.1]) (ar_cons (k:=fun (x:(Dy 0))=>kFr c.K x) (r_as (f:=dyOf 0) (dy_rep (by decide)) (r_andV (r_opA (o_isKO (cv:=(.ref C_BlockError)) (cV:=(.ref C_BlockError)) ([("NoName",true),("Twice",true)]:List (Str×Bool)) (fun u h=>h) T.k_BlockError (.own _) T.kn_BlockError) (ar_cons (exr_p (e_var 0)) (axr_p (k:=fun _=>aCons (kV (.ref C_BlockError)) aNil) (x:=()) (a_cons (e_ref C_BlockError) a_nil)))) (r_opA (o_isKO (cv:=(.ty "ValueError")) (cV:=(.type "ValueError")) ([("NoName",true),("Twice",true)]:List (Str×Bool)) (fun u h=>h) T.k_ValueError (.ty _) T.kn_ValueError) (ar_cons (exr_p (e_var 0)) (axr_p (k:=fun _=>aCons (kV (.ty "ValueError")) aNil) (x:=()) (a_cons (e_ty "ValueError") a_nil)))))) (axr_p (k:=fun _=>aNil) a_nil)) (fun _=>rfl) (fun _=>szl (n:=1) rfl (by decide)))) (exr_p (e_lsF (e_as (f:=dysOf 0) (dys_rep (by decide)) (e_var 1))))))))
theorem ok_m_kind (R0:Raw c.K mg "_law_kind" "_law_kind" s_kind) :
    Cal P w c.K mg base "_law_kind" 1 ["_law_error"] (spF c (fun x:(Option Exc)×Unit=>m_kind x.1) (fun x:(List (Dy 0))=>kNw c.K x)):=by
  obtain ⟨f,fd,gf,F⟩:=R0.ex
  exact ⟨f,fd,gf,F.kp,F.binds fun _ _ _ _ _ _ us hl=>match us,hl with | [_],_=>rfl,ok_m_kind_F T F⟩
theorem ok_m_done_F {f:Addr} {fd:FuncData} (F:Fun c.K "_law_done" "_law_done" s_done f fd)
    (C_m_Shop_block:CalM P w c.K mg base C_Shop "block" 3 ["self","name"] (spM c (fun (x:O_Shop) (a:Str×Unit)=>m_Shop_block x a.1) (fun x:Unit=>kFr c.K x)))
    (C_m_Shop_sheet:CalM P w c.K mg base C_Shop "sheet" 3 ["self","name"] (spM c (fun (x:O_Shop) (a:Str×Unit)=>m_Shop_sheet x a.1) (fun x:Unit=>kFr c.K x)))
    (C_m_Shop_spoil:CalM P w c.K mg base C_Shop "spoil" 2 ["self","name"] (spM c (fun (x:O_Shop) (a:Str×Unit)=>m_Shop_spoil x a.1) (fun x:Unit=>kFr c.K x)))
    (C_m_Shop_wood:CalM P w c.K mg base C_Shop "wood" 2 ["self","name"] (spF c (fun x:O_Shop×Str×Unit=>m_Shop_wood x.1 x.2.1) (fun x:Int=>kFr c.K x)))
    (C_m_Shop_shows:CalM P w c.K mg base C_Shop "shows" 4 ["self","sheet"] (spF c (fun x:O_Shop×Str×Unit=>m_Shop_shows x.1 x.2.1) (fun x:(DL Str)=>kNw c.K x)))
    (C_m_Shop_lacks:CalM P w c.K mg base C_Shop "lacks" 2 ["self","sheet"] (spF c (fun x:O_Shop×Str×Unit=>m_Shop_lacks x.1 x.2.1) (fun x:(List Int)=>kNw c.K x)))
    (C_m_kind:Cal P w c.K mg base "_law_kind" 1 ["_law_error"] (spF c (fun x:(Option Exc)×Unit=>m_kind x.1) (fun x:(List (Dy 0))=>kNw c.K x))) :
    FnOk P w c.K mg base (L2.CX P w) 5 f fd ["_law_shop","_law_way","_law_name"] (spIO c (fun (a:Unit) (x:O_Shop) (b:Int×Str×Unit)=>m_done x b.1 b.2.1) (fun x:((List (Dy 0))×(Option (Int⊕((List (List Str))⊕(List Int)))))=>kFr c.K x)):=by
  obtain ⟨f_m_Shop_block,fd_m_Shop_block,M_m_Shop_block,b_m_Shop_block,G_m_Shop_block⟩:=C_m_Shop_block.ex
  obtain ⟨f_m_Shop_sheet,fd_m_Shop_sheet,M_m_Shop_sheet,b_m_Shop_sheet,G_m_Shop_sheet⟩:=C_m_Shop_sheet.ex
  obtain ⟨f_m_Shop_spoil,fd_m_Shop_spoil,M_m_Shop_spoil,b_m_Shop_spoil,G_m_Shop_spoil⟩:=C_m_Shop_spoil.ex
  obtain ⟨f_m_Shop_wood,fd_m_Shop_wood,M_m_Shop_wood,b_m_Shop_wood,G_m_Shop_wood⟩:=C_m_Shop_wood.ex
  obtain ⟨f_m_Shop_shows,fd_m_Shop_shows,M_m_Shop_shows,b_m_Shop_shows,G_m_Shop_shows⟩:=C_m_Shop_shows.ex
  obtain ⟨f_m_Shop_lacks,fd_m_Shop_lacks,M_m_Shop_lacks,b_m_Shop_lacks,G_m_Shop_lacks⟩:=C_m_Shop_lacks.ex
  obtain ⟨f_m_kind,fd_m_kind,g_m_kind,k_m_kind,b_m_kind,G_m_kind⟩:=C_m_kind.ex
  have nd:=sc_done.nd
  refine F.okX sc_done (fun vs H Q E h=>spIO_len vs H Q E h) (fun cdv A outer s H vs Q E hr h=>?_)
  refine ⟨_,(pss_cons (ps_set (i:=3) nd rfl (by trivial) pe_non) (pss_cons (ps_set (i:=4) nd rfl (by trivial) pe_non) (pss_cons (ps_try_kept (i:=5) rfl rfl nd rfl (by rfl) ⟨by rfl,by decide,.inl T.g_BlockError⟩ (fun W pn xe tk hp=>(pss_cons (ps_if (pt_cmpR op_eq (pv 1) pe_int (nomark _)) (pss_cons (ps_expr (pe_methD G_m_Shop_block (hr.mono (by decide)) (pv 0) T.ct_Shop.cl M_m_Shop_block b_m_Shop_block (fun σ=>passAt tk σ) (pa_cons (pv 2) pa_nil))) pss_nil) (pss_cons (ps_if (pt_cmpR op_eq (pv 1) pe_int (nomark _)) (pss_cons (ps_expr (pe_methD G_m_Shop_sheet (hr.mono (by decide)) (pv 0) T.ct_Shop.cl M_m_Shop_sheet b_m_Shop_sheet (fun σ=>passAt tk σ) (pa_cons (pv 2) pa_nil))) pss_nil) (pss_cons (ps_if (pt_cmpR op_eq (pv 1) pe_int (nomark _)) (pss_cons (ps_expr (pe_methD G_m_Shop_spoil (hr.mono (by decide)) (pv 0) T.ct_Shop.cl M_m_Shop_spoil b_m_Shop_spoil (fun σ=>passAt tk σ) (pa_cons (pv 2) pa_nil))) pss_nil) (pss_cons (ps_if (pt_cmpR op_eq (pv 1) pe_int (nomark _)) (pss_cons (ps_set (i:=4) nd rfl (by trivial) (pe_methD G_m_Shop_wood (hr.mono (by decide)) (pv 0) T.ct_Shop.cl M_m_Shop_wood b_m_Shop_wood (fun σ=>passAt tk σ) (pa_cons (pv 2) pa_nil))) pss_nil) (pss_cons (ps_if (pt_cmpR op_eq (pv 1) pe_int (nomark _)) (pss_cons (ps_set (i:=4) nd rfl (by trivial) (pe_methD G_m_Shop_shows (hr.mono (by decide)) (pv 0) T.ct_Shop.cl M_m_Shop_shows b_m_Shop_shows (fun σ=>passAt tk σ) (pa_cons (pv 2) pa_nil))) pss_nil) (pss_cons (ps_set (i:=4) nd rfl (by trivial) (pe_methD G_m_Shop_lacks (hr.mono (by decide)) (pv 0) T.ct_Shop.cl M_m_Shop_lacks b_m_Shop_lacks (fun σ=>passAt tk σ) (pa_cons (pv 2) pa_nil))) pss_nil)) pss_nil)) pss_nil)) pss_nil)) pss_nil)) pss_nil)) (fun a pn=>(pss_cons (ps_set (i:=3) nd rfl (by trivial) (pv 5)) pss_nil))) (pss_cons (ps_ret (pe_tup (pa_cons (pe_callS G_m_kind (hr.mono (by decide)) (by rfl) g_m_kind k_m_kind b_m_kind (fun σ=>passAt (takes_of rfl rfl rfl rfl) σ) (pa_cons (pv 3) pa_nil)) (pa_cons (pv 4) pa_nil)))) pss_nil)))),?_⟩
  refine fn_ioR (n:=3) (m:=fun a x b=>m_done_b x b.1 b.2.1) plain_fr h ?hN ?hm ?hd
  case hN=>exact rfl
  case hm=>exact fun _ _ _=>by unfold m_done; rfl
  intro W a v_shop b pinv
  obtain ⟨⟩:=a
  obtain ⟨v_way,v_name,⟨⟩⟩:=b
  show Den _ _ _ _ _ _ _ [(.ow (some pinv) v_shop),(.fr v_way),(.fr v_name),.un,.un,.un] (m_done_b v_shop v_way v_name) noSl
  unfold m_done_b
  exact (d_let 3 (e_none e_unit) fun v_error_1=>(d_let 4 (e_none e_unit) fun v_found_2=>(Fw.d_seq (Bs:=(fun (s4:(O_Shop×(Option Exc)×(Option (Int⊕((List (List Str))⊕(List Int))))))=>[(.ow (some pinv) s4.1),(.fr v_way),(.fr v_name),(.fr s4.2.1),(.fr s4.2.2),.un])) (d_tryE (Js':=uns 6) (Cs:=fun (e3:Exc)=>(fun (s4:(O_Shop×(Option Exc)×(Option (Int⊕((List (List Str))⊕(List Int))))))=>[(.ow (some pinv) s4.1),(.fr v_way),(.fr v_name),(.fr s4.2.1),(.fr s4.2.2),(.fr e3)])) 5 (["NoName","Twice"]:List Str) T.h_BlockError (fun W=>(d_ifp (Bs:=(fun (s5:(O_Shop×(Option (Int⊕((List (List Str))⊕(List Int))))))=>[(.ow (some pinv) s5.1),(.fr v_way),(.fr v_name),(.fr v_error_1),(.fr s5.2),.un])) (t_e (e_op2 o_eq (e_var 1) (e_int _) rfl)) (d_callS (m:="block") (f:=(fun (x:O_Shop) (a:Str×Unit)=>m_Shop_block x a.1)) T.ct_Shop (by decide +kernel) 0 rfl (.same (.same (.same (.same (.same (.same .nil)))))) (axr_p (k:=fun x=>kAs c.K x) (aa_cons (e_var 2) aa_nil)) fun v_shop_6=>(d_nx (.same (.same (.same (.same (.same (.same .nil)))))))) (d_ifp (Bs:=(fun (s9:(O_Shop×(Option (Int⊕((List (List Str))⊕(List Int))))))=>[(.ow (some pinv) s9.1),(.fr v_way),(.fr v_name),(.fr v_error_1),(.fr s9.2),.un])) (t_e (e_op2 o_eq (e_var 1) (e_int _) rfl)) (d_callS (m:="sheet") (f:=(fun (x:O_Shop) (a:Str×Unit)=>m_Shop_sheet x a.1)) T.ct_Shop (by decide +kernel) 0 rfl (.same (.same (.same (.same (.same (.same .nil)))))) (axr_p (k:=fun x=>kAs c.K x) (aa_cons (e_var 2) aa_nil)) fun v_shop_10=>(d_nx (.same (.same (.same (.same (.same (.same .nil)))))))) (d_ifp (Bs:=(fun (s13:(O_Shop×(Option (Int⊕((List (List Str))⊕(List Int))))))=>[(.ow (some pinv) s13.1),(.fr v_way),(.fr v_name),(.fr v_error_1),(.fr s13.2),.un])) (t_e (e_op2 o_eq (e_var 1) (e_int _) rfl)) (d_callS (m:="spoil") (f:=(fun (x:O_Shop) (a:Str×Unit)=>m_Shop_spoil x a.1)) T.ct_Shop (by decide +kernel) 0 rfl (.same (.same (.same (.same (.same (.same .nil)))))) (axr_p (k:=fun x=>kAs c.K x) (aa_cons (e_var 2) aa_nil)) fun v_shop_14=>(d_nx (.same (.same (.same (.same (.same (.same .nil)))))))) (d_ifp (Bs:=(fun (s17:(Option (Int⊕((List (List Str))⊕(List Int)))))=>[(.ow (some pinv) v_shop),(.fr v_way),(.fr v_name),(.fr v_error_1),(.fr s17),.un])) (t_e (e_op2 o_eq (e_var 1) (e_int _) rfl)) (d_get 4 (.same (.same (.same (.same (.same (.same .nil)))))) (r_some (r_inl (r_fv (fun _=>kbk_fr) (.ow (.fr (.fr (.fr (.fr (.un .nil)))))) fun _=>(r_meth (m:="wood") (f:=(fun x:O_Shop×Str×Unit=>m_Shop_wood x.1 x.2.1)) T.ct_Shop (by decide +kernel) (exr_p (e_var 0)) (axr_p (k:=fun x=>kAs c.K x) (aa_cons (e_var 2) aa_nil)))))) fun v_found_22=>(d_nx (.same (.same (.same (.same (.same (.same .nil)))))))) (d_ifp (Bs:=(fun (s23:(Option (Int⊕((List (List Str))⊕(List Int)))))=>[(.ow (some pinv) v_shop),(.fr v_way),(.fr v_name),(.fr v_error_1),(.fr s23),.un])) (t_e (e_op2 o_eq (e_var 1) (e_int _) rfl)) (d_get 4 (.same (.same (.same (.same (.same (.same .nil)))))) (r_some (r_inr (r_inl (r_dl (r_fz (r_fv (fun _=>kbk_nw) (.ow (.fr (.fr (.fr (.fr (.un .nil)))))) fun _=>(r_meth (m:="shows") (f:=(fun x:O_Shop×Str×Unit=>m_Shop_shows x.1 x.2.1)) T.ct_Shop (by decide +kernel) (exr_p (e_var 0)) (axr_p (k:=fun x=>kAs c.K x) (aa_cons (e_var 2) aa_nil))))))))) fun v_found_30=>(d_nx (.same (.same (.same (.same (.same (.same .nil)))))))) (d_get 4 (.same (.same (.same (.same (.same (.same .nil)))))) (r_some (r_inr (r_inr (r_fz (r_fv (fun _=>kbk_nw) (.ow (.fr (.fr (.fr (.fr (.un .nil)))))) fun _=>(r_meth (m:="lacks") (f:=(fun x:O_Shop×Str×Unit=>m_Shop_lacks x.1 x.2.1)) T.ct_Shop (by decide +kernel) (exr_p (e_var 0)) (axr_p (k:=fun x=>kAs c.K x) (aa_cons (e_var 2) aa_nil)))))))) fun v_found_36=>(d_nx (.same (.same (.same (.same (.same (.same .nil)))))))) (fun s23=>(d_nx (.same (.same (.same (.same (.same (.same .nil))))))))) (fun s17=>(d_nx (.same (.same (.same (.same (.same (.same .nil))))))))) (fun s13=>(d_nx (.same (.same (.same (.same (.same (.same .nil))))))))) (fun s9=>(d_nx (.same (.same (.same (.same (.same (.same .nil))))))))) (fun s5=>(d_nx (.same (.same (.same (.same (.same (.same .nil)))))))))) (fun e3=>(d_let 3 (e_some (e_var 5)) fun v_error_37=>(d_nx (.same (.same (.same (.same (.same (.same .nil))))))))) (fun _ _=>Wk.refl) j_nil) (fun s4=>(d_retIO 0 rfl (wk_uns rfl) (r_pair (ar_cons (k:=fun (x:(List (Dy 0)))=>kFr c.K x) (r_fz (r_call1 (aa_cons (e_var 3) aa_nil) rfl)) (ar_cons (k:=fun (x:(Option (Int⊕((List (List Str))⊕(List Int)))))=>kFr c.K x) (exr_p (e_var 4)) (axr_p (k:=fun _=>aNil) a_nil)))))))))
theorem ok_m_done (R0:Raw c.K mg "_law_done" "_law_done" s_done)
    (C_m_Shop_block:CalM P w c.K mg base C_Shop "block" 3 ["self","name"] (spM c (fun (x:O_Shop) (a:Str×Unit)=>m_Shop_block x a.1) (fun x:Unit=>kFr c.K x)))
    (C_m_Shop_sheet:CalM P w c.K mg base C_Shop "sheet" 3 ["self","name"] (spM c (fun (x:O_Shop) (a:Str×Unit)=>m_Shop_sheet x a.1) (fun x:Unit=>kFr c.K x)))
    (C_m_Shop_spoil:CalM P w c.K mg base C_Shop "spoil" 2 ["self","name"] (spM c (fun (x:O_Shop) (a:Str×Unit)=>m_Shop_spoil x a.1) (fun x:Unit=>kFr c.K x)))
    (C_m_Shop_wood:CalM P w c.K mg base C_Shop "wood" 2 ["self","name"] (spF c (fun x:O_Shop×Str×Unit=>m_Shop_wood x.1 x.2.1) (fun x:Int=>kFr c.K x)))
    (C_m_Shop_shows:CalM P w c.K mg base C_Shop "shows" 4 ["self","sheet"] (spF c (fun x:O_Shop×Str×Unit=>m_Shop_shows x.1 x.2.1) (fun x:(DL Str)=>kNw c.K x)))
    (C_m_Shop_lacks:CalM P w c.K mg base C_Shop "lacks" 2 ["self","sheet"] (spF c (fun x:O_Shop×Str×Unit=>m_Shop_lacks x.1 x.2.1) (fun x:(List Int)=>kNw c.K x)))
    (C_m_kind:Cal P w c.K mg base "_law_kind" 1 ["_law_error"] (spF c (fun x:(Option Exc)×Unit=>m_kind x.1) (fun x:(List (Dy 0))=>kNw c.K x))) :
    Cal P w c.K mg base "_law_done" 5 ["_law_shop","_law_way","_law_name"] (spIO c (fun (a:Unit) (x:O_Shop) (b:Int×Str×Unit)=>m_done x b.1 b.2.1) (fun x:((List (Dy 0))×(Option (Int⊕((List (List Str))⊕(List Int)))))=>kFr c.K x)):=by
  obtain ⟨f,fd,gf,F⟩:=R0.ex
  exact ⟨f,fd,gf,F.kp,F.binds fun _ _ _ _ _ _ us hl=>match us,hl with | [_,_,_],_=>rfl,ok_m_done_F T F C_m_Shop_block C_m_Shop_sheet C_m_Shop_spoil C_m_Shop_wood C_m_Shop_shows C_m_Shop_lacks C_m_kind⟩
theorem ok_m_told_F {f:Addr} {fd:FuncData} (F:Fun c.K "_law_told" "_law_told" s_told f fd) :
    FnOk P w c.K mg base (L2.CX P w) 1 f fd ["_law_way","_law_name","_law_good","_law_there"] (spF c (fun x:Int×Str×Bool×((Dq Str Bool)×(Dq Str Bool))×Unit=>m_told x.1 x.2.1 x.2.2.1 x.2.2.2.1) (fun x:Str=>kFr c.K x)):=by
  have nd:=sc_told.nd
  refine F.okX sc_told (fun vs H Q E h=>spF_len vs H Q E h) (fun cdv A outer s H vs Q E hr h=>?_)
  refine ⟨_,(pss_cons (ps_if (PW.pt (pw_and (pt_cmpR op_lt (pv 0) pe_int (nomark _)) (pw_and1 (pt_not (pt_val (pv 2)))))) (pss_cons (ps_ret pe_str) pss_nil) pss_nil) (pss_cons (ps_if (PW.pt (pw_and (pt_cmpR op_lt (pv 0) pe_int (nomark _)) (pw_and1 (pt_cmp (pc_dinO (hu1 hr) (pv 1) (pe_ix (r:=rIxT c.K) ix_tup (pv 3) (pv 0) (fun _ _=>rfl))))))) (pss_cons (ps_ret pe_str) pss_nil) pss_nil) (pss_cons (ps_if (PW.pt (pw_or (PW.pt (pw_and (pt_cmpR op_eq (pv 0) pe_int (nomark _)) (pw_and1 (pt_cmp (pc_dniO (hu1 hr) (pv 1) (pe_ix (r:=rIxT c.K) ix_tup (pv 3) pe_int (fun _ _=>rfl))))))) (pw_or1 (PW.pt (pw_and (pt_cmpR (r:=rIn c.K false) op_in_seq (pv 0) (pe_tup (pa_cons pe_int (pa_cons pe_int (pa_cons pe_int pa_nil)))) (by rfl)) (pw_and1 (pt_cmp (pc_dniO (hu1 hr) (pv 1) (pe_ix (r:=rIxT c.K) ix_tup (pv 3) pe_int (fun _ _=>rfl)))))))))) (pss_cons (ps_ret pe_str) pss_nil) pss_nil) (pss_cons (ps_ret pe_str) pss_nil)))),?_⟩
  have hm:∀ x:Int×Str×Bool×((Dq Str Bool)×(Dq Str Bool))×Unit,(fun x:Int×Str×Bool×((Dq Str Bool)×(Dq Str Bool))×Unit=>m_told x.1 x.2.1 x.2.2.1 x.2.2.2.1) x = (m_told_b x.1 x.2.1 x.2.2.1 x.2.2.2.1).run:=fun _=>by unfold m_told; rfl
  have hN:N_told.length = Args.num (Int×Str×Bool×((Dq Str Bool)×(Dq Str Bool))×Unit) + 0:=rfl
  refine fn_run (Bs:=fun _=>uns 4) (n:=0) (m:=fun x=>m_told_b x.1 x.2.1 x.2.2.1 x.2.2.2.1) h ?hN ?hm ?hd
  case hN=>exact hN
  case hm=>exact hm
  intro W x
  obtain ⟨v_way,v_name,v_good,v_there,⟨⟩⟩:=x
  show Den _ _ _ _ _ _ _ [(.fr v_way),(.fr v_name),(.fr v_good),(.fr v_there)] (m_told_b v_way v_name v_good v_there) (fun _=>uns 4)
  unfold m_told_b
  exact (d_ifap (t_and (t_e (e_op2 (o_cmp fun i j=>decide (i < j)) (e_var 0) (e_int _) rfl)) (t_not (t_B (e_var 2)))) (d_ret (e_str _)) (d_ifa (wk_uns rfl) (tr_and (txr_p (t_e (e_op2 (o_cmp fun i j=>decide (i < j)) (e_var 0) (e_int _) rfl))) (tr_B (r_op2 o_din (exr_p (e_var 1)) (r_qs (r_op2 o_ix2 (exr_p (e_var 3)) (exr_p (e_var 0))))))) (d_ret (e_str _)) (d_ifap (t_or (t_and (t_e (e_op2 o_eq (e_var 0) (e_int _) rfl)) (t_B (e_op2 o_dni (e_var 1) (e_qs (e_ixc (x:=v_there) p_0 (e_var 3) (e_int _) rfl)) rfl))) (t_and (t_e (e_op2 o_inTup (e_var 0) (e_tupl (xs:=([(2:Int),(4:Int),(5:Int)]:List Int)) (a_cons (e_int _) (a_cons (e_int _) (a_cons (e_int _) a_nil))) (szl (n:=3) rfl (by decide))) rfl)) (t_B (e_op2 o_dni (e_var 1) (e_qs (e_ixc (x:=v_there) p_1 (e_var 3) (e_int _) rfl)) rfl)))) (d_ret (e_str _)) (d_ret (e_str _)))))
theorem ok_m_told (R0:Raw c.K mg "_law_told" "_law_told" s_told) :
    Cal P w c.K mg base "_law_told" 1 ["_law_way","_law_name","_law_good","_law_there"] (spF c (fun x:Int×Str×Bool×((Dq Str Bool)×(Dq Str Bool))×Unit=>m_told x.1 x.2.1 x.2.2.1 x.2.2.2.1) (fun x:Str=>kFr c.K x)):=by
  obtain ⟨f,fd,gf,F⟩:=R0.ex
  exact ⟨f,fd,gf,F.kp,F.binds fun _ _ _ _ _ _ us hl=>match us,hl with | [_,_,_,_],_=>rfl,ok_m_told_F T F⟩
theorem ok_m_due_F {f:Addr} {fd:FuncData} (F:Fun c.K "_law_due" "_law_due" s_due f fd) :
    FnOk P w c.K mg base (L2.CX P w) 1 f fd ["_law_word_here"] (spF c (fun x:Str×Unit=>m_due x.1) (fun x:(List (Dy 0))=>kNw c.K x)):=by
  have nd:=sc_due.nd
  refine F.okX sc_due (fun vs H Q E h=>spF_len vs H Q E h) (fun cdv A outer s H vs Q E hr h=>?_)
  refine ⟨_,(pss_cons (ps_if (pt_cmpR op_eq (pv 0) pe_str (nomark _)) (pss_cons (ps_ret (pe_lst (pa_cons pe_bl (pa_cons pe_bl (pa_cons pe_bl (pa_cons pe_bl (pa_cons pe_bl pa_nil))))))) pss_nil) pss_nil) (pss_cons (ps_ret (pe_op op_cat (pe_lst (pa_cons pe_bl pa_nil)) (pe_lc (own:=[("_law_one",1)]) (by rfl) nd (pi_list (pe_lst (pa_cons pe_str (pa_cons pe_str (pa_cons pe_str (pa_cons pe_str pa_nil)))))) (blkOk_by (own:=[("_law_one",1)]) (N:=N_due) (sc:=(defScope s_due)) (by decide +kernel)) (fun _ _ _ _ _=>(pg_name (i:=1) nd rfl (by trivial))) (fun _ _ _ _ _=>pts_nil) (fun _ _ _ _ _=>(pe_cmpR op_eq (pv 0) (pv 1) (nomark _)))))) pss_nil)),?_⟩
  have hm:∀ x:Str×Unit,(fun x:Str×Unit=>m_due x.1) x = (m_due_b x.1).run:=fun _=>by unfold m_due; rfl
  have hN:N_due.length = Args.num (Str×Unit) + 1:=rfl
  refine fn_run (Bs:=fun _=>uns 2) (n:=1) (m:=fun x=>m_due_b x.1) h ?hN ?hm ?hd
  case hN=>exact hN
  case hm=>exact hm
  intro W x
  obtain ⟨v_word_here,⟨⟩⟩:=x
  show Den _ _ _ _ _ _ _ [(.fr v_word_here),.un] (m_due_b v_word_here) (fun _=>uns 2)
  unfold m_due_b
  exact (d_ifap (t_e (e_op2 o_eq (e_var 0) (e_str _) rfl)) (d_ret (e_lst (xs:=[(dyOf 0 false),(dyOf 0 false),(dyOf 0 false),(dyOf 0 false),(dyOf 0 false)]) (a_cons (e_as (f:=dyOf 0) (dy_rep (by decide)) (e_bl _)) (a_cons (e_as (f:=dyOf 0) (dy_rep (by decide)) (e_bl _)) (a_cons (e_as (f:=dyOf 0) (dy_rep (by decide)) (e_bl _)) (a_cons (e_as (f:=dyOf 0) (dy_rep (by decide)) (e_bl _)) (a_cons (e_as (f:=dyOf 0) (dy_rep (by decide)) (e_bl _)) a_nil))))) (szl (n:=5) rfl (by decide)))) (d_retR (wk_uns rfl) (r_op2 o_cat (exr_p (e_lsN (e_lst (xs:=[(dyOf 0 true)]) (a_cons (e_as (f:=dyOf 0) (dy_rep (by decide)) (e_bl _)) a_nil) (szl (n:=1) rfl (by decide))))) (r_lsN (r_lcM (ixh (i_list (exr_p (e_fz (e_lst (xs:=[("NoName":Str),("Twice":Str),("Order":Str),("NoStroke":Str)]) (a_cons (e_str _) (a_cons (e_str _) (a_cons (e_str _) (a_cons (e_str _) a_nil)))) (szl (n:=4) rfl (by decide))))))) (gs_name 1) (fun x1=>(e_as (f:=dyOf 0) (dy_rep (by decide)) (e_op2 o_eq (e_var 0) (e_var 1) rfl))))))))
theorem ok_m_due (R0:Raw c.K mg "_law_due" "_law_due" s_due) :
    Cal P w c.K mg base "_law_due" 1 ["_law_word_here"] (spF c (fun x:Str×Unit=>m_due x.1) (fun x:(List (Dy 0))=>kNw c.K x)):=by
  obtain ⟨f,fd,gf,F⟩:=R0.ex
  exact ⟨f,fd,gf,F.kp,F.binds fun _ _ _ _ _ _ us hl=>match us,hl with | [_],_=>rfl,ok_m_due_F T F⟩
theorem ok_m_full_F {f:Addr} {fd:FuncData} (F:Fun c.K "_law_full" "_law_full" s_full f fd) :
    FnOk P w c.K mg base (L2.CX P w) 1 f fd ["_law_size_here"] (spF c (fun x:(Int×Int)×Unit=>m_full x.1) (fun x:Int=>kFr c.K x)):=by
  have nd:=sc_full.nd
  refine F.okX sc_full (fun vs H Q E h=>spF_len vs H Q E h) (fun cdv A outer s H vs Q E hr h=>?_)
  refine ⟨_,(pss_cons (ps_set (i:=1) nd rfl (by trivial) pe_int) (pss_cons (ps_for (passes_of rfl) rfl (pi_range1 (by rfl) T.b_range (pa_cons (pe_op op_mul (pe_ix (r:=rIxT c.K) ix_tup (pv 0) pe_int (fun _ _=>rfl)) (pe_ix (r:=rIxT c.K) ix_tup (pv 0) pe_int (fun _ _=>rfl))) pa_nil)) (pg_name (i:=2) nd rfl (by trivial)) (pss_cons (ps_set (i:=1) nd rfl (by trivial) (pe_op op_or (pv 1) (pe_op op_shl pe_int (pv 2)))) pss_nil)) (pss_cons (ps_ret (pv 1)) pss_nil))),?_⟩
  have hm:∀ x:(Int×Int)×Unit,(fun x:(Int×Int)×Unit=>m_full x.1) x = (m_full_b x.1).run:=fun _=>by unfold m_full; rfl
  have hN:N_full.length = Args.num ((Int×Int)×Unit) + 2:=rfl
  refine fn_run (Bs:=fun _=>uns 3) (n:=2) (m:=fun x=>m_full_b x.1) h ?hN ?hm ?hd
  case hN=>exact hN
  case hm=>exact hm
  intro W x
  obtain ⟨v_size_here,⟨⟩⟩:=x
  show Den _ _ _ _ _ _ _ [(.fr v_size_here),.un,.un] (m_full_b v_size_here) (fun _=>uns 3)
  unfold m_full_b
  exact (d_let 1 (e_int _) fun v_found_1=>(d_for (Bs:=(fun (s5:Int)=>[(.fr v_size_here),(.fr s5),.un])) (wk_uns rfl) (i_rng1 (r_op2 o_mul (exr_p (e_ixc (x:=v_size_here) p_0 (e_var 0) (e_int _) rfl)) (exr_p (e_ixc (x:=v_size_here) p_1 (e_var 0) (e_int _) rfl)))) (.same (.same (.same .nil))) (fun _ _=>(g_name 2)) (fun s5 x6 B14=>(d_get 1 (wk_uns rfl) (r_op2 (o_int Builtin.bitOr) (exr_p (e_var 1)) (r_op2 o_shl (exr_p (e_int _)) (exr_p (e_var 2)))) fun v_found_11=>(d_nx (.same (.same (.drop .nil)))))) (fun s12=>(d_ret (e_var 1)))))
theorem ok_m_full (R0:Raw c.K mg "_law_full" "_law_full" s_full) :
    Cal P w c.K mg base "_law_full" 1 ["_law_size_here"] (spF c (fun x:(Int×Int)×Unit=>m_full x.1) (fun x:Int=>kFr c.K x)):=by
  obtain ⟨f,fd,gf,F⟩:=R0.ex
  exact ⟨f,fd,gf,F.kp,F.binds fun _ _ _ _ _ _ us hl=>match us,hl with | [_],_=>rfl,ok_m_full_F T F⟩
theorem ok_m_colour_F {f:Addr} {fd:FuncData} (F:Fun c.K "_law_colour" "_law_colour" s_colour f fd) :
    FnOk P w c.K mg base (L2.CX P w) 1 f fd ["_law_bench_here","_law_numbers"] (spF c (fun x:(Str×(List (T3 Str Str (Str⊕(TZ (Str×Str))))))×(List Int)×Unit=>m_colour x.1 x.2.1) (fun x:Str=>kFr c.K x)):=by
  have nd:=sc_colour.nd
  refine F.okX sc_colour (fun vs H Q E h=>spF_len vs H Q E h) (fun cdv A outer s H vs Q E hr h=>?_)
  refine ⟨_,(pss_cons (ps_set (i:=2) nd rfl (by trivial) (pe_ix (r:=rIxT c.K) ix_tup (pv 0) pe_int (fun _ _=>rfl))) (pss_cons (ps_for (passes_of rfl) rfl (pi_list (pv 1)) (pg_name (i:=3) nd rfl (by trivial)) (pss_cons (ps_set (i:=4) nd rfl (by trivial) (pe_ix (r:=rIxL c.K) ix_list (pe_ix (r:=rIxT c.K) ix_tup (pv 0) pe_int (fun _ _=>rfl)) (pv 3) (fun _ _=>rfl))) (pss_cons (ps_if (pt_cmpR op_eq (pe_ix (r:=rIxT c.K) ix_tup (pv 4) pe_int (fun _ _=>rfl)) pe_str (nomark _)) (pss_cons (ps_set (i:=2) nd rfl (by trivial) (pe_ix (r:=rIxT c.K) ix_tup (pv 4) pe_int (fun _ _=>rfl))) pss_nil) (pss_cons (ps_setLc (i:=5) (own:=[("_law_pair",6)]) (by rfl) nd rfl (by rfl) (sw_true rfl (by rfl) rfl (by decide +kernel)) (pi_tup (pe_ix (r:=rIxT c.K) ix_tup (pv 4) pe_int (fun _ _=>rfl))) (blkOk_by (own:=[("_law_pair",6)]) (N:=N_colour) (sc:=(defScope s_colour)) (by decide +kernel)) (fun _ _ _ _ _=>(pg_name (i:=6) nd rfl (by trivial))) (fun _ _ _ _ _=>(pts_one (pt_cmpR op_eq (pe_ix (r:=rIxT c.K) ix_tup (pv 6) pe_int (fun _ _=>rfl)) (pv 2) (nomark _)))) (fun _ _ _ _ _=>(pv 6))) (pss_cons (ps_if (pt_cmpR (r:=rNeD c.K) (op_neD (hu64 hr)) (pv 5) (pe_lst pa_nil) (nomark _)) (pss_cons (ps_set (i:=2) nd rfl (by trivial) (pe_ix (r:=rIxT c.K) ix_tup (pe_ix (r:=rIxL c.K) ix_list (pv 5) pe_int (fun _ _=>rfl)) pe_int (fun _ _=>rfl))) pss_nil) pss_nil) pss_nil))) pss_nil))) (pss_cons (ps_ret (pv 2)) pss_nil))),?_⟩
  have hm:∀ x:(Str×(List (T3 Str Str (Str⊕(TZ (Str×Str))))))×(List Int)×Unit,(fun x:(Str×(List (T3 Str Str (Str⊕(TZ (Str×Str))))))×(List Int)×Unit=>m_colour x.1 x.2.1) x = (m_colour_b x.1 x.2.1).run:=fun _=>by unfold m_colour; rfl
  have hN:N_colour.length = Args.num ((Str×(List (T3 Str Str (Str⊕(TZ (Str×Str))))))×(List Int)×Unit) + 5:=rfl
  refine fn_run (Bs:=fun _=>uns 7) (n:=5) (m:=fun x=>m_colour_b x.1 x.2.1) h ?hN ?hm ?hd
  case hN=>exact hN
  case hm=>exact hm
  intro W x
  obtain ⟨v_bench_here,v_numbers,⟨⟩⟩:=x
  show Den _ _ _ _ _ _ _ [(.fr v_bench_here),(.fr v_numbers),.un,.un,.un,.un,.un] (m_colour_b v_bench_here v_numbers) (fun _=>uns 7)
  unfold m_colour_b
  exact (d_let 2 (e_ixc (x:=v_bench_here) p_0 (e_var 0) (e_int _) rfl) fun v_colour_here_1=>(d_for (Bs:=(fun (s2:Str)=>[(.fr v_bench_here),(.fr v_numbers),(.fr s2),.un,.un,.un,.un])) (wk_uns rfl) (i_list (exr_p (e_var 1))) (.same (.same (.same (.same (.same (.same (.same .nil))))))) (fun _ _=>(g_name 3)) (fun s2 x3 B21=>(d_get 4 (wk_uns rfl) (r_op2 o_ixL (exr_p (e_sh (e_ixc (x:=v_bench_here) p_1 (e_var 0) (e_int _) rfl))) (exr_p (e_var 3))) fun v_ink_6=>(d_ifp (Bs:=(fun (s7:Str)=>[(.fr v_bench_here),(.fr v_numbers),(.fr s7),(.fr x3),(.fr v_ink_6),.un,.un])) (t_e (e_op2 o_eq (e_ixc (x:=v_ink_6) p3_0 (e_var 4) (e_int _) rfl) (e_str _) rfl)) (d_get 2 (wk_uns rfl) (r_getL (exr_p (e_ixc (x:=v_ink_6) p3_2 (e_var 4) (e_int _) rfl))) fun v_colour_here_8=>(d_nx (.same (.same (.same (.same (.same (.same (.same .nil))))))))) (d_get 5 (wk_uns rfl) (r_fz (r_lcT (ixh (i_tup (r_tz (r_getR (exr_p (e_ixc (x:=v_ink_6) p3_2 (e_var 4) (e_int _) rfl)))))) (gs_name 6) (fun x11=>(t_e (e_op2 o_eq (e_ixc (x:=x11) p_0 (e_var 6) (e_int _) rfl) (e_var 2) rfl))) (fun x11=>(e_var 6)))) fun v_pairs_13=>(d_ifp (Bs:=(fun (s14:Str)=>[(.fr v_bench_here),(.fr v_numbers),(.fr s14),(.fr x3),(.fr v_ink_6),(.fr v_pairs_13),.un])) (t_e (e_op2 (o_neB (α:=(List (Str×Str)))) (e_bw (e_var 5)) (e_bwN e_nil) rfl)) (d_get 2 (wk_uns rfl) (r_ixc p_1 (r_op2 o_ixL (exr_p (e_sh (e_var 5))) (exr_p (e_int _))) (e_int _)) fun v_colour_here_18=>(d_nx (.same (.same (.same (.same (.same (.same (.same .nil))))))))) (d_nx (.same (.same (.same (.same (.same (.same (.same .nil)))))))) (fun s14=>(d_nx (.same (.same (.same (.same (.same (.drop (.same .nil))))))))))) (fun s7=>(d_nx (.same (.same (.same (.drop (.drop (.same (.same .nil)))))))))))) (fun s19=>(d_ret (e_var 2)))))
theorem ok_m_colour (R0:Raw c.K mg "_law_colour" "_law_colour" s_colour) :
    Cal P w c.K mg base "_law_colour" 1 ["_law_bench_here","_law_numbers"] (spF c (fun x:(Str×(List (T3 Str Str (Str⊕(TZ (Str×Str))))))×(List Int)×Unit=>m_colour x.1 x.2.1) (fun x:Str=>kFr c.K x)):=by
  obtain ⟨f,fd,gf,F⟩:=R0.ex
  exact ⟨f,fd,gf,F.kp,F.binds fun _ _ _ _ _ _ us hl=>match us,hl with | [_,_],_=>rfl,ok_m_colour_F T F⟩
theorem ok_m_picture_F {f:Addr} {fd:FuncData} (F:Fun c.K "_law_picture" "_law_picture" s_picture f fd)
    (C_m_colour:Cal P w c.K mg base "_law_colour" 1 ["_law_bench_here","_law_numbers"] (spF c (fun x:(Str×(List (T3 Str Str (Str⊕(TZ (Str×Str))))))×(List Int)×Unit=>m_colour x.1 x.2.1) (fun x:Str=>kFr c.K x))) :
    FnOk P w c.K mg base (L2.CX P w) 2 f fd ["_law_bench_here","_law_size_here","_law_states_here"] (spF c (fun x:(Str×(List (T3 Str Str (Str⊕(TZ (Str×Str))))))×(Int×Int)×(List Int)×Unit=>m_picture x.1 x.2.1 x.2.2.1) (fun x:(DL Str)=>kNw c.K x)):=by
  obtain ⟨f_m_colour,fd_m_colour,g_m_colour,k_m_colour,b_m_colour,G_m_colour⟩:=C_m_colour.ex
  have nd:=sc_picture.nd
  refine F.okX sc_picture (fun vs H Q E h=>spF_len vs H Q E h) (fun cdv A outer s H vs Q E hr h=>?_)
  refine ⟨_,(pss_cons (ps_set (i:=3) nd rfl (by trivial) (pe_lst pa_nil)) (pss_cons (ps_for (passes_of rfl) rfl (pi_range1 (by rfl) T.b_range (pa_cons (pe_ix (r:=rIxT c.K) ix_tup (pv 1) pe_int (fun _ _=>rfl)) pa_nil)) (pg_name (i:=4) nd rfl (by trivial)) (pss_cons (ps_set (i:=5) nd rfl (by trivial) (pe_lst pa_nil)) (pss_cons (ps_for (passes_of rfl) rfl (pi_range1 (by rfl) T.b_range (pa_cons (pe_ix (r:=rIxT c.K) ix_tup (pv 1) pe_int (fun _ _=>rfl)) pa_nil)) (pg_name (i:=6) nd rfl (by trivial)) (pss_cons (ps_set (i:=7) nd rfl (by trivial) (pe_op op_add (pe_op op_mul (pv 4) (pe_ix (r:=rIxT c.K) ix_tup (pv 1) pe_int (fun _ _=>rfl))) (pv 6))) (pss_cons (ps_expr (pe_bm PySem.F.plainAttrs_list PySem.F.slot_list_append PySem.F.type_list_append mt_append (pv 5) (pa_cons (pe_callS G_m_colour (hr.mono (by decide)) (by rfl) g_m_colour k_m_colour b_m_colour (fun σ=>passAt (takes_of rfl rfl rfl rfl) σ) (pa_cons (pv 0) (pa_cons (pe_lc (own:=[("_law_k",8)]) (by rfl) nd (pi_range1 (by rfl) T.b_range (pa_cons (pe_callB (r:=Fw.rLen c.K) call_len_seq (by rfl) T.b_len (by decide +kernel) (pa_cons (pv 2) pa_nil)) pa_nil)) (blkOk_by (own:=[("_law_k",8)]) (N:=N_picture) (sc:=(defScope s_picture)) (by decide +kernel)) (fun _ _ _ _ _=>(pg_name (i:=8) nd rfl (by trivial))) (fun _ _ _ _ _=>(pts_one (pt_cmpR op_eq (pe_op op_and (pe_op op_shr (pe_ix (r:=rIxL c.K) ix_list (pv 2) (pv 8) (fun _ _=>rfl)) (pv 7)) pe_int) pe_int (nomark _)))) (fun _ _ _ _ _=>(pv 8))) pa_nil))) pa_nil))) pss_nil))) (pss_cons (ps_expr (pe_bm PySem.F.plainAttrs_list PySem.F.slot_list_append PySem.F.type_list_append mt_append (pv 3) (pa_cons (pv 5) pa_nil))) pss_nil)))) (pss_cons (ps_ret (pv 3)) pss_nil))),?_⟩
  have hm:∀ x:(Str×(List (T3 Str Str (Str⊕(TZ (Str×Str))))))×(Int×Int)×(List Int)×Unit,(fun x:(Str×(List (T3 Str Str (Str⊕(TZ (Str×Str))))))×(Int×Int)×(List Int)×Unit=>m_picture x.1 x.2.1 x.2.2.1) x = (m_picture_b x.1 x.2.1 x.2.2.1).run:=fun _=>by unfold m_picture; rfl
  have hN:N_picture.length = Args.num ((Str×(List (T3 Str Str (Str⊕(TZ (Str×Str))))))×(Int×Int)×(List Int)×Unit) + 6:=rfl
  refine fn_run (Bs:=fun _=>uns 9) (n:=6) (m:=fun x=>m_picture_b x.1 x.2.1 x.2.2.1) h ?hN ?hm ?hd
  case hN=>exact hN
  case hm=>exact hm
  intro W x
  obtain ⟨v_bench_here,v_size_here,v_states_here,⟨⟩⟩:=x
  show Den _ _ _ _ _ _ _ [(.fr v_bench_here),(.fr v_size_here),(.fr v_states_here),.un,.un,.un,.un,.un,.un] (m_picture_b v_bench_here v_size_here v_states_here) (fun _=>uns 9)
  unfold m_picture_b
  exact (d_letN 3 e_nilD fun v_rows_1=>(d_for (Bs:=(fun (s3:(DL Str))=>[(.fr v_bench_here),(.fr v_size_here),(.fr v_states_here),(.ow none s3),.un,.un,.un,.un,.un])) (wk_uns rfl) (i_rng1 (exr_p (e_ixc (x:=v_size_here) p_1 (e_var 1) (e_int _) rfl))) (.same (.same (.same (.same (.same (.same (.same (.same (.same .nil))))))))) (fun _ _=>(g_name 4)) (fun s3 x4 B38=>(d_letN 5 e_nil fun v_words_5=>(d_for (Bs:=(fun (s7:(List Str))=>[(.fr v_bench_here),(.fr v_size_here),(.fr v_states_here),(.ow none s3),(.fr x4),(.ow none s7),.un,.un,.un])) (wk_uns rfl) (i_rng1 (exr_p (e_ixc (x:=v_size_here) p_0 (e_var 1) (e_int _) rfl))) (.same (.same (.same (.same (.same (.same (.same (.same (.same .nil))))))))) (fun _ _=>(g_name 6)) (fun s7 x8 B35=>(d_get 7 (wk_uns rfl) (r_op2 (o_int fun i j=>i + j) (r_op2 o_mul (exr_p (e_var 4)) (exr_p (e_ixc (x:=v_size_here) p_0 (e_var 1) (e_int _) rfl))) (exr_p (e_var 6))) fun v_place_13=>(d_app 5 rfl (wk_uns rfl) (r_call (aar_cons (exr_p (e_var 0)) (aar_cons (r_fz (r_lcG (ixh (i_rng1 (exr_p (e_opA (x:=(v_states_here,())) o_lenL (a_cons (e_sh (e_var 2)) a_nil) rfl)))) (gs_name 8) (fun x15=>(tr_e (r_op2 o_eq (r_op2 (o_int Builtin.bitAnd) (r_op2 o_shr (r_op2 o_ixL (exr_p (e_sh (e_var 2))) (exr_p (e_var 8))) (exr_p (e_var 7))) (exr_p (e_int _))) (exr_p (e_int _))))) (fun x15=>(exr_p (e_var 8))))) aar_nil))) fun v_words_30=>(d_nx (.same (.same (.same (.same (.same (.same (.drop (.drop (.same .nil))))))))))))) (fun s32=>(d_appDv 3 5 rfl rfl (by decide) fun v_rows_33=>(d_nx (.same (.same (.same (.same (.drop (.same (.same (.same (.same .nil))))))))))))))) (fun s36=>(d_retO 3 rfl rfl))))
theorem ok_m_picture (R0:Raw c.K mg "_law_picture" "_law_picture" s_picture)
    (C_m_colour:Cal P w c.K mg base "_law_colour" 1 ["_law_bench_here","_law_numbers"] (spF c (fun x:(Str×(List (T3 Str Str (Str⊕(TZ (Str×Str))))))×(List Int)×Unit=>m_colour x.1 x.2.1) (fun x:Str=>kFr c.K x))) :
    Cal P w c.K mg base "_law_picture" 2 ["_law_bench_here","_law_size_here","_law_states_here"] (spF c (fun x:(Str×(List (T3 Str Str (Str⊕(TZ (Str×Str))))))×(Int×Int)×(List Int)×Unit=>m_picture x.1 x.2.1 x.2.2.1) (fun x:(DL Str)=>kNw c.K x)):=by
  obtain ⟨f,fd,gf,F⟩:=R0.ex
  exact ⟨f,fd,gf,F.kp,F.binds fun _ _ _ _ _ _ us hl=>match us,hl with | [_,_,_],_=>rfl,ok_m_picture_F T F C_m_colour⟩
theorem ok_m_Shop_blocks_F {f:Addr} {fd:FuncData} (F:Fun c.K "blocks" "Shop.blocks" s_Shop_blocks f fd) :
    FnOk P w c.K mg base (L2.CX P w) 1 f fd ["self"] (spF c (fun x:O_Shop×Unit=>m_Shop_blocks x.1) (fun x:(List Str)=>kNw c.K x)):=by
  have nd:=sc_Shop_blocks.nd
  refine F.okX sc_Shop_blocks (fun vs H Q E h=>spF_len vs H Q E h) (fun cdv A outer s H vs Q E hr h=>?_)
  refine ⟨_,(pss_cons (ps_ret (pe_callB (r:=rSortedDS) (L2.call_sortedD rfl) (by rfl) T.b_sorted (by decide +kernel) (pa_cons (pe_fldK (K:=c.K) (by rfl) (pv 0)) pa_nil))) pss_nil),?_⟩
  have hm:∀ x:O_Shop×Unit,(fun x:O_Shop×Unit=>m_Shop_blocks x.1) x = (m_Shop_blocks_b x.1).run:=fun _=>by unfold m_Shop_blocks; rfl
  have hN:N_Shop_blocks.length = Args.num (O_Shop×Unit) + 0:=rfl
  refine fn_run (Bs:=fun _=>uns 1) (n:=0) (m:=fun x=>m_Shop_blocks_b x.1) h ?hN ?hm ?hd
  case hN=>exact hN
  case hm=>exact hm
  intro W x
  obtain ⟨v_self,⟨⟩⟩:=x
  show Den _ _ _ _ _ _ _ [(.fr v_self)] (m_Shop_blocks_b v_self) (fun _=>uns 1)
  unfold m_Shop_blocks_b
  exact (d_retR (wk_uns rfl) (r_opA o_sortD (ar_cons (k:=fun (x:(Dk Str Int))=>kDs c.K x) (exr_p (e_qs (e_fld ((Sel.up (Sel.here (by decide +kernel))):Sel (Fd (Fd (Fd (Fd (Fd Fn "bench" (Fr (Str×(List (T3 Str Str (Str⊕(TZ (Str×Str)))))))) "size" (Fr (Int×Int))) "states" (Fr (List Int))) "woods" (Dq Str Int)) "prints" (DGk Str (Int×Int))) (Fd (Fd (Fd (Fd (Fd Fn "bench" (Fr (Str×(List (T3 Str Str (Str⊕(TZ (Str×Str)))))))) "size" (Fr (Int×Int))) "states" (Fr (List Int))) "woods" (Dq Str Int)) "prints" (DGk Str (Int×Int))) "woods" (Dq Str Int) (Dq Str Int)) T.ct_Shop (by decide +kernel) (e_var 0)))) (axr_p (k:=fun _=>aNil) a_nil))))
theorem ok_m_Shop_blocks (R0:RawM c.K C_Shop "blocks" "Shop.blocks" s_Shop_blocks) :
    CalM P w c.K mg base C_Shop "blocks" 1 ["self"] (spF c (fun x:O_Shop×Unit=>m_Shop_blocks x.1) (fun x:(List Str)=>kNw c.K x)):=by
  obtain ⟨f,fd,M,F⟩:=R0.ex
  exact ⟨f,fd,M,F.binds fun _ _ _ _ _ _ us hl=>match us,hl with | [_],_=>rfl,ok_m_Shop_blocks_F T F⟩
theorem ok_m_Shop_sheets_F {f:Addr} {fd:FuncData} (F:Fun c.K "sheets" "Shop.sheets" s_Shop_sheets f fd) :
    FnOk P w c.K mg base (L2.CX P w) 1 f fd ["self"] (spF c (fun x:O_Shop×Unit=>m_Shop_sheets x.1) (fun x:(List Str)=>kNw c.K x)):=by
  have nd:=sc_Shop_sheets.nd
  refine F.okX sc_Shop_sheets (fun vs H Q E h=>spF_len vs H Q E h) (fun cdv A outer s H vs Q E hr h=>?_)
  refine ⟨_,(pss_cons (ps_ret (pe_callB (r:=rSortedDS) (L2.call_sortedD rfl) (by rfl) T.b_sorted (by decide +kernel) (pa_cons (pe_fldK (K:=c.K) (by rfl) (pv 0)) pa_nil))) pss_nil),?_⟩
  have hm:∀ x:O_Shop×Unit,(fun x:O_Shop×Unit=>m_Shop_sheets x.1) x = (m_Shop_sheets_b x.1).run:=fun _=>by unfold m_Shop_sheets; rfl
  have hN:N_Shop_sheets.length = Args.num (O_Shop×Unit) + 0:=rfl
  refine fn_run (Bs:=fun _=>uns 1) (n:=0) (m:=fun x=>m_Shop_sheets_b x.1) h ?hN ?hm ?hd
  case hN=>exact hN
  case hm=>exact hm
  intro W x
  obtain ⟨v_self,⟨⟩⟩:=x
  show Den _ _ _ _ _ _ _ [(.fr v_self)] (m_Shop_sheets_b v_self) (fun _=>uns 1)
  unfold m_Shop_sheets_b
  exact (d_retR (wk_uns rfl) (r_opA o_sortD (ar_cons (k:=fun (x:(Dk Str (List (Int×Int))))=>kDs c.K x) (exr_p (e_qs (e_gkq (e_fld ((Sel.here (by decide +kernel)):Sel (Fd (Fd (Fd (Fd (Fd Fn "bench" (Fr (Str×(List (T3 Str Str (Str⊕(TZ (Str×Str)))))))) "size" (Fr (Int×Int))) "states" (Fr (List Int))) "woods" (Dq Str Int)) "prints" (DGk Str (Int×Int))) (Fd (Fd (Fd (Fd (Fd Fn "bench" (Fr (Str×(List (T3 Str Str (Str⊕(TZ (Str×Str)))))))) "size" (Fr (Int×Int))) "states" (Fr (List Int))) "woods" (Dq Str Int)) "prints" (DGk Str (Int×Int))) "prints" (DGk Str (Int×Int)) (DGk Str (Int×Int))) T.ct_Shop (by decide +kernel) (e_var 0))))) (axr_p (k:=fun _=>aNil) a_nil))))
theorem ok_m_Shop_sheets (R0:RawM c.K C_Shop "sheets" "Shop.sheets" s_Shop_sheets) :
    CalM P w c.K mg base C_Shop "sheets" 1 ["self"] (spF c (fun x:O_Shop×Unit=>m_Shop_sheets x.1) (fun x:(List Str)=>kNw c.K x)):=by
  obtain ⟨f,fd,M,F⟩:=R0.ex
  exact ⟨f,fd,M,F.binds fun _ _ _ _ _ _ us hl=>match us,hl with | [_],_=>rfl,ok_m_Shop_sheets_F T F⟩
theorem ok_m_stands_F {f:Addr} {fd:FuncData} (F:Fun c.K "_law_stands" "_law_stands" s_stands f fd)
    (C_m_Shop_blocks:CalM P w c.K mg base C_Shop "blocks" 1 ["self"] (spF c (fun x:O_Shop×Unit=>m_Shop_blocks x.1) (fun x:(List Str)=>kNw c.K x)))
    (C_m_Shop_sheets:CalM P w c.K mg base C_Shop "sheets" 1 ["self"] (spF c (fun x:O_Shop×Unit=>m_Shop_sheets x.1) (fun x:(List Str)=>kNw c.K x))) :
    FnOk P w c.K mg base (L2.CX P w) 2 f fd ["_law_shop","_law_there"] (spF c (fun x:O_Shop×((Dq Str Bool)×(Dq Str Bool))×Unit=>m_stands x.1 x.2.1) (fun x:Bool=>kFr c.K x)):=by
  obtain ⟨f_m_Shop_blocks,fd_m_Shop_blocks,M_m_Shop_blocks,b_m_Shop_blocks,G_m_Shop_blocks⟩:=C_m_Shop_blocks.ex
  obtain ⟨f_m_Shop_sheets,fd_m_Shop_sheets,M_m_Shop_sheets,b_m_Shop_sheets,G_m_Shop_sheets⟩:=C_m_Shop_sheets.ex
  have nd:=sc_stands.nd
  refine F.okX sc_stands (fun vs H Q E h=>spF_len vs H Q E h) (fun cdv A outer s H vs Q E hr h=>?_)
  refine ⟨_,(pss_cons (ps_for (passes_of rfl) rfl (pi_list (pe_lst (pa_cons (pe_tup (pa_cons (pe_methD0 G_m_Shop_blocks (hr.mono (by decide)) (pv 0) T.ct_Shop.cl M_m_Shop_blocks b_m_Shop_blocks (fun σ=>passAt (takes_of rfl rfl rfl rfl) σ)) (pa_cons (pe_callB (r:=rSortedDS) (L2.call_sortedD rfl) (by rfl) T.b_sorted (by decide +kernel) (pa_cons (pe_ix (r:=rIxT c.K) ix_tup (pv 1) pe_int (fun _ _=>rfl)) pa_nil)) pa_nil))) (pa_cons (pe_tup (pa_cons (pe_methD0 G_m_Shop_sheets (hr.mono (by decide)) (pv 0) T.ct_Shop.cl M_m_Shop_sheets b_m_Shop_sheets (fun σ=>passAt (takes_of rfl rfl rfl rfl) σ)) (pa_cons (pe_callB (r:=rSortedDS) (L2.call_sortedD rfl) (by rfl) T.b_sorted (by decide +kernel) (pa_cons (pe_ix (r:=rIxT c.K) ix_tup (pv 1) pe_int (fun _ _=>rfl)) pa_nil)) pa_nil))) pa_nil)))) (pg_tup (by rfl) (pgs_cons (pg_name (i:=2) nd rfl (by trivial)) (pgs_cons (pg_name (i:=3) nd rfl (by trivial)) pgs_nil))) (pss_cons (ps_if (PW.pt (pw_or (pt_not (pt_val (pe_callB (r:=rIsi c.K) call_isi (by rfl) T.b_isinstance (by decide +kernel) (pa_cons (pv 2) (pa_cons (pe_bltn (v:=.ty "list") (by rfl) T.b_list (by decide +kernel) rfl) pa_nil))))) (pw_or1 (pt_cmpR (r:=rNeD c.K) (op_neD (hu64 hr)) (pv 2) (pv 3) (nomark _))))) (pss_cons (ps_ret pe_bl) pss_nil) pss_nil) (pss_cons (ps_expr (pe_bm PySem.F.plainAttrs_list PySem.F.slot_list_append PySem.F.type_list_append mt_append (pv 2) (pa_cons pe_str pa_nil))) pss_nil))) (pss_cons (ps_ret (pe_and (pe_cmpR (r:=rEqD c.K) (op_eqD (hu64 hr)) (pe_methD0 G_m_Shop_blocks (hr.mono (by decide)) (pv 0) T.ct_Shop.cl M_m_Shop_blocks b_m_Shop_blocks (fun σ=>passAt (takes_of rfl rfl rfl rfl) σ)) (pe_callB (r:=rSortedDS) (L2.call_sortedD rfl) (by rfl) T.b_sorted (by decide +kernel) (pa_cons (pe_ix (r:=rIxT c.K) ix_tup (pv 1) pe_int (fun _ _=>rfl)) pa_nil)) (nomark _)) (pe_one (pe_cmpR (r:=rEqD c.K) (op_eqD (hu64 hr)) (pe_methD0 G_m_Shop_sheets (hr.mono (by decide)) (pv 0) T.ct_Shop.cl M_m_Shop_sheets b_m_Shop_sheets (fun σ=>passAt (takes_of rfl rfl rfl rfl) σ)) (pe_callB (r:=rSortedDS) (L2.call_sortedD rfl) (by rfl) T.b_sorted (by decide +kernel) (pa_cons (pe_ix (r:=rIxT c.K) ix_tup (pv 1) pe_int (fun _ _=>rfl)) pa_nil)) (nomark _))))) pss_nil)),?_⟩
  have hm:∀ x:O_Shop×((Dq Str Bool)×(Dq Str Bool))×Unit,(fun x:O_Shop×((Dq Str Bool)×(Dq Str Bool))×Unit=>m_stands x.1 x.2.1) x = (m_stands_b x.1 x.2.1).run:=fun _=>by unfold m_stands; rfl
  have hN:N_stands.length = Args.num (O_Shop×((Dq Str Bool)×(Dq Str Bool))×Unit) + 2:=rfl
  refine fn_run (Bs:=fun _=>uns 4) (n:=2) (m:=fun x=>m_stands_b x.1 x.2.1) h ?hN ?hm ?hd
  case hN=>exact hN
  case hm=>exact hm
  intro W x
  obtain ⟨v_shop,v_there,⟨⟩⟩:=x
  show Den _ _ _ _ _ _ _ [(.fr v_shop),(.fr v_there),.un,.un] (m_stands_b v_shop v_there) (fun _=>uns 4)
  unfold m_stands_b
  exact (d_for2P (Bs:=(fun (s11:Unit)=>[(.fr v_shop),(.fr v_there),.un,.un])) 2 3 (wk_uns rfl) (.same (.same (.same (.same .nil)))) (r_meth (m:="blocks") (f:=(fun x:O_Shop×Unit=>m_Shop_blocks x.1)) T.ct_Shop (by decide +kernel) (exr_p (e_var 0)) (axr_p (k:=fun x=>kAs c.K x) aa_nil)) (r_fz (r_opA o_sortD (ar_cons (k:=fun (x:(Dk Str Bool))=>kDs c.K x) (exr_p (e_qs (e_ixc (x:=v_there) p_0 (e_var 1) (e_int _) rfl))) (axr_p (k:=fun _=>aNil) a_nil)))) (r_meth (m:="sheets") (f:=(fun x:O_Shop×Unit=>m_Shop_sheets x.1)) T.ct_Shop (by decide +kernel) (exr_p (e_var 0)) (axr_p (k:=fun x=>kAs c.K x) aa_nil)) (r_fz (r_opA o_sortD (ar_cons (k:=fun (x:(Dk Str Bool))=>kDs c.K x) (exr_p (e_qs (e_ixc (x:=v_there) p_1 (e_var 1) (e_int _) rfl))) (axr_p (k:=fun _=>aNil) a_nil)))) (fun s11 x12 B30=>(d_ifap (t_or (t_not (t_B (e_opA (x:=(x12.1,())) (o_isiB (α:=(List Str)) (b:=true) (by decide +kernel)) (a_cons (e_varB 2) (a_cons (e_ty "list") a_nil)) rfl))) (t_e (e_op2 (o_neB (α:=(List Str))) (e_varB 2) (e_bw (e_var 3)) rfl))) (d_ret (e_bl _)) (d_app 2 rfl (wk_uns rfl) (exr_p (e_str _)) fun v_found_13=>(d_nx (.same (.same (.drop (.drop .nil)))))))) fun s15=>(d_retR (wk_uns rfl) (r_andV (r_op2 (o_eqB (α:=(List Str))) (r_bwN (r_meth (m:="blocks") (f:=(fun x:O_Shop×Unit=>m_Shop_blocks x.1)) T.ct_Shop (by decide +kernel) (exr_p (e_var 0)) (axr_p (k:=fun x=>kAs c.K x) aa_nil))) (r_bwN (r_opA o_sortD (ar_cons (k:=fun (x:(Dk Str Bool))=>kDs c.K x) (exr_p (e_qs (e_ixc (x:=v_there) p_0 (e_var 1) (e_int _) rfl))) (axr_p (k:=fun _=>aNil) a_nil))))) (r_op2 (o_eqB (α:=(List Str))) (r_bwN (r_meth (m:="sheets") (f:=(fun x:O_Shop×Unit=>m_Shop_sheets x.1)) T.ct_Shop (by decide +kernel) (exr_p (e_var 0)) (axr_p (k:=fun x=>kAs c.K x) aa_nil))) (r_bwN (r_opA o_sortD (ar_cons (k:=fun (x:(Dk Str Bool))=>kDs c.K x) (exr_p (e_qs (e_ixc (x:=v_there) p_1 (e_var 1) (e_int _) rfl))) (axr_p (k:=fun _=>aNil) a_nil))))))))
theorem ok_m_stands (R0:Raw c.K mg "_law_stands" "_law_stands" s_stands)
    (C_m_Shop_blocks:CalM P w c.K mg base C_Shop "blocks" 1 ["self"] (spF c (fun x:O_Shop×Unit=>m_Shop_blocks x.1) (fun x:(List Str)=>kNw c.K x)))
    (C_m_Shop_sheets:CalM P w c.K mg base C_Shop "sheets" 1 ["self"] (spF c (fun x:O_Shop×Unit=>m_Shop_sheets x.1) (fun x:(List Str)=>kNw c.K x))) :
    Cal P w c.K mg base "_law_stands" 2 ["_law_shop","_law_there"] (spF c (fun x:O_Shop×((Dq Str Bool)×(Dq Str Bool))×Unit=>m_stands x.1 x.2.1) (fun x:Bool=>kFr c.K x)):=by
  obtain ⟨f,fd,gf,F⟩:=R0.ex
  exact ⟨f,fd,gf,F.kp,F.binds fun _ _ _ _ _ _ us hl=>match us,hl with | [_,_],_=>rfl,ok_m_stands_F T F C_m_Shop_blocks C_m_Shop_sheets⟩
theorem ok_m_law_F {f:Addr} {fd:FuncData} (F:Fun c.K "law" "law" s_law f fd)
    (C_m_pool:Cal P w c.K mg base "_law_pool" 1 ["_law_script","_law_k"] (spF c (fun x:(Sq Int)×Int×Unit=>m_pool x.1 x.2.1) (fun x:(List Int)=>kNw c.K x)))
    (C_m_bench:Cal P w c.K mg base "_law_bench" 2 ["_law_pool_here"] (spIO c (fun (a:Unit) (x:(List Int)) (b:Unit)=>m_bench x) (fun x:(Str×(List (T3 Str Str (Str⊕(TZ (Str×Str))))))=>kFr c.K x)))
    (C_m_size:Cal P w c.K mg base "_law_size" 2 ["_law_pool_here"] (spIO c (fun (a:Unit) (x:(List Int)) (b:Unit)=>m_size x) (fun x:(Int×Int)=>kFr c.K x)))
    (C_m_Shop_init:CalN P w c.K mg base C_Shop 1 ["self","bench","size","states"] (spN c "Shop" (fun a:(Str×(List (T3 Str Str (Str⊕(TZ (Str×Str))))))×(Int×Int)×(List Int)×Unit=>m_Shop_init a.1 a.2.1 a.2.2.1)))
    (C_m_cell_at:Cal P w c.K mg base "_law_cell_at" 1 ["_law_script","_law_k"] (spF c (fun x:(Sq Int)×Int×Unit=>m_cell_at x.1 x.2.1) (fun x:Int=>kFr c.K x)))
    (C_m_done:Cal P w c.K mg base "_law_done" 5 ["_law_shop","_law_way","_law_name"] (spIO c (fun (a:Unit) (x:O_Shop) (b:Int×Str×Unit)=>m_done x b.1 b.2.1) (fun x:((List (Dy 0))×(Option (Int⊕((List (List Str))⊕(List Int)))))=>kFr c.K x)))
    (C_m_told:Cal P w c.K mg base "_law_told" 1 ["_law_way","_law_name","_law_good","_law_there"] (spF c (fun x:Int×Str×Bool×((Dq Str Bool)×(Dq Str Bool))×Unit=>m_told x.1 x.2.1 x.2.2.1 x.2.2.2.1) (fun x:Str=>kFr c.K x)))
    (C_m_due:Cal P w c.K mg base "_law_due" 1 ["_law_word_here"] (spF c (fun x:Str×Unit=>m_due x.1) (fun x:(List (Dy 0))=>kNw c.K x)))
    (C_m_full:Cal P w c.K mg base "_law_full" 1 ["_law_size_here"] (spF c (fun x:(Int×Int)×Unit=>m_full x.1) (fun x:Int=>kFr c.K x)))
    (C_m_picture:Cal P w c.K mg base "_law_picture" 2 ["_law_bench_here","_law_size_here","_law_states_here"] (spF c (fun x:(Str×(List (T3 Str Str (Str⊕(TZ (Str×Str))))))×(Int×Int)×(List Int)×Unit=>m_picture x.1 x.2.1 x.2.2.1) (fun x:(DL Str)=>kNw c.K x)))
    (C_m_stands:Cal P w c.K mg base "_law_stands" 2 ["_law_shop","_law_there"] (spF c (fun x:O_Shop×((Dq Str Bool)×(Dq Str Bool))×Unit=>m_stands x.1 x.2.1) (fun x:Bool=>kFr c.K x)))
    (C_m_Shop_blocks:CalM P w c.K mg base C_Shop "blocks" 1 ["self"] (spF c (fun x:O_Shop×Unit=>m_Shop_blocks x.1) (fun x:(List Str)=>kNw c.K x)))
    (C_m_Shop_sheets:CalM P w c.K mg base C_Shop "sheets" 1 ["self"] (spF c (fun x:O_Shop×Unit=>m_Shop_sheets x.1) (fun x:(List Str)=>kNw c.K x))) :
    FnOk P w c.K mg base (L2.CX P w) 6 f fd ["_law_script"] (spF c (fun x:(Sq Int)×Unit=>m_law x.1) (fun x:Bool=>kFr c.K x)):=by
  obtain ⟨f_m_pool,fd_m_pool,g_m_pool,k_m_pool,b_m_pool,G_m_pool⟩:=C_m_pool.ex
  obtain ⟨f_m_bench,fd_m_bench,g_m_bench,k_m_bench,b_m_bench,G_m_bench⟩:=C_m_bench.ex
  obtain ⟨f_m_size,fd_m_size,g_m_size,k_m_size,b_m_size,G_m_size⟩:=C_m_size.ex
  obtain ⟨f_m_Shop_init,fd_m_Shop_init,M_m_Shop_init,b_m_Shop_init,G_m_Shop_init⟩:=C_m_Shop_init.ex
  obtain ⟨f_m_cell_at,fd_m_cell_at,g_m_cell_at,k_m_cell_at,b_m_cell_at,G_m_cell_at⟩:=C_m_cell_at.ex
  obtain ⟨f_m_done,fd_m_done,g_m_done,k_m_done,b_m_done,G_m_done⟩:=C_m_done.ex
  obtain ⟨f_m_told,fd_m_told,g_m_told,k_m_told,b_m_told,G_m_told⟩:=C_m_told.ex
  obtain ⟨f_m_due,fd_m_due,g_m_due,k_m_due,b_m_due,G_m_due⟩:=C_m_due.ex
  obtain ⟨f_m_full,fd_m_full,g_m_full,k_m_full,b_m_full,G_m_full⟩:=C_m_full.ex
  obtain ⟨f_m_picture,fd_m_picture,g_m_picture,k_m_picture,b_m_picture,G_m_picture⟩:=C_m_picture.ex
  obtain ⟨f_m_stands,fd_m_stands,g_m_stands,k_m_stands,b_m_stands,G_m_stands⟩:=C_m_stands.ex
  obtain ⟨f_m_Shop_blocks,fd_m_Shop_blocks,M_m_Shop_blocks,b_m_Shop_blocks,G_m_Shop_blocks⟩:=C_m_Shop_blocks.ex
  obtain ⟨f_m_Shop_sheets,fd_m_Shop_sheets,M_m_Shop_sheets,b_m_Shop_sheets,G_m_Shop_sheets⟩:=C_m_Shop_sheets.ex
  have nd:=sc_law.nd
  refine F.okX sc_law (fun vs H Q E h=>spF_len vs H Q E h) (fun cdv A outer s H vs Q E hr h=>?_)
  refine ⟨_,(pss_cons (ps_set (i:=1) nd rfl (by trivial) (pe_callS G_m_bench (hr.mono (by decide)) (by rfl) g_m_bench k_m_bench b_m_bench (fun σ=>passAt (takes_of rfl rfl rfl rfl) σ) (pa_cons (pe_callS G_m_pool (hr.mono (by decide)) (by rfl) g_m_pool k_m_pool b_m_pool (fun σ=>passAt (takes_of rfl rfl rfl rfl) σ) (pa_cons (pv 0) (pa_cons pe_int pa_nil))) pa_nil))) (pss_cons (ps_set (i:=2) nd rfl (by trivial) (pe_callS G_m_size (hr.mono (by decide)) (by rfl) g_m_size k_m_size b_m_size (fun σ=>passAt (takes_of rfl rfl rfl rfl) σ) (pa_cons (pe_callS G_m_pool (hr.mono (by decide)) (by rfl) g_m_pool k_m_pool b_m_pool (fun σ=>passAt (takes_of rfl rfl rfl rfl) σ) (pa_cons (pv 0) (pa_cons pe_int pa_nil))) pa_nil))) (pss_cons (ps_set (i:=3) nd rfl (by trivial) (pe_makeD M_m_Shop_init G_m_Shop_init (hr.mono (by decide)) (by rfl) T.g_Shop b_m_Shop_init (fun σ=>passAt (takes_of rfl rfl rfl rfl) σ) (pa_cons (pv 1) (pa_cons (pv 2) (pa_cons (pe_op op_rep (pe_lst (pa_cons pe_int pa_nil)) (pe_callB (r:=Fw.rLen c.K) call_len_seq (by rfl) T.b_len (by decide +kernel) (pa_cons (pe_ix (r:=rIxT c.K) ix_tup (pv 1) pe_int (fun _ _=>rfl)) pa_nil))) pa_nil))))) (pss_cons (ps_set (i:=4) nd rfl (by trivial) (pe_makeD M_m_Shop_init G_m_Shop_init (hr.mono (by decide)) (by rfl) T.g_Shop b_m_Shop_init (fun σ=>passAt (takes_of rfl rfl rfl rfl) σ) (pa_cons (pv 1) (pa_cons (pv 2) (pa_cons (pe_op op_rep (pe_lst (pa_cons pe_int pa_nil)) (pe_callB (r:=Fw.rLen c.K) call_len_seq (by rfl) T.b_len (by decide +kernel) (pa_cons (pe_ix (r:=rIxT c.K) ix_tup (pv 1) pe_int (fun _ _=>rfl)) pa_nil))) pa_nil))))) (pss_cons (ps_setLc (i:=5) (own:=[("_law_sign",6)]) (by rfl) nd rfl (by rfl) (sw_true rfl (by rfl) rfl (by decide +kernel)) (pi_str pe_str) (blkOk_by (own:=[("_law_sign",6)]) (N:=N_law) (sc:=(defScope s_law)) (by decide +kernel)) (fun _ _ _ _ _=>(pg_name (i:=6) nd rfl (by trivial))) (fun _ _ _ _ _=>pts_nil) (fun _ _ _ _ _=>(pe_op op_add_str (pe_op op_add_str (pe_slice sl_str pe_str po_none (po_some (pe_op op_mod (pe_callS G_m_cell_at (hr.mono (by decide)) (by rfl) g_m_cell_at k_m_cell_at b_m_cell_at (fun σ=>passAt takes0 σ) (pa_cons (pv 0) (pa_cons pe_int pa_nil))) pe_int))) (pv 6)) (pe_slice sl_str pe_str (po_some (pe_op op_mod (pe_callS G_m_cell_at (hr.mono (by decide)) (by rfl) g_m_cell_at k_m_cell_at b_m_cell_at (fun σ=>passAt takes0 σ) (pa_cons (pv 0) (pa_cons pe_int pa_nil))) pe_int)) po_none)))) (pss_cons (ps_set (i:=7) nd rfl (by trivial) (pe_tup (pa_cons pe_dnewK (pa_cons pe_dnewK pa_nil)))) (pss_cons (ps_for (passes_of rfl) rfl (pi_list (pe_slice (r:=rSlL c.K) sl_list (pv 0) po_none (po_some pe_int))) (pg_name (i:=8) nd rfl (by trivial)) (pss_cons (ps_set (i:=9) nd rfl (by trivial) (pe_ix (r:=rIxL c.K) ix_list (pv 5) (pe_op op_mod (pe_op op_fdiv (pv 8) pe_int) pe_int) (fun _ _=>rfl))) (pss_cons (ps_set (i:=10) nd rfl (by trivial) (pe_cmpR op_ne (pe_op op_mod (pe_op op_fdiv (pv 8) pe_int) pe_int) pe_int (nomark _))) (pss_cons (ps_if (pt_not (pt_val (pv 10))) (pss_cons (ps_set (i:=9) nd rfl (by trivial) (pe_ix (r:=rIxL c.K) ix_list (pe_lst (pa_cons pe_str (pa_cons (pe_op op_add_str (pv 9) (pv 9)) (pa_cons (pe_upper (pv 9)) (pa_cons (pe_op op_add_str (pv 9) pe_str) (pa_cons (pe_op op_add_str (pe_slice sl_str (pv 9) po_none (po_some pe_int)) pe_str) pa_nil)))))) (pe_op op_mod (pe_op op_fdiv (pv 8) pe_int) pe_int) (fun _ _=>rfl))) pss_nil) pss_nil) (pss_cons (ps_set (i:=11) nd rfl (by trivial) (pe_op op_mod (pv 8) pe_int)) (pss_cons (ps_asg (pe_callS G_m_done (hr.mono (by decide)) (by rfl) g_m_done k_m_done b_m_done (fun σ=>passAt (takes_of rfl rfl rfl rfl) σ) (pa_cons (pv 3) (pa_cons (pv 11) (pa_cons (pv 9) pa_nil)))) (pg_tup (by rfl) (pgs_cons (pg_name (i:=12) nd rfl (by trivial)) (pgs_cons (pg_name (i:=13) nd rfl (by trivial)) pgs_nil)))) (pss_cons (ps_set (i:=14) nd rfl (by trivial) (pe_callS G_m_told (hr.mono (by decide)) (by rfl) g_m_told k_m_told b_m_told (fun σ=>passAt (takes_of rfl rfl rfl rfl) σ) (pa_cons (pv 11) (pa_cons (pv 9) (pa_cons (pv 10) (pa_cons (pv 7) pa_nil)))))) (pss_cons (ps_if (pt_cmpR (r:=rNeD c.K) (op_neD (hu64 hr)) (pv 12) (pe_callS G_m_due (hr.mono (by decide)) (by rfl) g_m_due k_m_due b_m_due (fun σ=>passAt (takes_of rfl rfl rfl rfl) σ) (pa_cons (pv 14) pa_nil)) (nomark _)) (pss_cons (ps_ret pe_bl) pss_nil) pss_nil) (pss_cons (ps_if (PW.pt (pw_and (pt_cmpR op_eq (pv 14) pe_str (nomark _)) (pw_and1 (pt_cmpR op_lt (pv 11) pe_int (nomark _))))) (pss_cons (ps_dput (hu1 hr) (pe_ix (r:=rIxT c.K) ix_tup (pv 7) (pv 11) (fun _ _=>rfl)) (pv 9) pe_bl rfl) pss_nil) pss_nil) (pss_cons (ps_if (PW.pt (pw_and (pt_cmpR op_eq (pv 14) pe_str (nomark _)) (pw_and1 (pt_cmpR op_eq (pv 11) pe_int (nomark _))))) (pss_cons (ps_expr (pe_dpopG (hu1 hr) (pe_ix (r:=rIxT c.K) ix_tup (pv 7) pe_int (fun _ _=>rfl)) (pv 9) ⟨by rfl,by rfl,by rfl,by rfl⟩)) pss_nil) pss_nil) (pss_cons (ps_if (PW.pt (pw_and (pt_cmpR op_eq (pv 14) pe_str (nomark _)) (pw_and1 (pt_cmpR op_gt (pv 11) pe_int (nomark _))))) (pss_cons (ps_set (i:=15) nd rfl (by trivial) (pe_lst (pa_cons (pe_callS G_m_full (hr.mono (by decide)) (by rfl) g_m_full k_m_full b_m_full (fun σ=>passAt (takes_of rfl rfl rfl rfl) σ) (pa_cons (pv 2) pa_nil)) (pa_cons (pe_callS G_m_picture (hr.mono (by decide)) (by rfl) g_m_picture k_m_picture b_m_picture (fun σ=>passAt (takes_of rfl rfl rfl rfl) σ) (pa_cons (pv 1) (pa_cons (pv 2) (pa_cons (pe_op op_rep (pe_lst (pa_cons pe_int pa_nil)) (pe_callB (r:=Fw.rLen c.K) call_len_seq (by rfl) T.b_len (by decide +kernel) (pa_cons (pe_ix (r:=rIxT c.K) ix_tup (pv 1) pe_int (fun _ _=>rfl)) pa_nil))) pa_nil)))) (pa_cons (pe_listRg rfl (by rfl) T.b_list (prg_1 (by rfl) T.b_range (pe_callB (r:=Fw.rLen c.K) call_len_seq (by rfl) T.b_len (by decide +kernel) (pa_cons (pe_ix (r:=rIxT c.K) ix_tup (pv 1) pe_int (fun _ _=>rfl)) pa_nil)))) pa_nil))))) (pss_cons (ps_if (pt_cmpR (r:=rNeD c.K) (op_neD (hu64 hr)) (pv 13) (pe_ix (r:=rIxL c.K) ix_list (pv 15) (pe_op op_sub (pv 11) pe_int) (fun _ _=>rfl)) (nomark _)) (pss_cons (ps_ret pe_bl) pss_nil) pss_nil) pss_nil)) pss_nil) (pss_cons (ps_if (pt_not (pt_val (pe_callS G_m_stands (hr.mono (by decide)) (by rfl) g_m_stands k_m_stands b_m_stands (fun σ=>passAt (takes_of rfl rfl rfl rfl) σ) (pa_cons (pv 3) (pa_cons (pv 7) pa_nil))))) (pss_cons (ps_ret pe_bl) pss_nil) pss_nil) pss_nil)))))))))))) (pss_cons (ps_ret (pe_and (pe_cmpR (r:=rEqD c.K) (op_eqD (hu64 hr)) (pe_methD0 G_m_Shop_blocks (hr.mono (by decide)) (pv 4) T.ct_Shop.cl M_m_Shop_blocks b_m_Shop_blocks (fun σ=>passAt (takes_of rfl rfl rfl rfl) σ)) (pe_lst pa_nil) (nomark _)) (pe_one (pe_cmpR (r:=rEqD c.K) (op_eqD (hu64 hr)) (pe_methD0 G_m_Shop_sheets (hr.mono (by decide)) (pv 4) T.ct_Shop.cl M_m_Shop_sheets b_m_Shop_sheets (fun σ=>passAt (takes_of rfl rfl rfl rfl) σ)) (pe_lst pa_nil) (nomark _))))) pss_nil)))))))),?_⟩
  have hm:∀ x:(Sq Int)×Unit,(fun x:(Sq Int)×Unit=>m_law x.1) x = (m_law_b x.1).run:=fun _=>by unfold m_law; rfl
  have hN:N_law.length = Args.num ((Sq Int)×Unit) + 15:=rfl
  refine fn_run (Bs:=fun _=>uns 16) (n:=15) (m:=fun x=>m_law_b x.1) h ?hN ?hm ?hd
  case hN=>exact hN
  case hm=>exact hm
  intro W x
  obtain ⟨v_script,⟨⟩⟩:=x
  show Den _ _ _ _ _ _ _ [(.fr v_script),.un,.un,.un,.un,.un,.un,.un,.un,.un,.un,.un,.un,.un,.un,.un] (m_law_b v_script) (fun _=>uns 16)
  unfold m_law_b
  exact (d_get 1 (wk_uns rfl) (r_callN (f:=fun _ z1 _=>m_bench z1) plain_fr (r_call1 (aa_cons (e_var 0) (aa_cons (e_int _) aa_nil)) rfl)) fun v_bench_here_3=>(d_get 2 (wk_uns rfl) (r_callN (f:=fun _ z4 _=>m_size z4) plain_fr (r_call1 (aa_cons (e_var 0) (aa_cons (e_int _) aa_nil)) rfl)) fun v_size_here_6=>(d_getN 3 (wk_uns rfl) (r_make T.ct_Shop (aar_cons (exr_p (e_var 1)) (aar_cons (exr_p (e_var 2)) (aar_cons (r_fz (r_op2 o_rep (exr_p (e_lsN (e_lst (xs:=[(0:Int)]) (a_cons (e_int _) a_nil) (szl (n:=1) rfl (by decide))))) (exr_p (e_opA (x:=(v_bench_here_3.2,())) o_lenL (a_cons (e_sh (e_ixc (x:=v_bench_here_3) p_1 (e_var 1) (e_int _) rfl)) a_nil) rfl)))) aar_nil)))) fun v_shop_16=>(d_get 4 (wk_uns rfl) (r_fz (r_make T.ct_Shop (aar_cons (exr_p (e_var 1)) (aar_cons (exr_p (e_var 2)) (aar_cons (r_fz (r_op2 o_rep (exr_p (e_lsN (e_lst (xs:=[(0:Int)]) (a_cons (e_int _) a_nil) (szl (n:=1) rfl (by decide))))) (exr_p (e_opA (x:=(v_bench_here_3.2,())) o_lenL (a_cons (e_sh (e_ixc (x:=v_bench_here_3) p_1 (e_var 1) (e_int _) rfl)) a_nil) rfl)))) aar_nil))))) fun v_beside_26=>(d_get 5 (wk_uns rfl) (r_fz (r_lcG (ixh (i_str (exr_p (e_str _)))) (gs_name 6) (fun x28=>(txr_p t_yes)) (fun x28=>(r_op2 o_addS (r_op2 o_addS (r_slT (exr_p (e_str _)) po_none' (po_some' (r_cr (fun _=>(by decide:(0:Int) < 6)) (r_call1 (aa_cons (e_var 0) (aa_cons (e_int _) aa_nil)) rfl) (e_int _)))) (exr_p (e_var 6))) (r_slT (exr_p (e_str _)) (po_some' (r_cr (fun _=>(by decide:(0:Int) < 6)) (r_call1 (aa_cons (e_var 0) (aa_cons (e_int _) aa_nil)) rfl) (e_int _))) po_none'))))) fun v_names_44=>(d_letN 7 (e_prN (e_nwQ (e_dnew rfl)) (e_nwQ (e_dnew rfl))) fun v_there_45=>(d_for (Bs:=(fun (s50:(O_Shop×((Dq Str Bool)×(Dq Str Bool))))=>[(.fr v_script),(.fr v_bench_here_3),(.fr v_size_here_6),(.ow none s50.1),(.fr v_beside_26),(.fr v_names_44),.un,(.ow none s50.2),.un,.un,.un,.un,.un,.un,.un,.un])) (wk_uns rfl) (i_list (r_fz (r_slL (exr_p (e_shQ (e_var 0))) po_none' (po_some' (exr_p (e_int _)))))) (.same (.same (.same (.same (.same (.same (.same (.same (.same (.same (.same (.same (.same (.same (.same (.same .nil)))))))))))))))) (fun _ _=>(g_name 8)) (fun s50 x51 B148=>(d_get 9 (wk_uns rfl) (r_op2 o_ixL (exr_p (e_sh (e_var 5))) (exr_p (e_cr (fun _=>(by decide:(0:Int) < 6)) (e_cr (fun _=>(⟨by decide,by decide⟩:CDiv _ 6)) (e_var 8) (e_int _) rfl) (e_int _) rfl))) fun v_name_54=>(d_let 10 (e_op2 o_ne (e_cr (fun _=>(by decide:(0:Int) < 7)) (e_cr (fun _=>(⟨by decide,by decide⟩:CDiv _ 36)) (e_var 8) (e_int _) rfl) (e_int _) rfl) (e_int _) rfl) fun v_good_55=>(d_ifp (Bs:=(fun (s56:Str)=>[(.fr v_script),(.fr v_bench_here_3),(.fr v_size_here_6),(.ow none s50.1),(.fr v_beside_26),(.fr v_names_44),.un,(.ow none s50.2),(.fr x51),(.fr s56),(.fr v_good_55),.un,.un,.un,.un,.un])) (t_not (t_B (e_var 10))) (d_get 9 (wk_uns rfl) (r_op2 o_ixL (r_shN (r_lst (g:=fun z134=>[z134.1,z134.2.1,z134.2.2.1,z134.2.2.2.1,z134.2.2.2.2.1]) (ar_cons (k:=fun (x:Str)=>kFr c.K x) (exr_p (e_str _)) (ar_cons (k:=fun (x:Str)=>kFr c.K x) (r_op2 o_addS (exr_p (e_var 9)) (exr_p (e_var 9))) (ar_cons (k:=fun (x:Str)=>kFr c.K x) (r_upper (exr_p (e_var 9))) (ar_cons (k:=fun (x:Str)=>kFr c.K x) (r_op2 o_addS (exr_p (e_var 9)) (exr_p (e_str _))) (ar_cons (k:=fun (x:Str)=>kFr c.K x) (r_op2 o_addS (r_slT (exr_p (e_var 9)) po_none' (po_some' (exr_p (e_int _)))) (exr_p (e_str _))) (axr_p (k:=fun _=>aNil) a_nil)))))) (fun _=>rfl) (fun _=>szl (n:=5) rfl (by decide)))) (exr_p (e_cr (fun _=>(by decide:(0:Int) < 5)) (e_cr (fun _=>(⟨by decide,by decide⟩:CDiv _ 252)) (e_var 8) (e_int _) rfl) (e_int _) rfl))) fun v_name_137=>(d_nx (.same (.same (.same (.same (.same (.same (.same (.same (.same (.same (.same (.same (.same (.same (.same (.same .nil)))))))))))))))))) (d_nx (.same (.same (.same (.same (.same (.same (.same (.same (.same (.same (.same (.same (.same (.same (.same (.same .nil))))))))))))))))) (fun s56=>(d_let 11 (e_cr (fun _=>(by decide:(0:Int) < 6)) (e_var 8) (e_int _) rfl) fun v_way_57=>(d_hoistX (f:=fun (a_:Unit) (x_:O_Shop) (b_:Int×Str×Unit)=>m_done x_ b_.1 b_.2.1) (k:=fun (h58:((List (Dy 0))×(Option (Int⊕((List (List Str))⊕(List Int)))))) (v_shop_66:O_Shop)=>
  (lt2 h58 fun (v_kind_here_68:(List (Dy 0))) (v_found_69:(Option (Int⊕((List (List Str))⊕(List Int)))))=>
  (R.to (m_told v_way_57 s56 v_good_55 s50.2) fun (v_due_here_70:Str)=>
  (R.to ((R.ok v_kind_here_68).bind fun t71=>(m_due v_due_here_70).bind fun t72=>(R.ok (!eqDn t71 t72))) fun b112=>if b112 then Out.abs (.rt false) else
  (Out.bind (if ((decide (v_due_here_70 = ("":Str))) && (decide (v_way_57 < (2:Int)))) then (R.to (R.ok true) fun t111=>R.to (R.dputPr s50.2 v_way_57 s56 t111) fun (v_there_110:((Dq Str Bool)×(Dq Str Bool)))=>
  (.nx v_there_110)) else (.nx s50.2)) fun (s73:((Dq Str Bool)×(Dq Str Bool)))=>
  (Out.bind (if ((decide (v_due_here_70 = ("":Str))) && (decide (v_way_57 = (2:Int)))) then (R.to (R.ok s56) fun t108=>R.to (R.popQ s73.2 t108) fun t109=>(fun (v_there_107:((Dq Str Bool)×(Dq Str Bool)))=>
  (.nx v_there_107)) (s73.1,t109)) else (.nx s73)) fun (s74:((Dq Str Bool)×(Dq Str Bool)))=>
  (Out.bind (if ((decide (v_due_here_70 = ("":Str))) && (decide ((2:Int) < v_way_57))) then (R.to ((((m_full v_size_here_6).bind fun t78=>(R.ok (Sum.inl t78:(Int⊕((List (List Str))⊕(List Int)))))).bind fun t98=>(((((((R.ok v_bench_here_3).bind fun t85=>((R.ok v_size_here_6).bind fun t83=>(((R.ok [(0:Int)]).bind fun t79=>(R.ok (v_bench_here_3.2.length:Int)).bind fun t80=>(R.rep t79 t80)).bind fun t81=>(R.ok ()).bind fun t82=>(R.ok (t81,t82))).bind fun t84=>(R.ok (t83,t84))).bind fun t86=>(R.ok (t85,t86))).bind fun z87=>m_picture z87.1 z87.2.1 z87.2.2.1).bind fun t88=>(R.ok t88.l)).bind fun t89=>(R.ok (Sum.inl t89:((List (List Str))⊕(List Int))))).bind fun t90=>(R.ok (Sum.inr t90:(Int⊕((List (List Str))⊕(List Int)))))).bind fun t96=>(((((R.ok (v_bench_here_3.2.length:Int)).bind fun t91=>R.rng 0 t91).bind fun t92=>(R.ok (Sum.inr t92:((List (List Str))⊕(List Int))))).bind fun t93=>(R.ok (Sum.inr t93:(Int⊕((List (List Str))⊕(List Int)))))).bind fun t94=>(R.ok ()).bind fun t95=>(R.ok (t94,t95))).bind fun t97=>(R.ok (t96,t97))).bind fun t99=>(R.ok (t98,t99))).bind fun z100=>(R.ok [z100.1,z100.2.1,z100.2.2.1])) fun (v_told_here_101:(List (Int⊕((List (List Str))⊕(List Int)))))=>
  (R.to ((R.ok v_found_69).bind fun t104=>((R.ok v_told_here_101).bind fun t102=>(R.ok (v_way_57 - (3:Int))).bind fun t103=>(R.ix t102 t103)).bind fun t105=>(R.ok (!eqDn t104 t105))) fun b106=>if b106 then Out.abs (.rt false) else
  (.nx ()))) else (.nx ())) fun (s75:Unit)=>
  (R.to ((m_stands v_shop_66 s74).bind fun t76=>(R.ok (!t76))) fun b77=>if b77 then Out.abs (.rt false) else
  (.nx (v_shop_66,s74)))))))))) 3 rfl (wk_uns rfl) (axo_here (aar_cons (exr_p (e_var 11)) (aar_cons (exr_p (e_var 9)) aar_nil))) (hs_asg hs_id) rfl fun h58 v_shop_66 _ _ hv59=>(d_let2 12 13 (e_cst hv59) fun v_kind_here_68 v_found_69=>(d_get 14 (wk_uns rfl) (r_fv (fun _=>kbk_fr) (.fr (.fr (.fr (.ow (.fr (.fr (.un (.ow (.fr (.fr (.fr (.fr (.fr (.fr (.un (.un .nil)))))))))))))))) fun _=>(r_call1 (aa_cons (e_var 11) (aa_cons (e_var 9) (aa_cons (e_var 10) (aa_cons (e_var 7) aa_nil)))) rfl)) fun v_due_here_70=>(d_ifa (wk_uns rfl) (tr_e (r_op2 o_neDn (exr_p (e_var 12)) (r_fz (r_call1 (aa_cons (e_var 14) aa_nil) rfl)))) (d_ret (e_bl _)) (d_ifp (Bs:=(fun (s73:((Dq Str Bool)×(Dq Str Bool)))=>[(.fr v_script),(.fr v_bench_here_3),(.fr v_size_here_6),(.ow none v_shop_66),(.fr v_beside_26),(.fr v_names_44),.un,(.ow none s73),(.fr x51),(.fr s56),(.fr v_good_55),(.fr v_way_57),(.fr v_kind_here_68),(.fr v_found_69),(.fr v_due_here_70),.un])) (t_and (t_e (e_op2 o_eq (e_var 14) (e_str _) rfl)) (t_e (e_op2 (o_cmp fun i j=>decide (i < j)) (e_var 11) (e_int _) rfl))) (d_dputPr 7 rfl (wk_uns rfl) (exr_p (e_bl _)) (e_var 11) (e_var 9) fun v_there_110=>(d_nx (.same (.same (.same (.same (.same (.same (.same (.same (.same (.same (.same (.same (.same (.same (.same (.same .nil)))))))))))))))))) (d_nx (.same (.same (.same (.same (.same (.same (.same (.same (.same (.same (.same (.same (.same (.same (.same (.same .nil))))))))))))))))) (fun s73=>(d_ifp (Bs:=(fun (s74:((Dq Str Bool)×(Dq Str Bool)))=>[(.fr v_script),(.fr v_bench_here_3),(.fr v_size_here_6),(.ow none v_shop_66),(.fr v_beside_26),(.fr v_names_44),.un,(.ow none s74),(.fr x51),(.fr s56),(.fr v_good_55),(.fr v_way_57),(.fr v_kind_here_68),(.fr v_found_69),(.fr v_due_here_70),.un])) (t_and (t_e (e_op2 o_eq (e_var 14) (e_str _) rfl)) (t_e (e_op2 o_eq (e_var 11) (e_int _) rfl))) (d_popPr1 (kk:=fun (v_there_107:((Dq Str Bool)×(Dq Str Bool)))=>
  (.nx v_there_107)) 7 rfl (wk_uns rfl) (e_int _) (exr_p (e_var 9)) fun v_there_107=>(d_nx (.same (.same (.same (.same (.same (.same (.same (.same (.same (.same (.same (.same (.same (.same (.same (.same .nil)))))))))))))))))) (d_nx (.same (.same (.same (.same (.same (.same (.same (.same (.same (.same (.same (.same (.same (.same (.same (.same .nil))))))))))))))))) (fun s74=>(d_ifp (Bs:=(fun (s75:Unit)=>[(.fr v_script),(.fr v_bench_here_3),(.fr v_size_here_6),(.ow none v_shop_66),(.fr v_beside_26),(.fr v_names_44),.un,(.ow none s74),(.fr x51),(.fr s56),(.fr v_good_55),(.fr v_way_57),(.fr v_kind_here_68),(.fr v_found_69),(.fr v_due_here_70),.un])) (t_and (t_e (e_op2 o_eq (e_var 14) (e_str _) rfl)) (t_e (e_op2 (o_cmp fun i j=>decide (j < i)) (e_var 11) (e_int _) rfl))) (d_get 15 (wk_uns rfl) (r_fz (r_lst (g:=fun z100=>[z100.1,z100.2.1,z100.2.2.1]) (ar_cons (k:=fun (x:(Int⊕((List (List Str))⊕(List Int))))=>kFr c.K x) (r_inl (r_call1 (aa_cons (e_var 2) aa_nil) rfl)) (ar_cons (k:=fun (x:(Int⊕((List (List Str))⊕(List Int))))=>kFr c.K x) (r_inr (r_inl (r_dl (r_fz (r_call (aar_cons (exr_p (e_var 1)) (aar_cons (exr_p (e_var 2)) (aar_cons (r_fz (r_op2 o_rep (exr_p (e_lsN (e_lst (xs:=[(0:Int)]) (a_cons (e_int _) a_nil) (szl (n:=1) rfl (by decide))))) (exr_p (e_opA (x:=(v_bench_here_3.2,())) o_lenL (a_cons (e_sh (e_ixc (x:=v_bench_here_3) p_1 (e_var 1) (e_int _) rfl)) a_nil) rfl)))) aar_nil)))))))) (ar_cons (k:=fun (x:(Int⊕((List (List Str))⊕(List Int))))=>kFr c.K x) (r_inr (r_inr (r_fz (r_lstRg (exr_p (e_opA (x:=(v_bench_here_3.2,())) o_lenL (a_cons (e_sh (e_ixc (x:=v_bench_here_3) p_1 (e_var 1) (e_int _) rfl)) a_nil) rfl)))))) (axr_p (k:=fun _=>aNil) a_nil)))) (fun _=>rfl) (fun _=>szl (n:=3) rfl (by decide)))) fun v_told_here_101=>(d_ifa (wk_uns rfl) (tr_e (r_op2 o_neDn (exr_p (e_var 13)) (r_op2 o_ixL (exr_p (e_sh (e_var 15))) (exr_p (e_op2 (o_int fun i j=>i - j) (e_var 11) (e_int _) rfl))))) (d_ret (e_bl _)) (d_nx (.same (.same (.same (.same (.same (.same (.same (.same (.same (.same (.same (.same (.same (.same (.same (.drop .nil))))))))))))))))))) (d_nx (.same (.same (.same (.same (.same (.same (.same (.same (.same (.same (.same (.same (.same (.same (.same (.same .nil))))))))))))))))) (fun s75=>(d_ifa (wk_uns rfl) (tr_fv (.fr (.fr (.fr (.ow (.fr (.fr (.un (.ow (.fr (.fr (.fr (.fr (.fr (.fr (.fr (.un .nil)))))))))))))))) fun _=>(tr_not (tr_B (r_call1 (aa_cons (e_var 3) (aa_cons (e_var 7) aa_nil)) rfl)))) (d_ret (e_bl _)) (d_nx (.same (.same (.same (.same (.same (.same (.same (.same (.drop (.drop (.drop (.drop (.drop (.drop (.drop (.same .nil)))))))))))))))))))))))))))))))))) (fun s138=>(d_retR (wk_uns rfl) (r_andV (r_op2 (o_eqB (α:=(List Str))) (r_bwN (r_meth (m:="blocks") (f:=(fun x:O_Shop×Unit=>m_Shop_blocks x.1)) T.ct_Shop (by decide +kernel) (exr_p (e_var 4)) (axr_p (k:=fun x=>kAs c.K x) aa_nil))) (exr_p (e_bwN e_nil))) (r_op2 (o_eqB (α:=(List Str))) (r_bwN (r_meth (m:="sheets") (f:=(fun x:O_Shop×Unit=>m_Shop_sheets x.1)) T.ct_Shop (by decide +kernel) (exr_p (e_var 4)) (axr_p (k:=fun x=>kAs c.K x) aa_nil))) (exr_p (e_bwN e_nil)))))))))))))
theorem ok_m_law (R0:Raw c.K mg "law" "law" s_law)
    (C_m_pool:Cal P w c.K mg base "_law_pool" 1 ["_law_script","_law_k"] (spF c (fun x:(Sq Int)×Int×Unit=>m_pool x.1 x.2.1) (fun x:(List Int)=>kNw c.K x)))
    (C_m_bench:Cal P w c.K mg base "_law_bench" 2 ["_law_pool_here"] (spIO c (fun (a:Unit) (x:(List Int)) (b:Unit)=>m_bench x) (fun x:(Str×(List (T3 Str Str (Str⊕(TZ (Str×Str))))))=>kFr c.K x)))
    (C_m_size:Cal P w c.K mg base "_law_size" 2 ["_law_pool_here"] (spIO c (fun (a:Unit) (x:(List Int)) (b:Unit)=>m_size x) (fun x:(Int×Int)=>kFr c.K x)))
    (C_m_Shop_init:CalN P w c.K mg base C_Shop 1 ["self","bench","size","states"] (spN c "Shop" (fun a:(Str×(List (T3 Str Str (Str⊕(TZ (Str×Str))))))×(Int×Int)×(List Int)×Unit=>m_Shop_init a.1 a.2.1 a.2.2.1)))
    (C_m_cell_at:Cal P w c.K mg base "_law_cell_at" 1 ["_law_script","_law_k"] (spF c (fun x:(Sq Int)×Int×Unit=>m_cell_at x.1 x.2.1) (fun x:Int=>kFr c.K x)))
    (C_m_done:Cal P w c.K mg base "_law_done" 5 ["_law_shop","_law_way","_law_name"] (spIO c (fun (a:Unit) (x:O_Shop) (b:Int×Str×Unit)=>m_done x b.1 b.2.1) (fun x:((List (Dy 0))×(Option (Int⊕((List (List Str))⊕(List Int)))))=>kFr c.K x)))
    (C_m_told:Cal P w c.K mg base "_law_told" 1 ["_law_way","_law_name","_law_good","_law_there"] (spF c (fun x:Int×Str×Bool×((Dq Str Bool)×(Dq Str Bool))×Unit=>m_told x.1 x.2.1 x.2.2.1 x.2.2.2.1) (fun x:Str=>kFr c.K x)))
    (C_m_due:Cal P w c.K mg base "_law_due" 1 ["_law_word_here"] (spF c (fun x:Str×Unit=>m_due x.1) (fun x:(List (Dy 0))=>kNw c.K x)))
    (C_m_full:Cal P w c.K mg base "_law_full" 1 ["_law_size_here"] (spF c (fun x:(Int×Int)×Unit=>m_full x.1) (fun x:Int=>kFr c.K x)))
    (C_m_picture:Cal P w c.K mg base "_law_picture" 2 ["_law_bench_here","_law_size_here","_law_states_here"] (spF c (fun x:(Str×(List (T3 Str Str (Str⊕(TZ (Str×Str))))))×(Int×Int)×(List Int)×Unit=>m_picture x.1 x.2.1 x.2.2.1) (fun x:(DL Str)=>kNw c.K x)))
    (C_m_stands:Cal P w c.K mg base "_law_stands" 2 ["_law_shop","_law_there"] (spF c (fun x:O_Shop×((Dq Str Bool)×(Dq Str Bool))×Unit=>m_stands x.1 x.2.1) (fun x:Bool=>kFr c.K x)))
    (C_m_Shop_blocks:CalM P w c.K mg base C_Shop "blocks" 1 ["self"] (spF c (fun x:O_Shop×Unit=>m_Shop_blocks x.1) (fun x:(List Str)=>kNw c.K x)))
    (C_m_Shop_sheets:CalM P w c.K mg base C_Shop "sheets" 1 ["self"] (spF c (fun x:O_Shop×Unit=>m_Shop_sheets x.1) (fun x:(List Str)=>kNw c.K x))) :
    Cal P w c.K mg base "law" 6 ["_law_script"] (spF c (fun x:(Sq Int)×Unit=>m_law x.1) (fun x:Bool=>kFr c.K x)):=by
  obtain ⟨f,fd,gf,F⟩:=R0.ex
  exact ⟨f,fd,gf,F.kp,F.binds fun _ _ _ _ _ _ us hl=>match us,hl with | [_],_=>rfl,ok_m_law_F T F C_m_pool C_m_bench C_m_size C_m_Shop_init C_m_cell_at C_m_done C_m_told C_m_due C_m_full C_m_picture C_m_stands C_m_Shop_blocks C_m_Shop_sheets⟩
end
theorem all_mk {l:PySem.W.OpenLaw} {w:World} {K:PySem.W.Frag} {h:Heap} {mg:Str→Option Value} {fa:Addr} (X:K.In h) (G:h.Ns mainGlobals mg) (hfa:mg "law" = some (.ref fa)) {tok_LETTERS:Tok} {tok_LONGEST:Tok}
    {C_BlockError:Addr}
    {C_NoName:Addr}
    {C_NoStroke:Addr}
    {C_Order:Addr}
    {C_Shop:Addr}
    {C_Twice:Addr}
    {C_Wrong:Addr}
    {Ni_NoName:Addr} {nm_NoName q_NoName:Str} {bs_NoName bm_NoName:List Value} {sn_NoName:List Str} {su_NoName:List Value} {ab_NoName:Bool} {co_NoName:Option Bool} {dd_NoName:Option Addr} {k0_NoName k1_NoName k2_NoName k3_NoName k5_NoName:Option Value}
    {Ni_Twice:Addr} {nm_Twice q_Twice:Str} {bs_Twice bm_Twice:List Value} {sn_Twice:List Str} {su_Twice:List Value} {ab_Twice:Bool} {co_Twice:Option Bool} {dd_Twice:Option Addr} {k0_Twice k1_Twice k2_Twice k3_Twice k5_Twice:Option Value}
    {od0 an0:Option Addr} {sl0:Array (Option Value)} {oc0 kV0 dc0 pm0 cd0 ct0:Value} {f0:Addr}
    {od1 an1:Option Addr} {sl1:Array (Option Value)} {oc1 kV1 dc1 pm1 cd1 ct1:Value} {f1:Addr}
    {od2 an2:Option Addr} {sl2:Array (Option Value)} {oc2 kV2 dc2 pm2 cd2 ct2:Value} {f2:Addr}
    {od3 an3:Option Addr} {sl3:Array (Option Value)} {oc3 kV3 dc3 pm3 cd3 ct3:Value} {f3:Addr}
    {od4 an4:Option Addr} {sl4:Array (Option Value)} {oc4 kV4 dc4 pm4 cd4 ct4:Value} {f4:Addr}
    {od5 an5:Option Addr} {sl5:Array (Option Value)} {oc5 kV5 dc5 pm5 cd5 ct5:Value} {f5:Addr}
    {od6 an6:Option Addr} {sl6:Array (Option Value)} {oc6 kV6 dc6 pm6 cd6 ct6:Value} {f6:Addr}
    {od7 an7:Option Addr} {sl7:Array (Option Value)} {oc7 kV7 dc7 pm7 cd7 ct7:Value} {f7:Addr}
    {od8 an8:Option Addr} {sl8:Array (Option Value)} {oc8 kV8 dc8 pm8 cd8 ct8:Value} {f8:Addr}
    {od9 an9:Option Addr} {sl9:Array (Option Value)} {oc9 kV9 dc9 pm9 cd9 ct9:Value} {f9:Addr}
    {od10 an10:Option Addr} {sl10:Array (Option Value)} {oc10 kV10 dc10 pm10 cd10 ct10:Value} {f10:Addr}
    {od11 an11:Option Addr} {sl11:Array (Option Value)} {oc11 kV11 dc11 pm11 cd11 ct11:Value} {f11:Addr}
    {od12 an12:Option Addr} {sl12:Array (Option Value)} {oc12 kV12 dc12 pm12 cd12 ct12:Value} {f12:Addr}
    {od13 an13:Option Addr} {sl13:Array (Option Value)} {oc13 kV13 dc13 pm13 cd13 ct13:Value} {f13:Addr}
    {od14 an14:Option Addr} {sl14:Array (Option Value)} {oc14 kV14 dc14 pm14 cd14 ct14:Value} {f14:Addr}
    {od15 an15:Option Addr} {sl15:Array (Option Value)} {oc15 kV15 dc15 pm15 cd15 ct15:Value} {f15:Addr}
    {od16 an16:Option Addr} {sl16:Array (Option Value)} {oc16 kV16 dc16 pm16 cd16 ct16:Value} {f16:Addr}
    {od17 an17:Option Addr} {sl17:Array (Option Value)} {oc17 kV17 dc17 pm17 cd17 ct17:Value} {f17:Addr}
    {od18 an18:Option Addr} {sl18:Array (Option Value)} {oc18 kV18 dc18 pm18 cd18 ct18:Value} {f18:Addr}
    {od19 an19:Option Addr} {sl19:Array (Option Value)} {oc19 kV19 dc19 pm19 cd19 ct19:Value} {f19:Addr}
    {od20 an20:Option Addr} {sl20:Array (Option Value)} {oc20 kV20 dc20 pm20 cd20 ct20:Value} {f20:Addr}
    {od21 an21:Option Addr} {sl21:Array (Option Value)} {oc21 kV21 dc21 pm21 cd21 ct21:Value} {f21:Addr}
    {od22 an22:Option Addr} {sl22:Array (Option Value)} {oc22 kV22 dc22 pm22 cd22 ct22:Value} {f22:Addr}
    {od23 an23:Option Addr} {sl23:Array (Option Value)} {oc23 kV23 dc23 pm23 cd23 ct23:Value} {f23:Addr}
    {od24 an24:Option Addr} {sl24:Array (Option Value)} {oc24 kV24 dc24 pm24 cd24 ct24:Value} {f24:Addr}
    {od25 an25:Option Addr} {sl25:Array (Option Value)} {oc25 kV25 dc25 pm25 cd25 ct25:Value} {f25:Addr}
    {od26 an26:Option Addr} {sl26:Array (Option Value)} {oc26 kV26 dc26 pm26 cd26 ct26:Value} {f26:Addr}
    {od27 an27:Option Addr} {sl27:Array (Option Value)} {oc27 kV27 dc27 pm27 cd27 ct27:Value} {f27:Addr}
    {od28 an28:Option Addr} {sl28:Array (Option Value)} {oc28 kV28 dc28 pm28 cd28 ct28:Value} {f28:Addr}
    {od29 an29:Option Addr} {sl29:Array (Option Value)} {oc29 kV29 dc29 pm29 cd29 ct29:Value} {f29:Addr}
    {od30 an30:Option Addr} {sl30:Array (Option Value)} {oc30 kV30 dc30 pm30 cd30 ct30:Value} {f30:Addr}
    {od31 an31:Option Addr} {sl31:Array (Option Value)} {oc31 kV31 dc31 pm31 cd31 ct31:Value} {f31:Addr}
    (hb_ValueError:PySem.W.nsIn K mainGlobals "ValueError" = some none)
    (hb_enumerate:PySem.W.nsIn K mainGlobals "enumerate" = some none)
    (hb_isinstance:PySem.W.nsIn K mainGlobals "isinstance" = some none)
    (hb_len:PySem.W.nsIn K mainGlobals "len" = some none)
    (hb_list:PySem.W.nsIn K mainGlobals "list" = some none)
    (hb_range:PySem.W.nsIn K mainGlobals "range" = some none)
    (hb_sorted:PySem.W.nsIn K mainGlobals "sorted" = some none)
    (hb_tuple:PySem.W.nsIn K mainGlobals "tuple" = some none)
    (hc_LETTERS:PySem.W.nsIn K mainGlobals "LETTERS" = some (some (.str ("abcdefghijklmnopqrstuvwxyz":Str) tok_LETTERS)))
    (hc_LONGEST:PySem.W.nsIn K mainGlobals "LONGEST" = some (some (.int 8 tok_LONGEST)))
    (hg_BlockError:PySem.W.nsIn K mainGlobals "BlockError" = some (some (.ref C_BlockError)))
    (hg_NoName:PySem.W.nsIn K mainGlobals "NoName" = some (some (.ref C_NoName)))
    (hg_NoStroke:PySem.W.nsIn K mainGlobals "NoStroke" = some (some (.ref C_NoStroke)))
    (hg_Order:PySem.W.nsIn K mainGlobals "Order" = some (some (.ref C_Order)))
    (hg_Shop:PySem.W.nsIn K mainGlobals "Shop" = some (some (.ref C_Shop)))
    (hg_Twice:PySem.W.nsIn K mainGlobals "Twice" = some (some (.ref C_Twice)))
    (hg_Wrong:PySem.W.nsIn K mainGlobals "Wrong" = some (some (.ref C_Wrong)))
    (hobj1:PySem.W.specialIn K (.builtin "object.__class__") "__get__" = some (some (.builtin "getset_descriptor.__get__")))
    (hobj2:PySem.W.takesIn K (.builtin "object.__class__") = some true)
    (lk_NoName:K.lookup C_NoName = some (excClassObj nm_NoName q_NoName C_NoName Ni_NoName bs_NoName bm_NoName true sn_NoName su_NoName ab_NoName co_NoName dd_NoName k0_NoName k1_NoName k2_NoName k3_NoName k5_NoName "ValueError.__new__"))
    (rv_NoName:PySem.HandSPX.refsVE bm_NoName = true)
    (xi_NoName:PySem.W.excIn K C_NoName vE "ValueError.__new__" = true)
    (sa_NoName:PySem.W.findIn K (.ref C_NoName) "__setattr__" = some (some (.builtin "object.__setattr__")))
    (ex_NoName:PySem.W.subIn K (.ref C_NoName) (.type "BaseException") = some true)
    (ty_NoName:PySem.W.typeIn K (.ref C_NoName) = some (.type "type"))
    (kC_NoName:PySem.W.keepIn K (.ref C_NoName) = true)
    (ga_NoName:PySem.W.findIn K (.ref C_NoName) "__getattribute__" = some (some (.builtin "BaseException.__getattribute__")))
    (gg_NoName:PySem.W.findIn K (.ref C_NoName) "__getattr__" = some none)
    (hd_NoName:PySem.W.hasDictIn K C_NoName = true)
    (ha_NoName:PySem.W.findIn K (.ref C_NoName) "__class__" = some (some (.builtin "object.__class__")))
    (hm_NoName:PySem.W.mroIn K C_NoName (.type "object") = some true)
    (lk_Twice:K.lookup C_Twice = some (excClassObj nm_Twice q_Twice C_Twice Ni_Twice bs_Twice bm_Twice true sn_Twice su_Twice ab_Twice co_Twice dd_Twice k0_Twice k1_Twice k2_Twice k3_Twice k5_Twice "ValueError.__new__"))
    (rv_Twice:PySem.HandSPX.refsVE bm_Twice = true)
    (xi_Twice:PySem.W.excIn K C_Twice vE "ValueError.__new__" = true)
    (sa_Twice:PySem.W.findIn K (.ref C_Twice) "__setattr__" = some (some (.builtin "object.__setattr__")))
    (ex_Twice:PySem.W.subIn K (.ref C_Twice) (.type "BaseException") = some true)
    (ty_Twice:PySem.W.typeIn K (.ref C_Twice) = some (.type "type"))
    (kC_Twice:PySem.W.keepIn K (.ref C_Twice) = true)
    (ga_Twice:PySem.W.findIn K (.ref C_Twice) "__getattribute__" = some (some (.builtin "BaseException.__getattribute__")))
    (gg_Twice:PySem.W.findIn K (.ref C_Twice) "__getattr__" = some none)
    (hd_Twice:PySem.W.hasDictIn K C_Twice = true)
    (ha_Twice:PySem.W.findIn K (.ref C_Twice) "__class__" = some (some (.builtin "object.__class__")))
    (hm_Twice:PySem.W.mroIn K C_Twice (.type "object") = some true)
    (is_NoName_BlockError:PySem.W.subIn K (.ref C_NoName) (.ref C_BlockError) = some true)
    (ne_NoName_BlockError:(Value.ref C_NoName == Value.ref C_BlockError) = false)
    (is_Twice_BlockError:PySem.W.subIn K (.ref C_Twice) (.ref C_BlockError) = some true)
    (ne_Twice_BlockError:(Value.ref C_Twice == Value.ref C_BlockError) = false)
    (is_Twice_NoName:PySem.W.subIn K (.ref C_Twice) (.ref C_NoName) = some false)
    (ne_Twice_NoName:(Value.ref C_Twice == Value.ref C_NoName) = false)
    (is_NoName_NoStroke:PySem.W.subIn K (.ref C_NoName) (.ref C_NoStroke) = some false)
    (ne_NoName_NoStroke:(Value.ref C_NoName == Value.ref C_NoStroke) = false)
    (is_Twice_NoStroke:PySem.W.subIn K (.ref C_Twice) (.ref C_NoStroke) = some false)
    (ne_Twice_NoStroke:(Value.ref C_Twice == Value.ref C_NoStroke) = false)
    (is_NoName_Order:PySem.W.subIn K (.ref C_NoName) (.ref C_Order) = some false)
    (ne_NoName_Order:(Value.ref C_NoName == Value.ref C_Order) = false)
    (is_Twice_Order:PySem.W.subIn K (.ref C_Twice) (.ref C_Order) = some false)
    (ne_Twice_Order:(Value.ref C_Twice == Value.ref C_Order) = false)
    (is_NoName_Twice:PySem.W.subIn K (.ref C_NoName) (.ref C_Twice) = some false)
    (ne_NoName_Twice:(Value.ref C_NoName == Value.ref C_Twice) = false)
    (is_NoName_ValueError:PySem.W.subIn K (.ref C_NoName) (.type "ValueError") = some true)
    (is_Twice_ValueError:PySem.W.subIn K (.ref C_Twice) (.type "ValueError") = some true)
    (is_NoName_Wrong:PySem.W.subIn K (.ref C_NoName) (.ref C_Wrong) = some false)
    (ne_NoName_Wrong:(Value.ref C_NoName == Value.ref C_Wrong) = false)
    (is_Twice_Wrong:PySem.W.subIn K (.ref C_Twice) (.ref C_Wrong) = some false)
    (ne_Twice_Wrong:(Value.ref C_Twice == Value.ref C_Wrong) = false)
    (nn_BlockError:PySem.W.subIn K (.type "NoneType") (.ref C_BlockError) = some false)
    (nn_NoName:PySem.W.subIn K (.type "NoneType") (.ref C_NoName) = some false)
    (nn_NoStroke:PySem.W.subIn K (.type "NoneType") (.ref C_NoStroke) = some false)
    (nn_Order:PySem.W.subIn K (.type "NoneType") (.ref C_Order) = some false)
    (nn_Twice:PySem.W.subIn K (.type "NoneType") (.ref C_Twice) = some false)
    (nn_Wrong:PySem.W.subIn K (.type "NoneType") (.ref C_Wrong) = some false)
    (ex_BlockError:PySem.W.subIn K (.ref C_BlockError) (.type "BaseException") = some true)
    (su_NoName_BlockError:PySem.W.subIn K (.ref C_NoName) (.ref C_BlockError) = some true)
    (su_Twice_BlockError:PySem.W.subIn K (.ref C_Twice) (.ref C_BlockError) = some true)
    (hd_BlockError:PySem.W.hasDictIn K C_BlockError = true)
    (ty_BlockError:PySem.W.typeIn K (.ref C_BlockError) = some (.type "type"))
    (hd_NoStroke:PySem.W.hasDictIn K C_NoStroke = true)
    (ty_NoStroke:PySem.W.typeIn K (.ref C_NoStroke) = some (.type "type"))
    (hd_Order:PySem.W.hasDictIn K C_Order = true)
    (ty_Order:PySem.W.typeIn K (.ref C_Order) = some (.type "type"))
    (hd_Wrong:PySem.W.hasDictIn K C_Wrong = true)
    (ty_Wrong:PySem.W.typeIn K (.ref C_Wrong) = some (.type "type"))
    (opg_Shop:PySem.W.plainGet K C_Shop Str.empty = true)
    (ohd_Shop:PySem.W.hasDictIn K C_Shop = true)
    (opo_Shop:PySem.W.plainOver K C_Shop = true)
    (osa_Shop:PySem.W.findIn K (.ref C_Shop) "__setattr__" = some (some (.builtin "object.__setattr__")))
    (omk_Shop:PySem.W.makesIn K C_Shop = true)
    (okc_Shop:PySem.W.keepIn K (.ref C_Shop) = true)
    (on_Shop_bench:PySem.W.findIn K (.ref C_Shop) "bench" = some none)
    (on_Shop_size:PySem.W.findIn K (.ref C_Shop) "size" = some none)
    (on_Shop_states:PySem.W.findIn K (.ref C_Shop) "states" = some none)
    (on_Shop_woods:PySem.W.findIn K (.ref C_Shop) "woods" = some none)
    (on_Shop_prints:PySem.W.findIn K (.ref C_Shop) "prints" = some none)
    (a0:PySem.W.nsIn K mainGlobals "_law_pool" = some (some (.ref f0))) (l0:K.lookup f0 = some ⟨oc0,od0,.func (PySem.W.fnOf "_law_pool" "_law_pool" (defArgs s_pool) (defBody s_pool) (defScope s_pool) .none kV0 dc0 pm0 an0 cd0 ct0),sl0⟩) (c0:PySem.W.codeIn K cd0 "_law_pool" = true) (k0:PySem.W.keepIn K (.ref f0) = true)
    (a1:PySem.W.nsIn K mainGlobals "_law_take" = some (some (.ref f1))) (l1:K.lookup f1 = some ⟨oc1,od1,.func (PySem.W.fnOf "_law_take" "_law_take" (defArgs s_take) (defBody s_take) (defScope s_take) .none kV1 dc1 pm1 an1 cd1 ct1),sl1⟩) (c1:PySem.W.codeIn K cd1 "_law_take" = true) (k1:PySem.W.keepIn K (.ref f1) = true)
    (a2:PySem.W.nsIn K mainGlobals "_law_word" = some (some (.ref f2))) (l2:K.lookup f2 = some ⟨oc2,od2,.func (PySem.W.fnOf "_law_word" "_law_word" (defArgs s_word) (defBody s_word) (defScope s_word) .none kV2 dc2 pm2 an2 cd2 ct2),sl2⟩) (c2:PySem.W.codeIn K cd2 "_law_word" = true) (k2:PySem.W.keepIn K (.ref f2) = true)
    (a3:PySem.W.nsIn K mainGlobals "_law_bench" = some (some (.ref f3))) (l3:K.lookup f3 = some ⟨oc3,od3,.func (PySem.W.fnOf "_law_bench" "_law_bench" (defArgs s_bench) (defBody s_bench) (defScope s_bench) .none kV3 dc3 pm3 an3 cd3 ct3),sl3⟩) (c3:PySem.W.codeIn K cd3 "_law_bench" = true) (k3:PySem.W.keepIn K (.ref f3) = true)
    (a4:PySem.W.nsIn K mainGlobals "_law_size" = some (some (.ref f4))) (l4:K.lookup f4 = some ⟨oc4,od4,.func (PySem.W.fnOf "_law_size" "_law_size" (defArgs s_size) (defBody s_size) (defScope s_size) .none kV4 dc4 pm4 an4 cd4 ct4),sl4⟩) (c4:PySem.W.codeIn K cd4 "_law_size" = true) (k4:PySem.W.keepIn K (.ref f4) = true)
    (a5:PySem.W.findIn K (.ref C_Shop) "__init__" = some (some (.ref f5)))
    (i5:PySem.W.isFn K (.ref f5) = true)
    (l5:K.lookup f5 = some ⟨oc5,od5,.func (PySem.W.fnOf "__init__" "Shop.__init__" (defArgs s_Shop_init) (defBody s_Shop_init) (defScope s_Shop_init) .none kV5 dc5 pm5 an5 cd5 ct5),sl5⟩)
    (c5:PySem.W.codeIn K cd5 "Shop.__init__" = true)
    (k5:PySem.W.keepIn K (.ref f5) = true)
    (a6:PySem.W.nsIn K mainGlobals "_law_cell_at" = some (some (.ref f6))) (l6:K.lookup f6 = some ⟨oc6,od6,.func (PySem.W.fnOf "_law_cell_at" "_law_cell_at" (defArgs s_cell_at) (defBody s_cell_at) (defScope s_cell_at) .none kV6 dc6 pm6 an6 cd6 ct6),sl6⟩) (c6:PySem.W.codeIn K cd6 "_law_cell_at" = true) (k6:PySem.W.keepIn K (.ref f6) = true)
    (a7:PySem.W.nsIn K mainGlobals "is_word" = some (some (.ref f7))) (l7:K.lookup f7 = some ⟨oc7,od7,.func (PySem.W.fnOf "is_word" "is_word" (defArgs s_is_word) (defBody s_is_word) (defScope s_is_word) .none kV7 dc7 pm7 an7 cd7 ct7),sl7⟩) (c7:PySem.W.codeIn K cd7 "is_word" = true) (k7:PySem.W.keepIn K (.ref f7) = true)
    (a8:PySem.W.findIn K (.ref C_Shop) "look_at_new" = some (some (.ref f8)))
    (i8:PySem.W.isFn K (.ref f8) = true)
    (l8:K.lookup f8 = some ⟨oc8,od8,.func (PySem.W.fnOf "look_at_new" "Shop.look_at_new" (defArgs s_Shop_look_at_new) (defBody s_Shop_look_at_new) (defScope s_Shop_look_at_new) .none kV8 dc8 pm8 an8 cd8 ct8),sl8⟩)
    (c8:PySem.W.codeIn K cd8 "Shop.look_at_new" = true)
    (k8:PySem.W.keepIn K (.ref f8) = true)
    (a9:PySem.W.nsIn K mainGlobals "all_of" = some (some (.ref f9))) (l9:K.lookup f9 = some ⟨oc9,od9,.func (PySem.W.fnOf "all_of" "all_of" (defArgs s_all_of) (defBody s_all_of) (defScope s_all_of) .none kV9 dc9 pm9 an9 cd9 ct9),sl9⟩) (c9:PySem.W.codeIn K cd9 "all_of" = true) (k9:PySem.W.keepIn K (.ref f9) = true)
    (a10:PySem.W.findIn K (.ref C_Shop) "block" = some (some (.ref f10)))
    (i10:PySem.W.isFn K (.ref f10) = true)
    (l10:K.lookup f10 = some ⟨oc10,od10,.func (PySem.W.fnOf "block" "Shop.block" (defArgs s_Shop_block) (defBody s_Shop_block) (defScope s_Shop_block) .none kV10 dc10 pm10 an10 cd10 ct10),sl10⟩)
    (c10:PySem.W.codeIn K cd10 "Shop.block" = true)
    (k10:PySem.W.keepIn K (.ref f10) = true)
    (a11:PySem.W.findIn K (.ref C_Shop) "sheet" = some (some (.ref f11)))
    (i11:PySem.W.isFn K (.ref f11) = true)
    (l11:K.lookup f11 = some ⟨oc11,od11,.func (PySem.W.fnOf "sheet" "Shop.sheet" (defArgs s_Shop_sheet) (defBody s_Shop_sheet) (defScope s_Shop_sheet) .none kV11 dc11 pm11 an11 cd11 ct11),sl11⟩)
    (c11:PySem.W.codeIn K cd11 "Shop.sheet" = true)
    (k11:PySem.W.keepIn K (.ref f11) = true)
    (a12:PySem.W.findIn K (.ref C_Shop) "look_at_known" = some (some (.ref f12)))
    (i12:PySem.W.isFn K (.ref f12) = true)
    (l12:K.lookup f12 = some ⟨oc12,od12,.func (PySem.W.fnOf "look_at_known" "Shop.look_at_known" (defArgs s_Shop_look_at_known) (defBody s_Shop_look_at_known) (defScope s_Shop_look_at_known) .none kV12 dc12 pm12 an12 cd12 ct12),sl12⟩)
    (c12:PySem.W.codeIn K cd12 "Shop.look_at_known" = true)
    (k12:PySem.W.keepIn K (.ref f12) = true)
    (a13:PySem.W.findIn K (.ref C_Shop) "spoil" = some (some (.ref f13)))
    (i13:PySem.W.isFn K (.ref f13) = true)
    (l13:K.lookup f13 = some ⟨oc13,od13,.func (PySem.W.fnOf "spoil" "Shop.spoil" (defArgs s_Shop_spoil) (defBody s_Shop_spoil) (defScope s_Shop_spoil) .none kV13 dc13 pm13 an13 cd13 ct13),sl13⟩)
    (c13:PySem.W.codeIn K cd13 "Shop.spoil" = true)
    (k13:PySem.W.keepIn K (.ref f13) = true)
    (a14:PySem.W.findIn K (.ref C_Shop) "wood" = some (some (.ref f14)))
    (i14:PySem.W.isFn K (.ref f14) = true)
    (l14:K.lookup f14 = some ⟨oc14,od14,.func (PySem.W.fnOf "wood" "Shop.wood" (defArgs s_Shop_wood) (defBody s_Shop_wood) (defScope s_Shop_wood) .none kV14 dc14 pm14 an14 cd14 ct14),sl14⟩)
    (c14:PySem.W.codeIn K cd14 "Shop.wood" = true)
    (k14:PySem.W.keepIn K (.ref f14) = true)
    (a15:PySem.W.nsIn K mainGlobals "stack_at" = some (some (.ref f15))) (l15:K.lookup f15 = some ⟨oc15,od15,.func (PySem.W.fnOf "stack_at" "stack_at" (defArgs s_stack_at) (defBody s_stack_at) (defScope s_stack_at) .none kV15 dc15 pm15 an15 cd15 ct15),sl15⟩) (c15:PySem.W.codeIn K cd15 "stack_at" = true) (k15:PySem.W.keepIn K (.ref f15) = true)
    (a16:PySem.W.nsIn K mainGlobals "laid" = some (some (.ref f16))) (l16:K.lookup f16 = some ⟨oc16,od16,.func (PySem.W.fnOf "laid" "laid" (defArgs s_laid) (defBody s_laid) (defScope s_laid) .none kV16 dc16 pm16 an16 cd16 ct16),sl16⟩) (c16:PySem.W.codeIn K cd16 "laid" = true) (k16:PySem.W.keepIn K (.ref f16) = true)
    (a17:PySem.W.nsIn K mainGlobals "colour_of" = some (some (.ref f17))) (l17:K.lookup f17 = some ⟨oc17,od17,.func (PySem.W.fnOf "colour_of" "colour_of" (defArgs s_colour_of) (defBody s_colour_of) (defScope s_colour_of) .none kV17 dc17 pm17 an17 cd17 ct17),sl17⟩) (c17:PySem.W.codeIn K cd17 "colour_of" = true) (k17:PySem.W.keepIn K (.ref f17) = true)
    (a18:PySem.W.nsIn K mainGlobals "pressed" = some (some (.ref f18))) (l18:K.lookup f18 = some ⟨oc18,od18,.func (PySem.W.fnOf "pressed" "pressed" (defArgs s_pressed) (defBody s_pressed) (defScope s_pressed) .none kV18 dc18 pm18 an18 cd18 ct18),sl18⟩) (c18:PySem.W.codeIn K cd18 "pressed" = true) (k18:PySem.W.keepIn K (.ref f18) = true)
    (a19:PySem.W.findIn K (.ref C_Shop) "shows" = some (some (.ref f19)))
    (i19:PySem.W.isFn K (.ref f19) = true)
    (l19:K.lookup f19 = some ⟨oc19,od19,.func (PySem.W.fnOf "shows" "Shop.shows" (defArgs s_Shop_shows) (defBody s_Shop_shows) (defScope s_Shop_shows) .none kV19 dc19 pm19 an19 cd19 ct19),sl19⟩)
    (c19:PySem.W.codeIn K cd19 "Shop.shows" = true)
    (k19:PySem.W.keepIn K (.ref f19) = true)
    (a20:PySem.W.findIn K (.ref C_Shop) "lacks" = some (some (.ref f20)))
    (i20:PySem.W.isFn K (.ref f20) = true)
    (l20:K.lookup f20 = some ⟨oc20,od20,.func (PySem.W.fnOf "lacks" "Shop.lacks" (defArgs s_Shop_lacks) (defBody s_Shop_lacks) (defScope s_Shop_lacks) .none kV20 dc20 pm20 an20 cd20 ct20),sl20⟩)
    (c20:PySem.W.codeIn K cd20 "Shop.lacks" = true)
    (k20:PySem.W.keepIn K (.ref f20) = true)
    (a21:PySem.W.nsIn K mainGlobals "_law_kind" = some (some (.ref f21))) (l21:K.lookup f21 = some ⟨oc21,od21,.func (PySem.W.fnOf "_law_kind" "_law_kind" (defArgs s_kind) (defBody s_kind) (defScope s_kind) .none kV21 dc21 pm21 an21 cd21 ct21),sl21⟩) (c21:PySem.W.codeIn K cd21 "_law_kind" = true) (k21:PySem.W.keepIn K (.ref f21) = true)
    (a22:PySem.W.nsIn K mainGlobals "_law_done" = some (some (.ref f22))) (l22:K.lookup f22 = some ⟨oc22,od22,.func (PySem.W.fnOf "_law_done" "_law_done" (defArgs s_done) (defBody s_done) (defScope s_done) .none kV22 dc22 pm22 an22 cd22 ct22),sl22⟩) (c22:PySem.W.codeIn K cd22 "_law_done" = true) (k22:PySem.W.keepIn K (.ref f22) = true)
    (a23:PySem.W.nsIn K mainGlobals "_law_told" = some (some (.ref f23))) (l23:K.lookup f23 = some ⟨oc23,od23,.func (PySem.W.fnOf "_law_told" "_law_told" (defArgs s_told) (defBody s_told) (defScope s_told) .none kV23 dc23 pm23 an23 cd23 ct23),sl23⟩) (c23:PySem.W.codeIn K cd23 "_law_told" = true) (k23:PySem.W.keepIn K (.ref f23) = true)
    (a24:PySem.W.nsIn K mainGlobals "_law_due" = some (some (.ref f24))) (l24:K.lookup f24 = some ⟨oc24,od24,.func (PySem.W.fnOf "_law_due" "_law_due" (defArgs s_due) (defBody s_due) (defScope s_due) .none kV24 dc24 pm24 an24 cd24 ct24),sl24⟩) (c24:PySem.W.codeIn K cd24 "_law_due" = true) (k24:PySem.W.keepIn K (.ref f24) = true)
    (a25:PySem.W.nsIn K mainGlobals "_law_full" = some (some (.ref f25))) (l25:K.lookup f25 = some ⟨oc25,od25,.func (PySem.W.fnOf "_law_full" "_law_full" (defArgs s_full) (defBody s_full) (defScope s_full) .none kV25 dc25 pm25 an25 cd25 ct25),sl25⟩) (c25:PySem.W.codeIn K cd25 "_law_full" = true) (k25:PySem.W.keepIn K (.ref f25) = true)
    (a26:PySem.W.nsIn K mainGlobals "_law_colour" = some (some (.ref f26))) (l26:K.lookup f26 = some ⟨oc26,od26,.func (PySem.W.fnOf "_law_colour" "_law_colour" (defArgs s_colour) (defBody s_colour) (defScope s_colour) .none kV26 dc26 pm26 an26 cd26 ct26),sl26⟩) (c26:PySem.W.codeIn K cd26 "_law_colour" = true) (k26:PySem.W.keepIn K (.ref f26) = true)
    (a27:PySem.W.nsIn K mainGlobals "_law_picture" = some (some (.ref f27))) (l27:K.lookup f27 = some ⟨oc27,od27,.func (PySem.W.fnOf "_law_picture" "_law_picture" (defArgs s_picture) (defBody s_picture) (defScope s_picture) .none kV27 dc27 pm27 an27 cd27 ct27),sl27⟩) (c27:PySem.W.codeIn K cd27 "_law_picture" = true) (k27:PySem.W.keepIn K (.ref f27) = true)
    (a28:PySem.W.findIn K (.ref C_Shop) "blocks" = some (some (.ref f28)))
    (i28:PySem.W.isFn K (.ref f28) = true)
    (l28:K.lookup f28 = some ⟨oc28,od28,.func (PySem.W.fnOf "blocks" "Shop.blocks" (defArgs s_Shop_blocks) (defBody s_Shop_blocks) (defScope s_Shop_blocks) .none kV28 dc28 pm28 an28 cd28 ct28),sl28⟩)
    (c28:PySem.W.codeIn K cd28 "Shop.blocks" = true)
    (k28:PySem.W.keepIn K (.ref f28) = true)
    (a29:PySem.W.findIn K (.ref C_Shop) "sheets" = some (some (.ref f29)))
    (i29:PySem.W.isFn K (.ref f29) = true)
    (l29:K.lookup f29 = some ⟨oc29,od29,.func (PySem.W.fnOf "sheets" "Shop.sheets" (defArgs s_Shop_sheets) (defBody s_Shop_sheets) (defScope s_Shop_sheets) .none kV29 dc29 pm29 an29 cd29 ct29),sl29⟩)
    (c29:PySem.W.codeIn K cd29 "Shop.sheets" = true)
    (k29:PySem.W.keepIn K (.ref f29) = true)
    (a30:PySem.W.nsIn K mainGlobals "_law_stands" = some (some (.ref f30))) (l30:K.lookup f30 = some ⟨oc30,od30,.func (PySem.W.fnOf "_law_stands" "_law_stands" (defArgs s_stands) (defBody s_stands) (defScope s_stands) .none kV30 dc30 pm30 an30 cd30 ct30),sl30⟩) (c30:PySem.W.codeIn K cd30 "_law_stands" = true) (k30:PySem.W.keepIn K (.ref f30) = true)
    (a31:PySem.W.nsIn K mainGlobals "law" = some (some (.ref f31))) (l31:K.lookup f31 = some ⟨oc31,od31,.func (PySem.W.fnOf "law" "law" (defArgs s_law) (defBody s_law) (defScope s_law) .none kV31 dc31 pm31 an31 cd31 ct31),sl31⟩) (c31:PySem.W.codeIn K cd31 "law" = true) (k31:PySem.W.keepIn K (.ref f31) = true) :
    ∃ fd:FuncData,(∀ (s:Shared) (v:Value),BindsTo s fd ⟨[v],[]⟩ [("_law_script",v)]) ∧ ∀ base:Heap,K.In base→base.Ns mainGlobals mg→FnOk l.prog w K mg base (L2.CX l.prog w) 6 fa fd ["_law_script"] (spF ⟨K,mK K⟩ (fun x:Sq Int×Unit=>m_law x.1) (fun x:Bool=>kFr K x)):=by
  have R_pool:Raw K mg "_law_pool" "_law_pool" s_pool:=⟨_,_,PySem.W.mg_of X G a0,fun_mk (st:=s_pool) l0 c0 k0⟩
  have R_take:Raw K mg "_law_take" "_law_take" s_take:=⟨_,_,PySem.W.mg_of X G a1,fun_mk (st:=s_take) l1 c1 k1⟩
  have R_word:Raw K mg "_law_word" "_law_word" s_word:=⟨_,_,PySem.W.mg_of X G a2,fun_mk (st:=s_word) l2 c2 k2⟩
  have R_bench:Raw K mg "_law_bench" "_law_bench" s_bench:=⟨_,_,PySem.W.mg_of X G a3,fun_mk (st:=s_bench) l3 c3 k3⟩
  have R_size:Raw K mg "_law_size" "_law_size" s_size:=⟨_,_,PySem.W.mg_of X G a4,fun_mk (st:=s_size) l4 c4 k4⟩
  have R_Shop_init:RawN K C_Shop "Shop.__init__" s_Shop_init:=⟨_,_,⟨omk_Shop,a5,i5,okc_Shop⟩,fun_mk (st:=s_Shop_init) l5 c5 k5⟩
  have R_cell_at:Raw K mg "_law_cell_at" "_law_cell_at" s_cell_at:=⟨_,_,PySem.W.mg_of X G a6,fun_mk (st:=s_cell_at) l6 c6 k6⟩
  have R_is_word:Raw K mg "is_word" "is_word" s_is_word:=⟨_,_,PySem.W.mg_of X G a7,fun_mk (st:=s_is_word) l7 c7 k7⟩
  have R_Shop_look_at_new:RawM K C_Shop "look_at_new" "Shop.look_at_new" s_Shop_look_at_new:=⟨_,_,⟨a8,i8,k8⟩,fun_mk (st:=s_Shop_look_at_new) l8 c8 k8⟩
  have R_all_of:Raw K mg "all_of" "all_of" s_all_of:=⟨_,_,PySem.W.mg_of X G a9,fun_mk (st:=s_all_of) l9 c9 k9⟩
  have R_Shop_block:RawM K C_Shop "block" "Shop.block" s_Shop_block:=⟨_,_,⟨a10,i10,k10⟩,fun_mk (st:=s_Shop_block) l10 c10 k10⟩
  have R_Shop_sheet:RawM K C_Shop "sheet" "Shop.sheet" s_Shop_sheet:=⟨_,_,⟨a11,i11,k11⟩,fun_mk (st:=s_Shop_sheet) l11 c11 k11⟩
  have R_Shop_look_at_known:RawM K C_Shop "look_at_known" "Shop.look_at_known" s_Shop_look_at_known:=⟨_,_,⟨a12,i12,k12⟩,fun_mk (st:=s_Shop_look_at_known) l12 c12 k12⟩
  have R_Shop_spoil:RawM K C_Shop "spoil" "Shop.spoil" s_Shop_spoil:=⟨_,_,⟨a13,i13,k13⟩,fun_mk (st:=s_Shop_spoil) l13 c13 k13⟩
  have R_Shop_wood:RawM K C_Shop "wood" "Shop.wood" s_Shop_wood:=⟨_,_,⟨a14,i14,k14⟩,fun_mk (st:=s_Shop_wood) l14 c14 k14⟩
  have R_stack_at:Raw K mg "stack_at" "stack_at" s_stack_at:=⟨_,_,PySem.W.mg_of X G a15,fun_mk (st:=s_stack_at) l15 c15 k15⟩
  have R_laid:Raw K mg "laid" "laid" s_laid:=⟨_,_,PySem.W.mg_of X G a16,fun_mk (st:=s_laid) l16 c16 k16⟩
  have R_colour_of:Raw K mg "colour_of" "colour_of" s_colour_of:=⟨_,_,PySem.W.mg_of X G a17,fun_mk (st:=s_colour_of) l17 c17 k17⟩
  have R_pressed:Raw K mg "pressed" "pressed" s_pressed:=⟨_,_,PySem.W.mg_of X G a18,fun_mk (st:=s_pressed) l18 c18 k18⟩
  have R_Shop_shows:RawM K C_Shop "shows" "Shop.shows" s_Shop_shows:=⟨_,_,⟨a19,i19,k19⟩,fun_mk (st:=s_Shop_shows) l19 c19 k19⟩
  have R_Shop_lacks:RawM K C_Shop "lacks" "Shop.lacks" s_Shop_lacks:=⟨_,_,⟨a20,i20,k20⟩,fun_mk (st:=s_Shop_lacks) l20 c20 k20⟩
  have R_kind:Raw K mg "_law_kind" "_law_kind" s_kind:=⟨_,_,PySem.W.mg_of X G a21,fun_mk (st:=s_kind) l21 c21 k21⟩
  have R_done:Raw K mg "_law_done" "_law_done" s_done:=⟨_,_,PySem.W.mg_of X G a22,fun_mk (st:=s_done) l22 c22 k22⟩
  have R_told:Raw K mg "_law_told" "_law_told" s_told:=⟨_,_,PySem.W.mg_of X G a23,fun_mk (st:=s_told) l23 c23 k23⟩
  have R_due:Raw K mg "_law_due" "_law_due" s_due:=⟨_,_,PySem.W.mg_of X G a24,fun_mk (st:=s_due) l24 c24 k24⟩
  have R_full:Raw K mg "_law_full" "_law_full" s_full:=⟨_,_,PySem.W.mg_of X G a25,fun_mk (st:=s_full) l25 c25 k25⟩
  have R_colour:Raw K mg "_law_colour" "_law_colour" s_colour:=⟨_,_,PySem.W.mg_of X G a26,fun_mk (st:=s_colour) l26 c26 k26⟩
  have R_picture:Raw K mg "_law_picture" "_law_picture" s_picture:=⟨_,_,PySem.W.mg_of X G a27,fun_mk (st:=s_picture) l27 c27 k27⟩
  have R_Shop_blocks:RawM K C_Shop "blocks" "Shop.blocks" s_Shop_blocks:=⟨_,_,⟨a28,i28,k28⟩,fun_mk (st:=s_Shop_blocks) l28 c28 k28⟩
  have R_Shop_sheets:RawM K C_Shop "sheets" "Shop.sheets" s_Shop_sheets:=⟨_,_,⟨a29,i29,k29⟩,fun_mk (st:=s_Shop_sheets) l29 c29 k29⟩
  have R_stands:Raw K mg "_law_stands" "_law_stands" s_stands:=⟨_,_,PySem.W.mg_of X G a30,fun_mk (st:=s_stands) l30 c30 k30⟩
  have R_law:Raw K mg "law" "law" s_law:=⟨_,_,PySem.W.mg_of X G a31,fun_mk (st:=s_law) l31 c31 k31⟩
  have X_NoName:=exK_mk (n:="NoName") hg_NoName lk_NoName rv_NoName sa_NoName ex_NoName ty_NoName kC_NoName ga_NoName gg_NoName hd_NoName ha_NoName hobj1 hobj2 hm_NoName
  have X_Twice:=exK_mk (n:="Twice") hg_Twice lk_Twice rv_Twice sa_Twice ex_Twice ty_Twice kC_Twice ga_Twice gg_Twice hd_Twice ha_Twice hobj1 hobj2 hm_Twice
  have T:Glb mg K (mK K) C_BlockError C_NoName C_NoStroke C_Order C_Shop C_Twice C_Wrong tok_LETTERS tok_LONGEST:=⟨PySem.W.mg_none_of X G hb_ValueError,PySem.W.mg_none_of X G hb_enumerate,PySem.W.mg_none_of X G hb_isinstance,PySem.W.mg_none_of X G hb_len,PySem.W.mg_none_of X G hb_list,PySem.W.mg_none_of X G hb_range,PySem.W.mg_none_of X G hb_sorted,PySem.W.mg_none_of X G hb_tuple,PySem.W.mg_of X G hc_LETTERS,PySem.W.mg_of X G hc_LONGEST,PySem.W.mg_of X G hg_BlockError,PySem.W.mg_of X G hg_NoName,PySem.W.mg_of X G hg_NoStroke,PySem.W.mg_of X G hg_Order,PySem.W.mg_of X G hg_Shop,PySem.W.mg_of X G hg_Twice,PySem.W.mg_of X G hg_Wrong,X_NoName,xi_NoName,mK_of hg_NoName,X_Twice,xi_Twice,mK_of hg_Twice,(isT_cons X_NoName (kit_own ne_NoName_BlockError hd_BlockError ty_BlockError is_NoName_BlockError) (isT_cons X_Twice (kit_own ne_Twice_BlockError hd_BlockError ty_BlockError is_Twice_BlockError) isT_nil)),(isT_cons X_NoName kit_self (isT_cons X_Twice (kit_own ne_Twice_NoName hd_NoName ty_NoName is_Twice_NoName) isT_nil)),(isT_cons X_NoName (kit_own ne_NoName_NoStroke hd_NoStroke ty_NoStroke is_NoName_NoStroke) (isT_cons X_Twice (kit_own ne_Twice_NoStroke hd_NoStroke ty_NoStroke is_Twice_NoStroke) isT_nil)),(isT_cons X_NoName (kit_own ne_NoName_Order hd_Order ty_Order is_NoName_Order) (isT_cons X_Twice (kit_own ne_Twice_Order hd_Order ty_Order is_Twice_Order) isT_nil)),(isT_cons X_NoName (kit_own ne_NoName_Twice hd_Twice ty_Twice is_NoName_Twice) (isT_cons X_Twice kit_self isT_nil)),(isT_cons X_NoName (kit_tyE (by decide +kernel) is_NoName_ValueError) (isT_cons X_Twice (kit_tyE (by decide +kernel) is_Twice_ValueError) isT_nil)),(isT_cons X_NoName (kit_own ne_NoName_Wrong hd_Wrong ty_Wrong is_NoName_Wrong) (isT_cons X_Twice (kit_own ne_Twice_Wrong hd_Wrong ty_Wrong is_Twice_Wrong) isT_nil)),kit_none hd_BlockError ty_BlockError nn_BlockError,kit_none hd_NoName ty_NoName nn_NoName,kit_none hd_NoStroke ty_NoStroke nn_NoStroke,kit_none hd_Order ty_Order nn_Order,kit_none hd_Twice ty_Twice nn_Twice,kit_ty (by decide +kernel),kit_none hd_Wrong ty_Wrong nn_Wrong,flT_nil,flT_nil,⟨hg_Shop,⟨opg_Shop,ohd_Shop,opo_Shop,osa_Shop⟩,(noA_cons on_Shop_bench (noA_cons on_Shop_size (noA_cons on_Shop_states (noA_cons on_Shop_woods (noA_cons on_Shop_prints noA_nil)))))⟩,(catT_cons X_NoName (PySem.W.exm_ref ex_BlockError hd_BlockError ty_BlockError su_NoName_BlockError) (catT_cons X_Twice (PySem.W.exm_ref ex_BlockError hd_BlockError ty_BlockError su_Twice_BlockError) catT_nil))⟩
  have e:=hfa.symm.trans (PySem.W.mg_of X G a31)
  cases e
  have FL:=fun_mk (st:=s_law) l31 c31 k31
  refine ⟨PySem.W.fnOf "law" "law" (defArgs s_law) (defBody s_law) (defScope s_law) .none kV31 dc31 pm31 an31 cd31 ct31,fun s v=>.of_eq rfl,fun base _ _=>?_⟩
  have C_m_pool:=ok_m_pool (P:=l.prog) (w:=w) (c:=⟨K,mK K⟩) (base:=base) T R_pool 
  have C_m_take:=ok_m_take (P:=l.prog) (w:=w) (c:=⟨K,mK K⟩) (base:=base) T R_take 
  have C_m_word:=ok_m_word (P:=l.prog) (w:=w) (c:=⟨K,mK K⟩) (base:=base) T R_word 
  have C_m_bench:=ok_m_bench (P:=l.prog) (w:=w) (c:=⟨K,mK K⟩) (base:=base) T R_bench C_m_take C_m_word
  have C_m_size:=ok_m_size (P:=l.prog) (w:=w) (c:=⟨K,mK K⟩) (base:=base) T R_size C_m_take
  have C_m_Shop_init:=ok_m_Shop_init (P:=l.prog) (w:=w) (c:=⟨K,mK K⟩) (base:=base) T R_Shop_init 
  have C_m_cell_at:=ok_m_cell_at (P:=l.prog) (w:=w) (c:=⟨K,mK K⟩) (base:=base) T R_cell_at 
  have C_m_is_word:=ok_m_is_word (P:=l.prog) (w:=w) (c:=⟨K,mK K⟩) (base:=base) T R_is_word 
  have C_m_Shop_look_at_new:=ok_m_Shop_look_at_new (P:=l.prog) (w:=w) (c:=⟨K,mK K⟩) (base:=base) T R_Shop_look_at_new C_m_is_word
  have C_m_all_of:=ok_m_all_of (P:=l.prog) (w:=w) (c:=⟨K,mK K⟩) (base:=base) T R_all_of 
  have C_m_Shop_block:=ok_m_Shop_block (P:=l.prog) (w:=w) (c:=⟨K,mK K⟩) (base:=base) T R_Shop_block C_m_Shop_look_at_new C_m_all_of
  have C_m_Shop_look_at_new_2:=ok_m_Shop_look_at_new_2 (P:=l.prog) (w:=w) (c:=⟨K,mK K⟩) (base:=base) T R_Shop_look_at_new C_m_is_word
  have C_m_Shop_sheet:=ok_m_Shop_sheet (P:=l.prog) (w:=w) (c:=⟨K,mK K⟩) (base:=base) T R_Shop_sheet C_m_Shop_look_at_new_2
  have C_m_Shop_look_at_known:=ok_m_Shop_look_at_known (P:=l.prog) (w:=w) (c:=⟨K,mK K⟩) (base:=base) T R_Shop_look_at_known 
  have C_m_Shop_spoil:=ok_m_Shop_spoil (P:=l.prog) (w:=w) (c:=⟨K,mK K⟩) (base:=base) T R_Shop_spoil C_m_Shop_look_at_known
  have C_m_Shop_look_at_known_2:=ok_m_Shop_look_at_known_2 (P:=l.prog) (w:=w) (c:=⟨K,mK K⟩) (base:=base) T R_Shop_look_at_known 
  have C_m_Shop_wood:=ok_m_Shop_wood (P:=l.prog) (w:=w) (c:=⟨K,mK K⟩) (base:=base) T R_Shop_wood C_m_Shop_look_at_known_2
  have C_m_stack_at:=ok_m_stack_at (P:=l.prog) (w:=w) (c:=⟨K,mK K⟩) (base:=base) T R_stack_at 
  have C_m_laid:=ok_m_laid (P:=l.prog) (w:=w) (c:=⟨K,mK K⟩) (base:=base) T R_laid 
  have C_m_colour_of:=ok_m_colour_of (P:=l.prog) (w:=w) (c:=⟨K,mK K⟩) (base:=base) T R_colour_of C_m_laid
  have C_m_pressed:=ok_m_pressed (P:=l.prog) (w:=w) (c:=⟨K,mK K⟩) (base:=base) T R_pressed C_m_stack_at C_m_colour_of
  have C_m_Shop_shows:=ok_m_Shop_shows (P:=l.prog) (w:=w) (c:=⟨K,mK K⟩) (base:=base) T R_Shop_shows C_m_Shop_look_at_known C_m_pressed
  have C_m_Shop_lacks:=ok_m_Shop_lacks (P:=l.prog) (w:=w) (c:=⟨K,mK K⟩) (base:=base) T R_Shop_lacks C_m_Shop_look_at_known
  have C_m_kind:=ok_m_kind (P:=l.prog) (w:=w) (c:=⟨K,mK K⟩) (base:=base) T R_kind 
  have C_m_done:=ok_m_done (P:=l.prog) (w:=w) (c:=⟨K,mK K⟩) (base:=base) T R_done C_m_Shop_block C_m_Shop_sheet C_m_Shop_spoil C_m_Shop_wood C_m_Shop_shows C_m_Shop_lacks C_m_kind
  have C_m_told:=ok_m_told (P:=l.prog) (w:=w) (c:=⟨K,mK K⟩) (base:=base) T R_told 
  have C_m_due:=ok_m_due (P:=l.prog) (w:=w) (c:=⟨K,mK K⟩) (base:=base) T R_due 
  have C_m_full:=ok_m_full (P:=l.prog) (w:=w) (c:=⟨K,mK K⟩) (base:=base) T R_full 
  have C_m_colour:=ok_m_colour (P:=l.prog) (w:=w) (c:=⟨K,mK K⟩) (base:=base) T R_colour 
  have C_m_picture:=ok_m_picture (P:=l.prog) (w:=w) (c:=⟨K,mK K⟩) (base:=base) T R_picture C_m_colour
  have C_m_Shop_blocks:=ok_m_Shop_blocks (P:=l.prog) (w:=w) (c:=⟨K,mK K⟩) (base:=base) T R_Shop_blocks 
  have C_m_Shop_sheets:=ok_m_Shop_sheets (P:=l.prog) (w:=w) (c:=⟨K,mK K⟩) (base:=base) T R_Shop_sheets 
  have C_m_stands:=ok_m_stands (P:=l.prog) (w:=w) (c:=⟨K,mK K⟩) (base:=base) T R_stands C_m_Shop_blocks C_m_Shop_sheets
  exact ok_m_law_F T FL C_m_pool C_m_bench C_m_size C_m_Shop_init C_m_cell_at C_m_done C_m_told C_m_due C_m_full C_m_picture C_m_stands C_m_Shop_blocks C_m_Shop_sheets
end Wk

open PySem PySem.W PySem.Calls PyProof.Rows
set_option maxRecDepth 100000 in
set_option maxHeartbeats 0 in
theorem PySem.Challenge.cw_lostblock_k53_names_of_a_shop_holds : PySem.Challenge.rw_lostblock_k53_names_of_a_shop.Holds := by
  w_on; o_law
  refine HandSHeadRun.head_any (r := Hd.R) (q := Hd.q) (H := kHook Hd.z.heap_1 Hd.as0 Hd.ek) (ob := Hd.ob) (M := 6632) (loose := Hd.names) (d := HandSHeadRun.topDef Hd.R.prog 45) (kwd := []) Hd.ob_eq (by kernel_rfl) (fun s => by kernel_rfl) Hd.run (by kernel_rfl) (by kernel_rfl) (by kernel_rfl) (by rfl) (by first | assumption | decide +kernel) (by decide +kernel) ⟨rfl, rfl, rfl, rfl, rfl, by decide +kernel⟩ ?hw ?hc
  case hw => w_witness2
  case hc =>
    k_fill
    refine Fw.walk_lawM (l := PySem.Challenge.rw_lostblock_k53_names_of_a_shop) (k := 6) (x := "_law_script") (f := Mir.m_law) Ma.law_true rfl rfl ⟨rfl, by decide, by decide⟩ (fun w h Y => PySem.W.kIn_of Y) ?F
    case F =>
      intro w mg fa h KX G hmg
      refine' Wk.all_mk KX G hmg ?x0 ?x1 ?x2 ?x3 ?x4 ?x5 ?x6 ?x7 ?x8 ?x9 ?x10 ?x11 ?x12 ?x13 ?x14 ?x15 ?x16 ?x17 ?x18 ?x19 ?x20 ?x21 ?x22 ?x23 ?x24 ?x25 ?x26 ?x27 ?x28 ?x29 ?x30 ?x31 ?x32 ?x33 ?x34 ?x35 ?x36 ?x37 ?x38 ?x39 ?x40 ?x41 ?x42 ?x43 ?x44 ?x45 ?x46 ?x47 ?x48 ?x49 ?x50 ?x51 ?x52 ?x53 ?x54 ?x55 ?x56 ?x57 ?x58 ?x59 ?x60 ?x61 ?x62 ?x63 ?x64 ?x65 ?x66 ?x67 ?x68 ?x69 ?x70 ?x71 ?x72 ?x73 ?x74 ?x75 ?x76 ?x77 ?x78 ?x79 ?x80 ?x81 ?x82 ?x83 ?x84 ?x85 ?x86 ?x87 ?x88 ?x89 ?x90 ?x91 ?x92 ?x93 ?x94 ?x95 ?x96 ?x97 ?x98 ?x99 ?x100 ?x101 ?x102 ?x103 ?x104 ?x105 ?x106 ?x107 ?x108 ?x109 ?x110 ?x111 ?x112 ?x113 ?x114 ?x115 ?x116 ?x117 ?x118 ?x119 ?x120 ?x121 ?x122 ?x123 ?x124 ?x125 ?x126 ?x127 ?x128 ?x129 ?x130 ?x131 ?x132 ?x133 ?x134 ?x135 ?x136 ?x137 ?x138 ?x139 ?x140 ?x141 ?x142 ?x143 ?x144 ?x145 ?x146 ?x147 ?x148 ?x149 ?x150 ?x151 ?x152 ?x153 ?x154 ?x155 ?x156 ?x157 ?x158 ?x159 ?x160 ?x161 ?x162 ?x163 ?x164 ?x165 ?x166 ?x167 ?x168 ?x169 ?x170 ?x171 ?x172 ?x173 ?x174 ?x175 ?x176 ?x177 ?x178 ?x179 ?x180 ?x181 ?x182 ?x183 ?x184 ?x185 ?x186 ?x187 ?x188 ?x189 ?x190 ?x191 ?x192 ?x193 ?x194 ?x195 ?x196 ?x197 ?x198 ?x199 ?x200 ?x201 ?x202 ?x203 ?x204 ?x205 ?x206 ?x207 ?x208 ?x209 ?x210 ?x211 ?x212 ?x213 ?x214 ?x215 ?x216 ?x217 ?x218 ?x219 ?x220 ?x221 ?x222 ?x223 ?x224 ?x225 ?x226 ?x227 ?x228 ?x229 ?x230 ?x231
      (case x0 => k_is)
      (case x1 => k_is)
      (case x2 => k_is)
      (case x3 => k_is)
      (case x4 => k_is)
      (case x5 => k_is)
      (case x6 => k_is)
      (case x7 => k_is)
      (case x8 => k_is)
      (case x9 => k_is)
      (case x10 => k_is)
      (case x11 => k_is)
      (case x12 => k_is)
      (case x13 => k_is)
      (case x14 => k_is)
      (case x15 => k_is)
      (case x16 => k_is)
      (case x17 => k_is)
      (case x18 => k_is)
      (case x19 => k_is)
      (case x20 => exact rfl)
      (case x21 => first | kernel_rfl | exact rfl)
      (case x22 => k_is)
      (case x23 => k_is)
      (case x24 => k_is)
      (case x25 => k_is)
      (case x26 => k_is)
      (case x27 => k_is)
      (case x28 => k_is)
      (case x29 => k_is)
      (case x30 => k_is)
      (case x31 => k_is)
      (case x32 => exact rfl)
      (case x33 => first | kernel_rfl | exact rfl)
      (case x34 => k_is)
      (case x35 => k_is)
      (case x36 => k_is)
      (case x37 => k_is)
      (case x38 => k_is)
      (case x39 => k_is)
      (case x40 => k_is)
      (case x41 => k_is)
      (case x42 => k_is)
      (case x43 => k_is)
      (case x44 => exact rfl)
      (case x45 => k_is)
      (case x46 => exact rfl)
      (case x47 => k_is)
      (case x48 => exact rfl)
      (case x49 => k_is)
      (case x50 => exact rfl)
      (case x51 => k_is)
      (case x52 => exact rfl)
      (case x53 => k_is)
      (case x54 => exact rfl)
      (case x55 => k_is)
      (case x56 => exact rfl)
      (case x57 => k_is)
      (case x58 => exact rfl)
      (case x59 => k_is)
      (case x60 => k_is)
      (case x61 => k_is)
      (case x62 => exact rfl)
      (case x63 => k_is)
      (case x64 => exact rfl)
      (case x65 => k_is)
      (case x66 => k_is)
      (case x67 => k_is)
      (case x68 => k_is)
      (case x69 => k_is)
      (case x70 => k_is)
      (case x71 => k_is)
      (case x72 => k_is)
      (case x73 => k_is)
      (case x74 => k_is)
      (case x75 => k_is)
      (case x76 => k_is)
      (case x77 => k_is)
      (case x78 => k_is)
      (case x79 => k_is)
      (case x80 => k_is)
      (case x81 => k_is)
      (case x82 => k_is)
      (case x83 => k_is)
      (case x84 => k_is)
      (case x85 => k_is)
      (case x86 => k_is)
      (case x87 => k_is)
      (case x88 => k_is)
      (case x89 => k_is)
      (case x90 => k_is)
      (case x91 => k_is)
      (case x92 => k_is)
      (case x93 => k_is)
      (case x94 => k_is)
      (case x95 => k_is)
      (case x96 => k_is)
      (case x97 => k_is)
      (case x98 => k_is)
      (case x99 => k_is)
      (case x100 => k_is)
      (case x101 => k_is)
      (case x102 => k_is)
      (case x103 => k_is)
      (case x104 => k_is)
      (case x105 => k_is)
      (case x106 => k_is)
      (case x107 => k_is)
      (case x108 => k_is)
      (case x109 => k_is)
      (case x110 => k_is)
      (case x111 => k_is)
      (case x112 => k_is)
      (case x113 => k_is)
      (case x114 => k_is)
      (case x115 => k_is)
      (case x116 => k_is)
      (case x117 => k_is)
      (case x118 => k_is)
      (case x119 => k_is)
      (case x120 => k_is)
      (case x121 => k_is)
      (case x122 => k_is)
      (case x123 => k_is)
      (case x124 => k_is)
      (case x125 => k_is)
      (case x126 => k_is)
      (case x127 => k_is)
      (case x128 => k_is)
      (case x129 => k_is)
      (case x130 => k_is)
      (case x131 => k_is)
      (case x132 => k_is)
      (case x133 => k_is)
      (case x134 => k_is)
      (case x135 => k_is)
      (case x136 => k_is)
      (case x137 => k_is)
      (case x138 => k_is)
      (case x139 => k_is)
      (case x140 => k_is)
      (case x141 => k_is)
      (case x142 => k_is)
      (case x143 => k_is)
      (case x144 => k_is)
      (case x145 => k_is)
      (case x146 => k_is)
      (case x147 => k_is)
      (case x148 => k_is)
      (case x149 => k_is)
      (case x150 => k_is)
      (case x151 => k_is)
      (case x152 => k_is)
      (case x153 => k_is)
      (case x154 => k_is)
      (case x155 => k_is)
      (case x156 => k_is)
      (case x157 => k_is)
      (case x158 => k_is)
      (case x159 => k_is)
      (case x160 => k_is)
      (case x161 => k_is)
      (case x162 => k_is)
      (case x163 => k_is)
      (case x164 => k_is)
      (case x165 => k_is)
      (case x166 => k_is)
      (case x167 => k_is)
      (case x168 => k_is)
      (case x169 => k_is)
      (case x170 => k_is)
      (case x171 => k_is)
      (case x172 => k_is)
      (case x173 => k_is)
      (case x174 => k_is)
      (case x175 => k_is)
      (case x176 => k_is)
      (case x177 => k_is)
      (case x178 => k_is)
      (case x179 => k_is)
      (case x180 => k_is)
      (case x181 => k_is)
      (case x182 => k_is)
      (case x183 => k_is)
      (case x184 => k_is)
      (case x185 => k_is)
      (case x186 => k_is)
      (case x187 => k_is)
      (case x188 => k_is)
      (case x189 => k_is)
      (case x190 => k_is)
      (case x191 => k_is)
      (case x192 => k_is)
      (case x193 => k_is)
      (case x194 => k_is)
      (case x195 => k_is)
      (case x196 => k_is)
      (case x197 => k_is)
      (case x198 => k_is)
      (case x199 => k_is)
      (case x200 => k_is)
      (case x201 => k_is)
      (case x202 => k_is)
      (case x203 => k_is)
      (case x204 => k_is)
      (case x205 => k_is)
      (case x206 => k_is)
      (case x207 => k_is)
      (case x208 => k_is)
      (case x209 => k_is)
      (case x210 => k_is)
      (case x211 => k_is)
      (case x212 => k_is)
      (case x213 => k_is)
      (case x214 => k_is)
      (case x215 => k_is)
      (case x216 => k_is)
      (case x217 => k_is)
      (case x218 => k_is)
      (case x219 => k_is)
      (case x220 => k_is)
      (case x221 => k_is)
      (case x222 => k_is)
      (case x223 => k_is)
      (case x224 => k_is)
      (case x225 => k_is)
      (case x226 => k_is)
      (case x227 => k_is)
      (case x228 => k_is)
      (case x229 => k_is)
      (case x230 => k_is)
      (case x231 => k_is)
#print axioms PySem.Challenge.cw_lostblock_k53_names_of_a_shop_holds
