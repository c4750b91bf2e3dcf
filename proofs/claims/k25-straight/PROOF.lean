import PyProof.Rows.All
import Wide.All
import OpenK.AllK
import Wide.FinOn
import HandS.ForMost
import HandS.ForExc
import HandS.Walk
import HandS.Wide
import HandS.Flow
import HandS.Style
import HandS.Zip
import HandS.Conv
import HandS.IsInst
import HandS.Deep
import HandS.More
import HandS.Codes
import HandS.TupAny
import HandS.TupMul
import HandS.Gcd
import HandS.DictComp
import KE.GoesEnum
import HandS.CallLocal
import KE.KDictZip
import HandS.SetFor
import HandS.SortOrd
import HandS.Ends
import HandS.Words
import HandS.Defaults
import HandS.Head0
import HandS.Head1
import HandS.Head2
import HandS.Head3
import HandS.HeadEnd
import HandS.HeadHook1
import HandS.HeadHook2
import PySem.Challenge.RW_choiceshown_k25_whole_wishes_straight_in
set_option Elab.async false
set_option linter.all false
set_option maxRecDepth 100000
set_option maxHeartbeats 0
namespace Dv
open PySem PySem.Spec
open PyProof.Rows L2

/-- data: what a value is, without addresses -/
inductive D where
  | non | bl (b : Bool) | int (i : Int) | str (x : Str)
  | tup (ds : List D) | kt (ds : List D) | lst (ds : List D)
  | dK (kvs : List (Key × D)) | dT (kvs : List (List Key × D))
  | rng (a : Addr) | fn (a : Addr) | scr (ns : List Int)

/-- at v, in the frozen part F of the heap, lies d -/
inductive Rep (K : PySem.W.Frag) (F : Hp) : V → D → Prop
  | non : Rep K F .non .non
  | bl (b : Bool) : Rep K F (.bl b) (.bl b)
  | int (i : Int) : Rep K F (.int i) (.int i)
  | str (x : Str) : Rep K F (.str x) (.str x)
  | tup {a : Addr} {vs : List V} {ds : List D} (h : F a = some (.tup vs)) (hz : ds.length ≤ sizeLine) (hl : vs.length = ds.length) (r : ∀ (i : Nat) v d, vs[i]? = some v → ds[i]? = some d → Rep K F v d) : Rep K F (.ref a) (.tup ds)
  | kt {a : Addr} {vs : List V} {ds : List D} (h : SqT K (fun _ => none) a vs) (hl : vs.length = ds.length) (r : ∀ (i : Nat) v d, vs[i]? = some v → ds[i]? = some d → Rep K F v d) : Rep K F (.ref a) (.kt ds)
  | lst {a : Addr} {vs : List V} {ds : List D} (h : F a = some (.lst vs)) (hz : ds.length ≤ sizeLine) (hl : vs.length = ds.length) (r : ∀ (i : Nat) v d, vs[i]? = some v → ds[i]? = some d → Rep K F v d) : Rep K F (.ref a) (.lst ds)
  | dK {a : Addr} {kvs : List (Key × V)} {ds : List (Key × D)} (h : F a = some (.dK kvs)) (hk : kvs.map (·.1) = ds.map (·.1)) (r : ∀ (i : Nat) v d, kvs[i]? = some v → ds[i]? = some d → Rep K F v.2 d.2) : Rep K F (.ref a) (.dK ds)
  | dT {a : Addr} {kvs : List (List Key × V)} {ds : List (List Key × D)} (h : F a = some (.dT kvs)) (hk : kvs.map (·.1) = ds.map (·.1)) (r : ∀ (i : Nat) v d, kvs[i]? = some v → ds[i]? = some d → Rep K F v.2 d.2) : Rep K F (.ref a) (.dT ds)
  | rng (a : Addr) : Rep K F (.ref a) (.rng a)
  | fn (a : Addr) : Rep K F (.ref a) (.fn a)
  | scr {a : Addr} {ns : List Int} (h : SqL K F a (ns.map V.int)) : Rep K F (.ref a) (.scr ns)

abbrev RepL (K : PySem.W.Frag) (F : Hp) : List V → List D → Prop := Paired (Rep K F)
abbrev RepP {κ : Type} (K : PySem.W.Frag) (F : Hp) : List (κ × V) → List (κ × D) → Prop := Paired fun p q => p.1 = q.1 ∧ Rep K F p.2 q.2

abbrev Le (F F' : Hp) : Prop := Same F F'

section paired
variable {α β : Type} {R : α → β → Prop}
theorem paired_of : ∀ {xs : List α} {ys : List β}, xs.length = ys.length → (∀ (i : Nat) x y, xs[i]? = some x → ys[i]? = some y → R x y) → Paired R xs ys
  | [], [], _, _ => .nil
  | [], _ :: _, hlen, _ => by simp at hlen
  | _ :: _, [], hlen, _ => by simp at hlen
  | x :: xs, y :: ys, h, r => .cons (r 0 x y rfl rfl) (paired_of (by simpa using h) fun i a b e1 e2 => r (i + 1) a b (by simpa using e1) (by simpa using e2))
theorem paired_get : ∀ {xs : List α} {ys : List β}, Paired R xs ys → ∀ (i : Nat) x y, xs[i]? = some x → ys[i]? = some y → R x y
  | _, _, .nil, _, _, _, h, _ => by simp at h
  | _, _, .cons r _, 0, _, _, h1, h2 => by simp at h1 h2; subst h1; subst h2; exact r
  | _, _, .cons _ t, i + 1, _, _, h1, h2 => paired_get t i _ _ (by simpa using h1) (by simpa using h2)
theorem paired_get' {xs : List α} {ys : List β} (h : Paired R xs ys) {i : Nat} {y : β} (e : ys[i]? = some y) : ∃ x, xs[i]? = some x ∧ R x y := by
  have hl : xs.length = ys.length := Paired.length h
  have hi : i < ys.length := (List.getElem?_eq_some_iff.mp e).1
  refine ⟨xs[i]'(by omega), List.getElem?_eq_getElem _, paired_get h i _ _ (List.getElem?_eq_getElem _) e⟩
theorem paired_get'' {xs : List α} {ys : List β} (h : Paired R xs ys) {i : Nat} {x : α} (e : xs[i]? = some x) : ∃ y, ys[i]? = some y ∧ R x y := by
  have hl : xs.length = ys.length := Paired.length h
  have hi : i < xs.length := (List.getElem?_eq_some_iff.mp e).1
  refine ⟨ys[i]'(by omega), List.getElem?_eq_getElem _, paired_get h i _ _ e (List.getElem?_eq_getElem _)⟩
theorem paired_app {xs xs' : List α} {ys ys' : List β} (h : Paired R xs ys) (h' : Paired R xs' ys') : Paired R (xs ++ xs') (ys ++ ys') := by
  induction h with
  | nil => exact h'
  | cons r _ ih => exact .cons r ih
theorem paired_set {x : α} {y : β} (r : R x y) : ∀ {xs : List α} {ys : List β} (i : Nat), Paired R xs ys → Paired R (xs.set i x) (ys.set i y)
  | _, _, _, .nil => .nil
  | _, _, 0, .cons _ tt => .cons r tt
  | _, _, i + 1, .cons q t => .cons q (paired_set r i t)
theorem paired_take : ∀ {xs : List α} {ys : List β} (n : Nat), Paired R xs ys → Paired R (xs.take n) (ys.take n)
  | _, _, 0, _ => by simp; exact .nil
  | _, _, _ + 1, .nil => .nil
  | _, _, n + 1, .cons r t => .cons r (paired_take n t)
theorem paired_drop : ∀ {xs : List α} {ys : List β} (n : Nat), Paired R xs ys → Paired R (xs.drop n) (ys.drop n)
  | _, _, 0, h => h
  | _, _, _ + 1, .nil => .nil
  | _, _, n + 1, .cons _ t => paired_drop n t
theorem paired_rev {xs : List α} {ys : List β} (h : Paired R xs ys) : Paired R xs.reverse ys.reverse := by
  induction h with
  | nil => exact .nil
  | cons r _ ih => simp only [List.reverse_cons]; exact paired_app ih (.cons r .nil)
theorem paired_eraseIdx : ∀ {xs : List α} {ys : List β} (n : Nat), Paired R xs ys → Paired R (xs.eraseIdx n) (ys.eraseIdx n)
  | _, _, _, .nil => .nil
  | _, _, 0, .cons _ t => t
  | _, _, n + 1, .cons r t => .cons r (paired_eraseIdx n t)
theorem paired_dropLast {xs : List α} {ys : List β} (h : Paired R xs ys) : Paired R xs.dropLast ys.dropLast := by
  rw [List.dropLast_eq_take, List.dropLast_eq_take, Paired.length h]; exact paired_take _ h
theorem paired_mono {R' : α → β → Prop} {xs : List α} {ys : List β} (h : Paired R xs ys) (f : ∀ a b, R a b → R' a b) : Paired R' xs ys := Paired.mapP h f
theorem paired_repl {x : α} {y : β} (r : R x y) : ∀ n, Paired R (List.replicate n x) (List.replicate n y)
  | 0 => .nil
  | n + 1 => .cons r (paired_repl r n)
theorem paired_map2 {α' β' : Type} {R' : α' → β' → Prop} {f : α → α'} {g : β → β'} {xs : List α} {ys : List β} (h : Paired R xs ys) (k : ∀ a b, R a b → R' (f a) (g b)) : Paired R' (xs.map f) (ys.map g) := by
  induction h with
  | nil => exact .nil
  | cons r _ ih => exact .cons (k _ _ r) ih
theorem paired_unmap {α' β' : Type} {R' : α' → β' → Prop} {f : α → α'} {g : β → β'} : ∀ {xs : List α} {ys : List β}, Paired R' (xs.map f) (ys.map g) → Paired (fun a b => R' (f a) (g b)) xs ys
  | [], [], _ => .nil
  | [], _ :: _, h => by cases h
  | _ :: _, [], h => by cases h
  | _ :: _, _ :: _, .cons r t => .cons r (paired_unmap t)
theorem paired_flat {xss : List (List α)} {yss : List (List β)} (h : Paired (Paired R) xss yss) : Paired R xss.flatten yss.flatten := by
  induction h with
  | nil => exact .nil
  | cons r _ ih => simp only [List.flatten_cons]; exact paired_app r ih
end paired

section rep
variable {K : PySem.W.Frag} {F F' : Hp} {v : V} {d : D} {a : Addr}
theorem SqT_mono {xs : List V} (e : Le F F') (h : SqT K F a xs) : SqT K F' a xs := by
  (rcases h with (h | ⟨o, h⟩) | h)
  · exact .inl (.inl (e _ _ h))
  · (exact .inl (.inr ⟨o, e _ _ h⟩))
  · exact .inr h
theorem Rep.mono (e : Le F F') (r : Rep K F v d) : Rep K F' v d := by
  induction r with
  | non => exact .non
  | bl b => exact .bl b
  | int i => exact .int i
  | str x => exact .str x
  | tup h hz hl _ ih => exact .tup (e _ _ h) hz hl ih
  | kt h hl _ ih => exact .kt h hl ih
  | lst h hz hl _ ih => exact .lst (e _ _ h) hz hl ih
  | dK h hk _ ih => exact .dK (e _ _ h) hk ih
  | dT h hk _ ih => exact .dT (e _ _ h) hk ih
  | rng a => exact .rng a
  | fn a => exact .fn a
  | scr h => exact .scr (Same.seq e h)
theorem RepL.mono {vs : List V} {ds : List D} (e : Le F F') (r : RepL K F vs ds) : RepL K F' vs ds := paired_mono r fun _ _ => Rep.mono e
theorem RepP.mono {κ : Type} {vs : List (κ × V)} {ds : List (κ × D)} (e : Le F F') (r : RepP K F vs ds) : RepP K F' vs ds := paired_mono r fun _ _ h => ⟨h.1, h.2.mono e⟩
theorem Rep.mkTup {vs : List V} {ds : List D} (h : F a = some (.tup vs)) (hz : ds.length ≤ sizeLine) (r : RepL K F vs ds) : Rep K F (.ref a) (.tup ds) := .tup h hz (Paired.length r) (paired_get r)
theorem Rep.mkLst {vs : List V} {ds : List D} (h : F a = some (.lst vs)) (hz : ds.length ≤ sizeLine) (r : RepL K F vs ds) : Rep K F (.ref a) (.lst ds) := .lst h hz (Paired.length r) (paired_get r)
theorem RepP.keys {κ : Type} {vs : List (κ × V)} {ds : List (κ × D)} (r : RepP K F vs ds) : vs.map (·.1) = ds.map (·.1) := by
  induction r with
  | nil => rfl
  | cons h _ ih => simp only [List.map_cons, ih, h.1]
theorem repP_of {κ : Type} {vs : List (κ × V)} {ds : List (κ × D)} (hk : vs.map (·.1) = ds.map (·.1)) (r : ∀ (i : Nat) v d, vs[i]? = some v → ds[i]? = some d → Rep K F v.2 d.2) : RepP K F vs ds := by
  have hl : vs.length = ds.length := by have := congrArg List.length hk; simpa using this
  refine paired_of hl fun i x y h1 h2 => ⟨?_, r i x y h1 h2⟩
  have e : (vs.map (·.1))[i]? = (ds.map (·.1))[i]? := by rw [hk]
  rw [List.getElem?_map, List.getElem?_map, h1, h2] at e
  exact Option.some.inj e
theorem Rep.mkK {vs : List (Key × V)} {ds : List (Key × D)} (h : F a = some (.dK vs)) (r : RepP K F vs ds) : Rep K F (.ref a) (.dK ds) := .dK h (RepP.keys r) fun i v d e1 e2 => (paired_get r i v d e1 e2).2
theorem Rep.mkT {vs : List (List Key × V)} {ds : List (List Key × D)} (h : F a = some (.dT vs)) (r : RepP K F vs ds) : Rep K F (.ref a) (.dT ds) := .dT h (RepP.keys r) fun i v d e1 e2 => (paired_get r i v d e1 e2).2
theorem Rep.mkKt {vs : List V} {ds : List D} (h : SqT K (fun _ => none) a vs) (r : RepL K F vs ds) : Rep K F (.ref a) (.kt ds) := .kt h (Paired.length r) (paired_get r)
theorem Rep.untup' {ds : List D} (r : Rep K F v (.tup ds)) : ∃ a vs, v = .ref a ∧ F a = some (.tup vs) ∧ RepL K F vs ds := by
  cases r with | tup h _ hl r => exact ⟨_, _, rfl, h, paired_of hl r⟩
theorem Rep.unkt {ds : List D} (r : Rep K F v (.kt ds)) : ∃ a vs, v = .ref a ∧ SqT K (fun _ => none) a vs ∧ RepL K F vs ds := by
  cases r with | kt h hl r => exact ⟨_, _, rfl, h, paired_of hl r⟩
/-- the items of a tuple -/
def D.asT : D → Option (List D)
  | .tup ds => some ds
  | .kt ds => some ds
  | _ => none
theorem Rep.untup {d : D} {ds : List D} (h : d.asT = some ds) (r : Rep K F v d) : ∃ a vs, v = .ref a ∧ SqT K F a vs ∧ RepL K F vs ds := by
  unfold D.asT at h
  split at h
  · cases h
    obtain ⟨a, vs, e, q, r⟩ := r.untup'
    exact ⟨a, vs, e, .of q, r⟩
  · cases h
    obtain ⟨a, vs, e, q, r⟩ := r.unkt
    exact ⟨a, vs, e, SqT_mono (fun _ _ z => by cases z) q, r⟩
  · cases h
theorem Rep.unlst {ds : List D} (r : Rep K F v (.lst ds)) : ∃ a vs, v = .ref a ∧ F a = some (.lst vs) ∧ RepL K F vs ds := by
  cases r with | lst h _ hl r => exact ⟨_, _, rfl, h, paired_of hl r⟩
theorem Rep.undK {ds : List (Key × D)} (r : Rep K F v (.dK ds)) : ∃ a vs, v = .ref a ∧ F a = some (.dK vs) ∧ RepP K F vs ds := by
  cases r with | dK h hk r => exact ⟨_, _, rfl, h, repP_of hk r⟩
theorem Rep.undT {ds : List (List Key × D)} (r : Rep K F v (.dT ds)) : ∃ a vs, v = .ref a ∧ F a = some (.dT vs) ∧ RepP K F vs ds := by
  cases r with | dT h hk r => exact ⟨_, _, rfl, h, repP_of hk r⟩
end rep

/-- what an owned object holds -/
inductive OwnHO (K : PySem.W.Frag) (F : Hp) : HO → D → Prop
  | lst {vs : List V} {ds : List D} (hz : ds.length ≤ sizeLine) (r : RepL K F vs ds) : OwnHO K F (.lst vs) (.lst ds)
  | dK {vs : List (Key × V)} {ds : List (Key × D)} (r : RepP K F vs ds) : OwnHO K F (.dK vs) (.dK ds)
  | dT {vs : List (List Key × V)} {ds : List (List Key × D)} (r : RepP K F vs ds) : OwnHO K F (.dT vs) (.dT ds)
theorem OwnHO.mono {K : PySem.W.Frag} {F F' : Hp} {o : HO} {d : D} (e : Le F F') (h : OwnHO K F o d) : OwnHO K F' o d := by
  cases h with
  | lst hz r => exact .lst hz (RepL.mono e r)
  | dK r => exact .dK (RepP.mono e r)
  | dT r => exact .dT (RepP.mono e r)
theorem OwnHO.rep {K : PySem.W.Frag} {F : Hp} {o : HO} {d : D} {a : Addr} (h : OwnHO K F o d) (e : F a = some o) : Rep K F (.ref a) d := by
  cases h with
  | lst hz r => exact .mkLst e hz r
  | dK r => exact .mkK e r
  | dT r => exact .mkT e r

/-- the law's draws -/
structure Rng where
  at_ : Addr
  gA : Addr
  cA : Addr
  great : List Int
  cells : List Int
  rest : Int
  turn : Int
abbrev Sg := Option Rng
def rngDict (r : Rng) : List (Key × V) := [(Sum.inr "great", .ref r.gA), (Sum.inr "cells", .ref r.cA), (Sum.inr "rest", .int r.rest), (Sum.inr "turn", .int r.turn)]

abbrev OMap := Addr → Option (Option Nat × D)
def updO (M : OMap) (a : Addr) (x : Option Nat × D) : OMap := fun b => if b = a then some x else M b
theorem updO_same {M : OMap} {a : Addr} {x} : updO M a x a = some x := if_pos rfl
theorem updO_ne {M : OMap} {a b : Addr} {x} (h : b ≠ a) : updO M a x b = M b := if_neg h

/-- what a def's activation starts from: the heap at its entry, its frozen part, the draws' own objects -/
structure Gh where
  K : PySem.W.Frag
  H0 : Hp
  F0 : Hp
  R : Addr → Prop

structure RngAt (K : PySem.W.Frag) (H F : Hp) (r : Rng) : Prop where
  hat : H r.at_ = some (.dK (rngDict r))
  hg : H r.gA = some (.lst (r.great.map V.int))
  hc : F r.cA = some (.lst (r.cells.map V.int))
  hz : r.cells.length ≤ 1000
  fa : F r.at_ = none
  fg : F r.gA = none

/-- what is frozen: from before, or new since, or a tuple -/
def NewOk (F H : Hp) (a : Addr) (o : HO) : Prop := F a = some o ∨ H a = none ∨ ∃ vs, o = .tup vs

structure HeapOk (G : Gh) (H F : Hp) (M : OMap) (S : Sg) : Prop where
  sub : ∀ a o, F a = some o → H a = some o
  own : ∀ a w d, M a = some (w, d) → F a = none ∧ G.H0 a = none ∧ ∃ o, H a = some o ∧ OwnHO G.K F o d
  ent : ∀ a o, G.H0 a = some o → ¬ G.R a → H a = some o
  trk : ∀ a, H a = none → G.H0 a = none
  f0 : ∀ a o, G.F0 a = some o → F a = some o
  new : ∀ a o, F a = some o → NewOk G.F0 G.H0 a o
  rng : ∀ r, S = some r → RngAt G.K H F r ∧ M r.at_ = none ∧ M r.gA = none ∧ (G.R r.at_ ∨ G.H0 r.at_ = none) ∧ (G.R r.gA ∨ G.H0 r.gA = none)

inductive LV where
  | imm (d : D)
  | own (d : D)
abbrev Lo := List (Option LV)

def LRep (K : PySem.W.Frag) (F : Hp) (M : OMap) (i : Nat) (v : V) : LV → Prop
  | .imm d => Rep K F v d
  | .own d => ∃ a, v = .ref a ∧ M a = some (some i, d)
theorem LRep.mono {K : PySem.W.Frag} {F F' : Hp} {M : OMap} {i : Nat} {v : V} {l : LV} (e : Le F F') (h : LRep K F M i v l) : LRep K F' M i v l := by
  cases l with
  | imm d => exact Rep.mono e h
  | own d => exact h

structure Slots (K : PySem.W.Frag) (σ : L2.St) (ρ : Lo) (F : Hp) (M : OMap) : Prop where
  len : σ.length = ρ.length
  at_ : ∀ (i : Nat) l, ρ[i]? = some (some l) → ∃ v, σ[i]? = some (some v) ∧ LRep K F M i v l
theorem Slots.mono {K : PySem.W.Frag} {σ : L2.St} {ρ : Lo} {F F' : Hp} {M : OMap} (s : Slots K σ ρ F M) (e : Le F F') : Slots K σ ρ F' M :=
  ⟨s.len, fun i l h => let ⟨v, a, b⟩ := s.at_ i l h; ⟨v, a, b.mono e⟩⟩

/-- a value that may be read now: frozen, or an owned object's -/
def BRep (K : PySem.W.Frag) (F : Hp) (M : OMap) (v : V) (d : D) : Prop := Rep K F v d ∨ ∃ a w, v = .ref a ∧ M a = some (w, d)
theorem BRep.mono {K : PySem.W.Frag} {F F' : Hp} {M : OMap} {v : V} {d : D} (e : Le F F') (h : BRep K F M v d) : BRep K F' M v d := h.imp (Rep.mono e) id

/-! ### heaps -/
section
variable {G : Gh} {H H' F F' : Hp} {M : OMap} {S S' : Sg} {a : Addr} {o : HO}
theorem HeapOk.fnone (h : HeapOk G H F M S) (n : H a = none) : F a = none := by
  cases e : F a with
  | none => rfl
  | some o => rw [h.sub _ _ e] at n; cases n
theorem HeapOk.mnone (h : HeapOk G H F M S) (n : H a = none) : M a = none := by
  cases e : M a with
  | none => rfl
  | some x => obtain ⟨w, d⟩ := x; obtain ⟨_, _, o, e', _⟩ := h.own _ _ _ e; rw [e'] at n; cases n
theorem le_upd (n : F a = none) : Le F (upd F a o) := fun b u e => by rw [upd_ne (ne_of_none e n)]; exact e
theorem RngAt.mono {K : PySem.W.Frag} {r : Rng} (h : RngAt K H F r) (e1 : Same H H') (le : Le F F') (f1 : F' r.at_ = none) (f2 : F' r.gA = none) : RngAt K H' F' r :=
  ⟨e1 _ _ h.hat, e1 _ _ h.hg, le _ _ h.hc, h.hz, f1, f2⟩
/-- a new frozen object -/
theorem HeapOk.laid (h : HeapOk G H F M S) (n : H a = none) : HeapOk G (upd H a o) (upd F a o) M S := by
  have nf := h.fnone n
  refine ⟨fun b u e => ?_, fun b w d e => ?_, fun b u e r => ?_, fun b e => ?_, fun b u e => ?_, fun b u e => ?_, fun r e => ?_⟩
  · by_cases hb : b = a
    · subst hb; rw [upd_same] at e ⊢; exact e
    · rw [upd_ne hb] at e ⊢; exact h.sub _ _ e
  · obtain ⟨f1, f2, o', e', r⟩ := h.own _ _ _ e
    have hb : b ≠ a := ne_of_none e' n
    exact ⟨by rw [upd_ne hb]; exact f1, f2, o', by rw [upd_ne hb]; exact e', r.mono (le_upd nf)⟩
  · have e' := h.ent _ _ e r
    rw [upd_ne (ne_of_none e' n)]; exact e'
  · by_cases hb : b = a
    · subst hb; rw [upd_same] at e; cases e
    · rw [upd_ne hb] at e; exact h.trk _ e
  · have e' := h.f0 _ _ e
    rw [upd_ne (ne_of_none e' nf)]; exact e'
  · by_cases hb : b = a
    · subst hb; exact .inr (.inl (h.trk _ n))
    · rw [upd_ne hb] at e; exact h.new _ _ e
  · obtain ⟨x, m1, m2, q⟩ := h.rng r e
    have n1 : r.at_ ≠ a := ne_of_none x.hat n
    have n2 : r.gA ≠ a := ne_of_none x.hg n
    exact ⟨x.mono (le_upd n) (le_upd nf) (by rw [upd_ne n1]; exact x.fa) (by rw [upd_ne n2]; exact x.fg), m1, m2, q⟩
/-- a new owned object -/
theorem HeapOk.laidO {d : D} {w : Option Nat} (h : HeapOk G H F M S) (n : H a = none) (r : OwnHO G.K F o d) : HeapOk G (upd H a o) F (updO M a (w, d)) S := by
  have nf := h.fnone n
  refine ⟨fun b u e => ?_, fun b w' d' e => ?_, fun b u e r => ?_, fun b e => ?_, h.f0, h.new, fun r e => ?_⟩
  · have e' := h.sub _ _ e
    rw [upd_ne (ne_of_none e' n)]; exact e'
  · by_cases hb : b = a
    · subst hb; rw [updO_same] at e; cases e; exact ⟨nf, h.trk _ n, o, upd_same, r⟩
    · rw [updO_ne hb] at e
      obtain ⟨f1, f2, o', e', r⟩ := h.own _ _ _ e
      exact ⟨f1, f2, o', by rw [upd_ne hb]; exact e', r⟩
  · have e' := h.ent _ _ e r
    rw [upd_ne (ne_of_none e' n)]; exact e'
  · by_cases hb : b = a
    · subst hb; rw [upd_same] at e; cases e
    · rw [upd_ne hb] at e; exact h.trk _ e
  · obtain ⟨x, m1, m2, q⟩ := h.rng r e
    have n1 : r.at_ ≠ a := ne_of_none x.hat n
    have n2 : r.gA ≠ a := ne_of_none x.hg n
    exact ⟨x.mono (le_upd n) (fun _ _ e => e) x.fa x.fg, by rw [updO_ne n1]; exact m1, by rw [updO_ne n2]; exact m2, q⟩
/-- an owned object is written -/
theorem HeapOk.write {d d' : D} {w w' : Option Nat} (h : HeapOk G H F M S) (m : M a = some (w, d)) (r : OwnHO G.K F o d') : HeapOk G (upd H a o) F (updO M a (w', d')) S := by
  obtain ⟨nf, n0, oo, eo, _⟩ := h.own _ _ _ m
  refine ⟨fun b u e => ?_, fun b w' d' e => ?_, fun b u e r => ?_, fun b e => ?_, h.f0, h.new, fun r e => ?_⟩
  · rw [upd_ne (ne_of_none e nf)]; exact h.sub _ _ e
  · by_cases hb : b = a
    · subst hb; rw [updO_same] at e; cases e; exact ⟨nf, n0, o, upd_same, r⟩
    · rw [updO_ne hb] at e
      obtain ⟨f1, f2, o', e', r⟩ := h.own _ _ _ e
      exact ⟨f1, f2, o', by rw [upd_ne hb]; exact e', r⟩
  · rw [upd_ne (ne_of_none e n0)]; exact h.ent _ _ e r
  · by_cases hb : b = a
    · subst hb; rw [upd_same] at e; cases e
    · rw [upd_ne hb] at e; exact h.trk _ e
  · obtain ⟨x, m1, m2, q⟩ := h.rng r e
    have n1 : r.at_ ≠ a := fun z => by rw [z, m] at m1; cases m1
    have n2 : r.gA ≠ a := fun z => by rw [z, m] at m2; cases m2
    exact ⟨⟨by rw [upd_ne n1]; exact x.hat, by rw [upd_ne n2]; exact x.hg, x.hc, x.hz, x.fa, x.fg⟩, by rw [updO_ne n1]; exact m1, by rw [updO_ne n2]; exact m2, q⟩
/-- an owned object's owner is told otherwise -/
theorem HeapOk.give {d : D} {w : Option Nat} (w' : Option Nat) (h : HeapOk G H F M S) (m : M a = some (w, d)) : HeapOk G H F (updO M a (w', d)) S := by
  obtain ⟨nf, n0, oo, eo, ro⟩ := h.own _ _ _ m
  refine ⟨h.sub, fun b w' d' e => ?_, h.ent, h.trk, h.f0, h.new, fun r e => ?_⟩
  · by_cases hb : b = a
    · subst hb; rw [updO_same] at e; cases e; exact ⟨nf, n0, oo, eo, ro⟩
    · rw [updO_ne hb] at e; exact h.own _ _ _ e
  · obtain ⟨x, m1, m2, q⟩ := h.rng r e
    have n1 : r.at_ ≠ a := fun z => by rw [z, m] at m1; cases m1
    have n2 : r.gA ≠ a := fun z => by rw [z, m] at m2; cases m2
    exact ⟨x, by rw [updO_ne n1]; exact m1, by rw [updO_ne n2]; exact m2, q⟩
/-- fewer are told owned -/
theorem HeapOk.less {M' : OMap} (h : HeapOk G H F M S) (m : ∀ a x, M' a = some x → M a = some x) : HeapOk G H F M' S := by
  refine ⟨h.sub, fun b w' d' e => h.own _ _ _ (m _ _ e), h.ent, h.trk, h.f0, h.new, fun r e => ?_⟩
  obtain ⟨x, m1, m2, q⟩ := h.rng r e
  refine ⟨x, ?_, ?_, q⟩
  · cases z : M' r.at_ with
    | none => rfl
    | some y => rw [m _ _ z] at m1; cases m1
  · cases z : M' r.gA with
    | none => rfl
    | some y => rw [m _ _ z] at m2; cases m2
/-- an owned object is frozen -/
def dropO (M : OMap) (a : Addr) : OMap := fun b => if b = a then none else M b
theorem HeapOk.freeze {d : D} {w : Option Nat} (h : HeapOk G H F M S) (m : M a = some (w, d)) : ∃ o, H a = some o ∧ F a = none ∧ OwnHO G.K F o d ∧ HeapOk G H (upd F a o) (dropO M a) S := by
  obtain ⟨nf, n0, oo, eo, ro⟩ := h.own _ _ _ m
  refine ⟨oo, eo, nf, ro, ⟨fun b u e => ?_, fun b w' d' e => ?_, h.ent, h.trk, fun b u e => ?_, fun b u e => ?_, fun r e => ?_⟩⟩
  · by_cases hb : b = a
    · subst hb; rw [upd_same] at e; cases e; exact eo
    · rw [upd_ne hb] at e; exact h.sub _ _ e
  · by_cases hb : b = a
    · subst hb; unfold dropO at e; rw [if_pos rfl] at e; cases e
    · unfold dropO at e; rw [if_neg hb] at e
      obtain ⟨f1, f2, o', e', r⟩ := h.own _ _ _ e
      exact ⟨by rw [upd_ne hb]; exact f1, f2, o', e', r.mono (le_upd nf)⟩
  · have e' := h.f0 _ _ e
    rw [upd_ne (ne_of_none e' nf)]; exact e'
  · by_cases hb : b = a
    · subst hb; exact .inr (.inl n0)
    · rw [upd_ne hb] at e; exact h.new _ _ e
  · obtain ⟨x, m1, m2, q⟩ := h.rng r e
    have n1 : r.at_ ≠ a := fun z => by rw [z, m] at m1; cases m1
    have n2 : r.gA ≠ a := fun z => by rw [z, m] at m2; cases m2
    exact ⟨x.mono (fun _ _ e => e) (le_upd nf) (by rw [upd_ne n1]; exact x.fa) (by rw [upd_ne n2]; exact x.fg), by unfold dropO; rw [if_neg n1]; exact m1, by unfold dropO; rw [if_neg n2]; exact m2, q⟩
theorem dropO_le {x} {b : Addr} (e : dropO M a b = some x) : M b = some x := by
  unfold dropO at e
  split at e
  · cases e
  · exact e
theorem dropO_ne {b : Addr} (h : b ≠ a) : dropO M a b = M b := if_neg h
/-- a tuple that is there may be told frozen -/
theorem HeapOk.adopt {vs : List V} (h : HeapOk G H F M S) (e : H a = some (.tup vs)) : HeapOk G H (upd F a (.tup vs)) M S ∧ Le F (upd F a (.tup vs)) := by
  have hF : ∀ o, F a = some o → o = .tup vs := fun o q => by
    have := h.sub _ _ q
    rw [e] at this; exact (Option.some.inj this).symm
  have le : Le F (upd F a (.tup vs)) := fun b o q => by
    by_cases hb : b = a
    · subst hb; rw [upd_same, hF _ q]
    · rw [upd_ne hb]; exact q
  refine ⟨⟨fun b u q => ?_, fun b w' d' q => ?_, h.ent, h.trk, fun b u q => le _ _ (h.f0 b u q), fun b u q => ?_, fun r q => ?_⟩, le⟩
  · by_cases hb : b = a
    · subst hb; rw [upd_same] at q; cases q; exact e
    · rw [upd_ne hb] at q; exact h.sub _ _ q
  · obtain ⟨f1, f2, o', e', r⟩ := h.own _ _ _ q
    have hb : b ≠ a := fun z => by rw [z, e] at e'; cases e'; cases r
    exact ⟨by rw [upd_ne hb]; exact f1, f2, o', e', r.mono le⟩
  · by_cases hb : b = a
    · subst hb; rw [upd_same] at q; cases q; exact .inr (.inr ⟨_, rfl⟩)
    · rw [upd_ne hb] at q; exact h.new _ _ q
  · obtain ⟨x, m1, m2, y⟩ := h.rng r q
    have n1 : r.at_ ≠ a := fun z => by have := x.hat; rw [z, e] at this; cases this
    have n2 : r.gA ≠ a := fun z => by have := x.hg; rw [z, e] at this; cases this
    exact ⟨x.mono (fun _ _ e => e) le (by rw [upd_ne n1]; exact x.fa) (by rw [upd_ne n2]; exact x.fg), m1, m2, y⟩
/-- what a borrowed value is, in the heap -/
theorem BRep.unlst {v : V} {ds : List D} (h : HeapOk G H F M S) (r : BRep G.K F M v (.lst ds)) : ∃ a vs, v = .ref a ∧ H a = some (.lst vs) ∧ RepL G.K F vs ds := by
  rcases r with r | ⟨a, w, rfl, m⟩
  · obtain ⟨a, vs, e, q, r⟩ := r.unlst
    exact ⟨a, vs, e, h.sub _ _ q, r⟩
  · obtain ⟨_, _, o, e, ro⟩ := h.own _ _ _ m
    cases ro with
    | lst _ r => exact ⟨a, _, rfl, e, r⟩
theorem BRep.rep {v : V} {d : D} (h : HeapOk G H F M S) (r : BRep G.K F M v d) (n : d.asT ≠ none) : Rep G.K F v d := by
  rcases r with r | ⟨a, w, rfl, m⟩
  · exact r
  · obtain ⟨_, _, o, e, ro⟩ := h.own _ _ _ m
    cases ro <;> exact absurd rfl n
theorem BRep.untup {v : V} {d : D} {ds : List D} (h : HeapOk G H F M S) (e : d.asT = some ds) (r : BRep G.K F M v d) : ∃ a vs, v = .ref a ∧ SqT G.K H a vs ∧ RepL G.K F vs ds := by
  obtain ⟨a, vs, e', q, r⟩ := (r.rep h (by rw [e]; exact fun z => nomatch z)).untup e
  exact ⟨a, vs, e', SqT_mono h.sub q, r⟩
/-- a sequence's length -/
theorem Rep.size {K : PySem.W.Frag} {F : Hp} {v : V} {d : D} {ds : List D} (h : d.asT = some ds ∨ d = .lst ds) (r : Rep K F v d) : ds.length ≤ sizeLine := by
  rcases h with h | rfl
  · unfold D.asT at h
    split at h
    · cases h; cases r with | tup _ hz => exact hz
    · cases h
      cases r with
      | kt q hl _ =>
        rcases q with (q | ⟨_, q⟩) | ⟨o, its, n, _, _, _, hz, rv⟩
        · cases q
        · cases q
        · have e := rv.length
          (simp only [Array.length_toList] at e); omega
    · cases h
  · cases r with | lst _ hz => exact hz
theorem BRep.size {v : V} {d : D} {ds : List D} (hk : HeapOk G H F M S) (h : d.asT = some ds ∨ d = .lst ds) (r : BRep G.K F M v d) : ds.length ≤ sizeLine := by
  rcases r with r | ⟨a, w, rfl, m⟩
  · exact r.size h
  · obtain ⟨_, _, o, e, ro⟩ := hk.own _ _ _ m
    cases ro with
    | lst hz r =>
      rcases h with h | h
      · cases h
      · cases h; exact hz
    | dK r => rcases h with h | h <;> cases h
    | dT r => rcases h with h | h <;> cases h
theorem BRep.undK {v : V} {ds : List (Key × D)} (h : HeapOk G H F M S) (r : BRep G.K F M v (.dK ds)) : ∃ a vs, v = .ref a ∧ H a = some (.dK vs) ∧ RepP G.K F vs ds := by
  rcases r with r | ⟨a, w, rfl, m⟩
  · obtain ⟨a, vs, e, q, r⟩ := r.undK
    exact ⟨a, vs, e, h.sub _ _ q, r⟩
  · obtain ⟨_, _, o, e, ro⟩ := h.own _ _ _ m
    cases ro with
    | dK r => exact ⟨a, _, rfl, e, r⟩
theorem BRep.undT {v : V} {ds : List (List Key × D)} (h : HeapOk G H F M S) (r : BRep G.K F M v (.dT ds)) : ∃ a vs, v = .ref a ∧ H a = some (.dT vs) ∧ RepP G.K F vs ds := by
  rcases r with r | ⟨a, w, rfl, m⟩
  · obtain ⟨a, vs, e, q, r⟩ := r.undT
    exact ⟨a, vs, e, h.sub _ _ q, r⟩
  · obtain ⟨_, _, o, e, ro⟩ := h.own _ _ _ m
    cases ro with
    | dT r => exact ⟨a, _, rfl, e, r⟩
theorem BRep.unbl {K : PySem.W.Frag} {v : V} {b : Bool} {F : Hp} (h : HeapOk G H F M S) (r : BRep G.K F M v (.bl b)) : v = .bl b := by
  rcases r with r | ⟨a, w, rfl, m⟩
  · cases r; rfl
  · obtain ⟨_, _, o, e, ro⟩ := h.own _ _ _ m; cases ro
end
end Dv
namespace Dv
open PySem PySem.Spec
open PyProof.Rows L2

abbrev MX (α : Type) := Lo → Sg → Option (α × Sg)
abbrev ME := MX D
abbrev MA := MX (List D)
abbrev MT := MX Bool

def mBind {α β : Type} (m : MX α) (k : α → MX β) : MX β := fun ρ S => (m ρ S).bind fun p => k p.1 ρ p.2
def mPure {α : Type} (a : α) : MX α := fun _ S => some (a, S)
def mOpt {α : Type} (o : Option α) : MX α := fun _ S => o.map fun a => (a, S)
def mNever {α : Type} : MX α := fun _ _ => none

/-- what a reading in data says: it comes out, and what follows is wanted of any such value -/
def eE (G : Gh) (m : ME) : TE := fun σ H Q => ∃ F M ρ S, HeapOk G H F M S ∧ Slots G.K σ ρ F M ∧ ∃ d S', m ρ S = some (d, S') ∧
  ∀ v H' F', HeapOk G H' F' M S' → Le F F' → Rep G.K F' v d → Q v H'
/-- .. a value that is only looked at -/
def eB (G : Gh) (m : ME) : TE := fun σ H Q => ∃ F M ρ S, HeapOk G H F M S ∧ Slots G.K σ ρ F M ∧ ∃ d S', m ρ S = some (d, S') ∧
  ∀ v H' F', HeapOk G H' F' M S' → Le F F' → BRep G.K F' M v d → Q v H'
/-- .. a new object of one's own -/
def eF (G : Gh) (m : ME) : TE := fun σ H Q => ∃ F M ρ S, HeapOk G H F M S ∧ Slots G.K σ ρ F M ∧ ∃ d S', m ρ S = some (d, S') ∧
  ∀ a H' F', HeapOk G H' F' (updO M a (none, d)) S' → M a = none → Le F F' → Q (.ref a) H'
def eT (G : Gh) (m : MT) : TT := fun σ H Q => ∃ F M ρ S, HeapOk G H F M S ∧ Slots G.K σ ρ F M ∧ ∃ b S', m ρ S = some (b, S') ∧
  ∀ H' F', HeapOk G H' F' M S' → Le F F' → Q b H'
def eA (G : Gh) (m : MA) : TA := fun σ H Q => ∃ F M ρ S, HeapOk G H F M S ∧ Slots G.K σ ρ F M ∧ ∃ ds S', m ρ S = some (ds, S') ∧
  ∀ vs H' F', HeapOk G H' F' M S' → Le F F' → RepL G.K F' vs ds → Q vs H'
abbrev BRepL (K : PySem.W.Frag) (F : Hp) (M : OMap) : List V → List D → Prop := Paired (BRep K F M)
def eAB (G : Gh) (m : MA) : TA := fun σ H Q => ∃ F M ρ S, HeapOk G H F M S ∧ Slots G.K σ ρ F M ∧ ∃ ds S', m ρ S = some (ds, S') ∧
  ∀ vs H' F', HeapOk G H' F' M S' → Le F F' → BRepL G.K F' M vs ds → Q vs H'

section
variable {G : Gh} {X : Cx} {e a b : Expr} {es : List Expr} {pos : Pos}
theorem pe_imp {t t' : TE} (h : PE X e t) (i : ∀ σ H Q, t' σ H Q → t σ H Q) : PE X e t' := ⟨fun pins s σ H Q I q => h.run pins s σ H Q I (i _ _ _ q)⟩
theorem pt_imp {t t' : TT} (h : PT X e t) (i : ∀ σ H Q, t' σ H Q → t σ H Q) : PT X e t' := ⟨fun pins s σ H Q I q => h.run pins s σ H Q I (i _ _ _ q)⟩
theorem pw_imp {t t' : TT} (h : PW X e t) (i : ∀ σ H Q, t' σ H Q → t σ H Q) : PW X e t' := ⟨fun whole pins s σ H Q I q => h.run whole pins s σ H Q I (i _ _ _ q)⟩
theorem pa_imp {t t' : TA} (h : PA X es t) (i : ∀ σ H Q, t' σ H Q → t σ H Q) : PA X es t' := ⟨fun pos pins s σ H Q I q => h.run pos pins s σ H Q I (i _ _ _ q)⟩
theorem ps_imp {st : Stmt} {t t' : TS} (h : PS X st t) (i : ∀ D σ H, t' D σ H → t D σ H) : PS X st t' := ⟨fun pins s σ H D I q => h.run pins s σ H D I (i _ _ _ q)⟩
theorem pss_imp {st : List Stmt} {t t' : TS} (h : PSs X st t) (i : ∀ D σ H, t' D σ H → t D σ H) : PSs X st t' := ⟨fun pins s σ H D I q => h.run pins s σ H D I (i _ _ _ q)⟩

/-- a frozen value may be looked at -/
theorem eb_of {m : ME} (h : PE X e (eE G m)) : PE X e (eB G m) := pe_imp h fun σ H Q ⟨F, M, ρ, S, hk, sl, d, S', e, q⟩ => ⟨F, M, ρ, S, hk, sl, d, S', e, fun v H' F' hk' le r => q v H' F' hk' le (.inl r)⟩
theorem heap_unown {H F : Hp} {M : OMap} {S : Sg} {a : Addr} {x} {o : HO} (hk : HeapOk G H (upd F a o) (dropO (updO M a x) a) S) (n : M a = none) : HeapOk G H (upd F a o) M S :=
  hk.less fun b y e => by
    have hb : b ≠ a := fun z => by rw [z, n] at e; cases e
    rw [dropO_ne hb, updO_ne hb]; exact e
/-- a new object may be frozen -/
theorem ee_of {m : ME} (h : PE X e (eF G m)) : PE X e (eE G m) := pe_imp h fun σ H Q ⟨F, M, ρ, S, hk, sl, d, S', e, q⟩ => ⟨F, M, ρ, S, hk, sl, d, S', e, fun a H' F' hk' n le => by
  obtain ⟨o, eo, nf, ro, hk2⟩ := hk'.freeze updO_same
  exact q _ H' _ (heap_unown hk2 n) (le.trans (le_upd nf)) ((ro.mono (le_upd nf)).rep upd_same)⟩

/-! ### names, constants -/
def mVar (i : Nat) : ME := fun ρ S => match ρ[i]? with
  | some (some (.imm d)) => some (d, S)
  | _ => none
def mVarB (i : Nat) : ME := fun ρ S => match ρ[i]? with
  | some (some (.imm d)) => some (d, S)
  | some (some (.own d)) => some (d, S)
  | _ => none
theorem se_var (i : Nat) {x : Str} (hN : X.N[i]? = some x := by rfl) (hv : Vis X.env.scope x := by first | exact Or.inl rfl | exact Or.inr (Or.inl rfl) | exact Or.inr (Or.inr rfl)) (hd : (x == ("__debug__" : Str)) = false := by decide)
    (hcd : (x == ("__classdict__" : Str)) = false := by decide) : PE X (.Name x pos) (eE G (mVar i)) := by
  refine pe_imp (pe_var hN hv hd hcd) fun σ H Q ⟨F, M, ρ, S, hk, sl, d, S', e, q⟩ => ?_
  unfold mVar at e
  split at e
  · rename_i d' h
    cases e
    obtain ⟨v, hv, r⟩ := sl.at_ _ _ h
    exact ⟨v, hv, q v H F hk (Same.refl F) r⟩
  · cases e
theorem se_varB (i : Nat) {x : Str} (hN : X.N[i]? = some x := by rfl) (hv : Vis X.env.scope x := by first | exact Or.inl rfl | exact Or.inr (Or.inl rfl) | exact Or.inr (Or.inr rfl)) (hd : (x == ("__debug__" : Str)) = false := by decide)
    (hcd : (x == ("__classdict__" : Str)) = false := by decide) : PE X (.Name x pos) (eB G (mVarB i)) := by
  refine pe_imp (pe_var hN hv hd hcd) fun σ H Q ⟨F, M, ρ, S, hk, sl, d, S', e, q⟩ => ?_
  unfold mVarB at e
  split at e
  · rename_i d' h
    cases e
    obtain ⟨v, hv, r⟩ := sl.at_ _ _ h
    exact ⟨v, hv, q v H F hk (Same.refl F) (.inl r)⟩
  · rename_i d' h
    cases e
    obtain ⟨v, hv, a, ev, em⟩ := sl.at_ _ _ h
    exact ⟨v, hv, q v H F hk (Same.refl F) (.inr ⟨a, _, ev, em⟩)⟩
  · cases e
theorem se_const {v : V} {d : D} (h : PE X e (tC v)) (r : ∀ F, Rep G.K F v d) : PE X e (eE G (mPure d)) := pe_imp h fun σ H Q ⟨F, M, ρ, S, hk, sl, d', S', e, q⟩ => by
  cases e
  exact q v H F hk (Same.refl F) (r F)
theorem se_int {i : Int} {j} : PE X (.Constant (.int i) j pos) (eE G (mPure (.int i))) := se_const pe_int fun _ => .int i
theorem se_bl {i : Bool} {j} : PE X (.Constant (.bool i) j pos) (eE G (mPure (.bl i))) := se_const pe_bl fun _ => .bl i
theorem se_non {j} : PE X (.Constant .none j pos) (eE G (mPure .non)) := se_const pe_non fun _ => .non
theorem se_str {x : Str} {j} : PE X (.Constant (.str x) j pos) (eE G (mPure (.str x))) := se_const pe_str fun _ => .str x
/-- a global's value: v as data d -/
theorem se_glob {x : Str} {v : V} {u : Value} {d : D} (hg : Gl X x) (hm : X.mg x = some u) (r : RelV v u) (rd : ∀ F, Rep G.K F v d) (hd : (x == ("__debug__" : Str)) = false := by decide) : PE X (.Name x pos) (eE G (mPure d)) := se_const (pe_glob hg hm r hd) rd

/-! ### two values in a row -/
theorem two_bb {ma mb : ME} {σ : L2.St} {H : Hp} {R : V → V → Hp → Prop} {F : Hp} {M : OMap} {ρ : Lo} {S : Sg} (hk : HeapOk G H F M S) (sl : Slots G.K σ ρ F M) {d1 d2 : D} {S1 S2 : Sg} (e1 : ma ρ S = some (d1, S1)) (e2 : mb ρ S1 = some (d2, S2))
    (h : ∀ x y H' F', HeapOk G H' F' M S2 → Le F F' → BRep G.K F' M x d1 → BRep G.K F' M y d2 → R x y H') : eB G ma σ H fun x H1 => eB G mb σ H1 fun y H2 => R x y H2 :=
  ⟨F, M, ρ, S, hk, sl, d1, S1, e1, fun x H1 F1 hk1 le1 r1 => ⟨F1, M, ρ, S1, hk1, sl.mono le1, d2, S2, e2, fun y H2 F2 hk2 le2 r2 => h x y H2 F2 hk2 (le1.trans le2) (r1.mono le2) r2⟩⟩
def mOp2 (f : D → D → Option D) (ma mb : ME) : ME := fun ρ S => (ma ρ S).bind fun p => (mb ρ p.2).bind fun q => (f p.1 q.1).map fun d => (d, q.2)
theorem mOp2_some {f : D → D → Option D} {ma mb : ME} {ρ : Lo} {S S' : Sg} {d : D} (h : mOp2 f ma mb ρ S = some (d, S')) : ∃ d1 S1 d2, ma ρ S = some (d1, S1) ∧ mb ρ S1 = some (d2, S') ∧ f d1 d2 = some d := by
  unfold mOp2 at h
  obtain ⟨⟨d1, S1⟩, e1, h⟩ := Option.bind_eq_some_iff.mp h
  obtain ⟨⟨d2, S2⟩, e2, h⟩ := Option.bind_eq_some_iff.mp h
  obtain ⟨d3, e3, h⟩ := Option.map_eq_some_iff.mp h
  cases h
  exact ⟨d1, S1, d2, e1, e2, e3⟩
/-- how an operator's reading serves f -/
def R2E (G : Gh) (r : R2) (f : D → D → Option D) : Prop := ∀ (x y : V) (d1 d2 d : D) (H F : Hp) (M : OMap) (S : Sg) (Q : VK), HeapOk G H F M S → BRep G.K F M x d1 → BRep G.K F M y d2 → f d1 d2 = some d →
  (∀ v H' F', HeapOk G H' F' M S → Le F F' → Rep G.K F' v d → Q v H') → r x y H Q
def R2F (G : Gh) (r : R2) (f : D → D → Option D) : Prop := ∀ (x y : V) (d1 d2 d : D) (H F : Hp) (M : OMap) (S : Sg) (Q : VK), HeapOk G H F M S → BRep G.K F M x d1 → BRep G.K F M y d2 → f d1 d2 = some d →
  (∀ a H' F', HeapOk G H' F' (updO M a (none, d)) S → M a = none → Le F F' → Q (.ref a) H') → r x y H Q
theorem op2_imp {r : R2} {f : D → D → Option D} {ma mb : ME} (hr : R2E G r f) : ∀ σ H Q, eE G (mOp2 f ma mb) σ H Q → tOp r (eB G ma) (eB G mb) σ H Q := fun σ H Q ⟨F, M, ρ, S, hk, sl, d, S', e, q⟩ => by
  obtain ⟨d1, S1, d2, e1, e2, e3⟩ := mOp2_some e
  exact two_bb hk sl e1 e2 fun x y H' F' hk' le r1 r2 => hr x y d1 d2 d H' F' M S' Q hk' r1 r2 e3 fun v H2 F2 hk2 le2 r => q v H2 F2 hk2 (le.trans le2) r
theorem op2_impF {r : R2} {f : D → D → Option D} {ma mb : ME} (hr : R2F G r f) : ∀ σ H Q, eF G (mOp2 f ma mb) σ H Q → tOp r (eB G ma) (eB G mb) σ H Q := fun σ H Q ⟨F, M, ρ, S, hk, sl, d, S', e, q⟩ => by
  obtain ⟨d1, S1, d2, e1, e2, e3⟩ := mOp2_some e
  exact two_bb hk sl e1 e2 fun x y H' F' hk' le r1 r2 => hr x y d1 d2 d H' F' M S' Q hk' r1 r2 e3 fun v H2 F2 hk2 n le2 => q v H2 F2 hk2 n (le.trans le2)
theorem se_bin {op : Operator} {r : R2} {f : D → D → Option D} {ma mb : ME} (ho : OpR X (binaryOp op) r) (hr : R2E G r f) (ha : PE X a (eB G ma)) (hb : PE X b (eB G mb)) : PE X (.BinOp a op b pos) (eE G (mOp2 f ma mb)) := pe_imp (pe_op ho ha hb) (op2_imp hr)
theorem se_binF {op : Operator} {r : R2} {f : D → D → Option D} {ma mb : ME} (ho : OpR X (binaryOp op) r) (hr : R2F G r f) (ha : PE X a (eB G ma)) (hb : PE X b (eB G mb)) : PE X (.BinOp a op b pos) (eF G (mOp2 f ma mb)) := pe_imp (pe_op ho ha hb) (op2_impF hr)
theorem se_cmp {op : CmpOp} {r : R2} {f : D → D → Option D} {ma mb : ME} (ho : OpR X (compareOp op) r) (hr : R2E G r f) (hm : behindInMarks op b = false) (ha : PE X a (eB G ma)) (hb : PE X b (eB G mb)) : PE X (.Compare a [op] [b] pos) (eE G (mOp2 f ma mb)) := pe_imp (pe_cmpR ho ha hb hm) (op2_imp hr)
theorem R2E.or1 {r r' : R2} {f g : D → D → Option D} (h : R2E G r f) (h' : R2E G r' g) : R2E G (fun x y H Q => r x y H Q ∨ r' x y H Q) (fun x y => (f x y).or (g x y)) := fun x y d1 d2 d H F M S Q hk r1 r2 e q => by
  have e : (f d1 d2).or (g d1 d2) = some d := e
  cases e1 : f d1 d2 with
  | some z => rw [e1] at e; cases e; exact .inl (h x y d1 d2 d H F M S Q hk r1 r2 e1 q)
  | none => rw [e1] at e; exact .inr (h' x y d1 d2 d H F M S Q hk r1 r2 (by simpa using e) q)

/-- one value -/
def mOp1 (f : D → Option D) (ma : ME) : ME := fun ρ S => (ma ρ S).bind fun p => (f p.1).map fun d => (d, p.2)
theorem mOp1_some {f : D → Option D} {ma : ME} {ρ : Lo} {S S' : Sg} {d : D} (h : mOp1 f ma ρ S = some (d, S')) : ∃ d1, ma ρ S = some (d1, S') ∧ f d1 = some d := by
  unfold mOp1 at h
  obtain ⟨⟨d1, S1⟩, e1, h⟩ := Option.bind_eq_some_iff.mp h
  obtain ⟨d3, e3, h⟩ := Option.map_eq_some_iff.mp h
  cases h
  exact ⟨d1, e1, e3⟩

/-! ### what a looked-at value is -/
theorem BRep.unint {H F : Hp} {M : OMap} {S : Sg} {v : V} {i : Int} (h : HeapOk G H F M S) (r : BRep G.K F M v (.int i)) : v = .int i := by
  rcases r with r | ⟨a, w, rfl, m⟩
  · cases r; rfl
  · obtain ⟨_, _, o, e, ro⟩ := h.own _ _ _ m; cases ro
theorem BRep.unbl' {H F : Hp} {M : OMap} {S : Sg} {v : V} {i : Bool} (h : HeapOk G H F M S) (r : BRep G.K F M v (.bl i)) : v = .bl i := by
  rcases r with r | ⟨a, w, rfl, m⟩
  · cases r; rfl
  · obtain ⟨_, _, o, e, ro⟩ := h.own _ _ _ m; cases ro
theorem BRep.unstr {H F : Hp} {M : OMap} {S : Sg} {v : V} {i : Str} (h : HeapOk G H F M S) (r : BRep G.K F M v (.str i)) : v = .str i := by
  rcases r with r | ⟨a, w, rfl, m⟩
  · cases r; rfl
  · obtain ⟨_, _, o, e, ro⟩ := h.own _ _ _ m; cases ro
theorem BRep.unnon {H F : Hp} {M : OMap} {S : Sg} {v : V} (h : HeapOk G H F M S) (r : BRep G.K F M v .non) : v = .non := by
  rcases r with r | ⟨a, w, rfl, m⟩
  · cases r; rfl
  · obtain ⟨_, _, o, e, ro⟩ := h.own _ _ _ m; cases ro

/-! ### ints -/
def liftI2 (c : Int → Int → Bool) (g : Int → Int → D) : D → D → Option D
  | .int i, .int j => if c i j then some (g i j) else none
  | _, _ => none
theorem liftI2_some {c : Int → Int → Bool} {g : Int → Int → D} {x y d : D} (h : liftI2 c g x y = some d) : ∃ i j, x = .int i ∧ y = .int j ∧ c i j = true ∧ g i j = d := by
  unfold liftI2 at h
  split at h
  · split at h
    · cases h; exact ⟨_, _, rfl, rfl, by assumption, rfl⟩
    · cases h
  · cases h
theorem r2e_I {C : Int → Int → Prop} {c : Int → Int → Bool} {g : Int → Int → V} {g' : Int → Int → D} (hc : ∀ i j, c i j = true → C i j) (hg : ∀ i j F, Rep G.K F (g i j) (g' i j)) : R2E G (rI C g) (liftI2 c g') := fun x y d1 d2 d H F M S Q hk r1 r2 e q => by
  obtain ⟨i, j, rfl, rfl, e1, rfl⟩ := liftI2_some e
  cases r1.unint hk
  cases r2.unint hk
  exact ⟨i, j, rfl, rfl, hc _ _ e1, q _ H F hk (Same.refl F) (hg i j F)⟩
theorem r2e_I0 {g : Int → Int → V} {g' : Int → Int → D} (hg : ∀ i j F, Rep G.K F (g i j) (g' i j)) : R2E G (rI0 g) (liftI2 (fun _ _ => true) g') := fun x y d1 d2 d H F M S Q hk r1 r2 e q => by
  obtain ⟨i, j, rfl, rfl, e1, rfl⟩ := liftI2_some e
  cases r1.unint hk
  cases r2.unint hk
  exact ⟨i, j, rfl, rfl, q _ H F hk (Same.refl F) (hg i j F)⟩
def subD : D → D → Option D := liftI2 (fun _ _ => true) fun i j => .int (i - j)
theorem se_sub {ma mb : ME} (ha : PE X a (eB G ma)) (hb : PE X b (eB G mb)) : PE X (.BinOp a .Sub b pos) (eE G (mOp2 subD ma mb)) := se_bin op_sub (r2e_I0 fun i j F => .int _) ha hb
def modD : D → D → Option D := liftI2 (fun _ j => decide (0 < j)) fun i j => .int (i % j)
theorem se_mod {ma mb : ME} (ha : PE X a (eB G ma)) (hb : PE X b (eB G mb)) : PE X (.BinOp a .Mod b pos) (eE G (mOp2 modD ma mb)) := se_bin op_mod (r2e_I (fun i j h => of_decide_eq_true h) fun i j F => .int _) ha hb
def fdivD : D → D → Option D := liftI2 (fun _ j => decide (0 < j) && decide (j.natAbs.log2 < 9000)) fun i j => .int (i / j)
theorem se_fdiv {ma mb : ME} (ha : PE X a (eB G ma)) (hb : PE X b (eB G mb)) : PE X (.BinOp a .FloorDiv b pos) (eE G (mOp2 fdivD ma mb)) := se_bin op_fdivW (r2e_I (fun i j h => by
  simp only [Bool.and_eq_true, decide_eq_true_eq] at h; exact h) fun i j F => .int _) ha hb
/-- a negative divisor -/
def fdivN : D → D → Option D := liftI2 (fun _ j => decide (j ≠ 0) && decide (j.natAbs < 1073741824)) fun i j => .int (i.fdiv j)
theorem se_fdivN {ma mb : ME} (ha : PE X a (eB G ma)) (hb : PE X b (eB G mb)) : PE X (.BinOp a .FloorDiv b pos) (eE G (mOp2 fdivN ma mb)) := se_bin op_fdivN (r2e_I (fun i j h => by
  simp only [Bool.and_eq_true, decide_eq_true_eq] at h; exact h) fun i j F => .int _) ha hb
def powD : D → D → Option D := liftI2 (fun i j => decide (0 ≤ j) && decide (j ≤ 1000000) && decide (i.natAbs < 2 ^ 64)) fun i j => .int (i ^ j.toNat)
theorem se_pow {ma mb : ME} (ha : PE X a (eB G ma)) (hb : PE X b (eB G mb)) : PE X (.BinOp a .Pow b pos) (eE G (mOp2 powD ma mb)) := se_bin op_pow (r2e_I (fun i j h => by
  simp only [Bool.and_eq_true, decide_eq_true_eq] at h; exact ⟨h.1.1, h.1.2, h.2⟩) fun i j F => .int _) ha hb
def ltD : D → D → Option D := liftI2 (fun _ _ => true) fun i j => .bl (decide (i < j))
def leD : D → D → Option D := liftI2 (fun _ _ => true) fun i j => .bl (decide (i ≤ j))
def gtD : D → D → Option D := liftI2 (fun _ _ => true) fun i j => .bl (decide (j < i))
def geD : D → D → Option D := liftI2 (fun _ _ => true) fun i j => .bl (decide (j ≤ i))
theorem r_lt : R2E G (rI0 fun i j => .bl (decide (i < j))) ltD := r2e_I0 fun i j F => .bl _
theorem r_le : R2E G (rI0 fun i j => .bl (decide (i ≤ j))) leD := r2e_I0 fun i j F => .bl _
theorem r_gt : R2E G (rI0 fun i j => .bl (decide (j < i))) gtD := r2e_I0 fun i j F => .bl _
theorem r_ge : R2E G (rI0 fun i j => .bl (decide (j ≤ i))) geD := r2e_I0 fun i j F => .bl _
theorem se_lt {ma mb : ME} (ha : PE X a (eB G ma)) (hb : PE X b (eB G mb)) : PE X (.Compare a [.Lt] [b] pos) (eE G (mOp2 ltD ma mb)) := se_cmp op_lt r_lt (nomark _) ha hb
theorem se_le {ma mb : ME} (ha : PE X a (eB G ma)) (hb : PE X b (eB G mb)) : PE X (.Compare a [.LtE] [b] pos) (eE G (mOp2 leD ma mb)) := se_cmp op_le r_le (nomark _) ha hb
theorem se_gt {ma mb : ME} (ha : PE X a (eB G ma)) (hb : PE X b (eB G mb)) : PE X (.Compare a [.Gt] [b] pos) (eE G (mOp2 gtD ma mb)) := se_cmp op_gt r_gt (nomark _) ha hb
theorem se_ge {ma mb : ME} (ha : PE X a (eB G ma)) (hb : PE X b (eB G mb)) : PE X (.Compare a [.GtE] [b] pos) (eE G (mOp2 geD ma mb)) := se_cmp op_ge r_ge (nomark _) ha hb
def negD : D → Option D
  | .int i => some (.int (-i))
  | _ => none
theorem se_neg {ma : ME} (ha : PE X a (eB G ma)) : PE X (.UnaryOp .USub a pos) (eE G (mOp1 negD ma)) := pe_imp (pe_un un_neg ha) fun σ H Q ⟨F, M, ρ, S, hk, sl, d, S', e, q⟩ => by
  obtain ⟨d1, e1, e2⟩ := mOp1_some e
  refine ⟨F, M, ρ, S, hk, sl, d1, S', e1, fun v H' F' hk' le r => ?_⟩
  unfold negD at e2
  split at e2
  · cases e2; cases r.unint hk'; exact ⟨_, rfl, q _ H' F' hk' le (.int _)⟩
  · cases e2

/-! ### sums, products of all kinds -/
def addI : D → D → Option D := liftI2 (fun _ _ => true) fun i j => .int (i + j)
def addS : D → D → Option D
  | .str x, .str y => if x.length + y.length ≤ sizeLine then some (.str (x ++ y)) else none
  | _, _ => none
def addT : D → D → Option D := fun x y => match x.asT, y.asT with
  | some xs, some ys => if xs.length + ys.length ≤ sizeLine then (if xs.isEmpty then some y else if ys.isEmpty then some x else some (.tup (xs ++ ys))) else none
  | _, _ => none
def addL : D → D → Option D
  | .lst xs, .lst ys => if xs.length + ys.length ≤ sizeLine then some (.lst (xs ++ ys)) else none
  | _, _ => none
theorem r_addI : R2E G (rI0 fun i j => .int (i + j)) addI := r2e_I0 fun i j F => .int _
theorem r_addS : R2E G (fun x y H Q => ∃ i j, x = .str i ∧ y = .str j ∧ i.length + j.length ≤ sizeLine ∧ Q (.str (i ++ j)) H) addS := fun x y d1 d2 d H F M S Q hk r1 r2 e q => by
  unfold addS at e
  split at e
  · split at e
    · cases e; cases r1.unstr hk; cases r2.unstr hk
      exact ⟨_, _, rfl, rfl, by assumption, q _ H F hk (Same.refl F) (.str _)⟩
    · cases e
  · cases e
theorem r_addT : R2E G (rCatA G.K) addT := fun x y d1 d2 d H F M S Q hk r1 r2 e q => by
  unfold addT at e
  split at e
  · rename_i xs ys ex ey
    split at e
    · rename_i hz
      obtain ⟨l, us, rfl, q1, p1⟩ := BRep.untup hk ex r1
      obtain ⟨l', us', rfl, q2, p2⟩ := BRep.untup hk ey r2
      have l1 : us.length = xs.length := Paired.length p1
      have l2 : us'.length = ys.length := Paired.length p2
      refine ⟨l, l', us, us', rfl, rfl, q1, q2, by omega, fun z => ?_, fun z z' => ?_, fun z z' p hp => ?_⟩
      · subst z
        have : xs = [] := List.eq_nil_of_length_eq_zero (by simpa using l1.symm)
        subst this
        simp only [List.isEmpty_nil, if_true] at e
        cases e
        exact q _ H F hk (Same.refl F) (r2.rep hk (by rw [ey]; exact fun z => nomatch z))
      · subst z'
        have : ys = [] := List.eq_nil_of_length_eq_zero (by simpa using l2.symm)
        subst this
        have hx : xs.isEmpty = false := by
          cases xs with
          | nil => exact absurd (List.eq_nil_of_length_eq_zero (by simpa using l1)) z
          | cons _ _ => rfl
        rw [hx] at e
        simp only [List.isEmpty_nil, if_true, Bool.false_eq_true, if_false] at e
        cases e
        exact q _ H F hk (Same.refl F) (r1.rep hk (by rw [ex]; exact fun z => nomatch z))
      · have hx : xs.isEmpty = false := by
          cases xs with
          | nil => exact absurd (List.eq_nil_of_length_eq_zero (by simpa using l1)) z
          | cons _ _ => rfl
        have hy : ys.isEmpty = false := by
          cases ys with
          | nil => exact absurd (List.eq_nil_of_length_eq_zero (by simpa using l2)) z'
          | cons _ _ => rfl
        rw [hx, hy] at e
        simp only [Bool.false_eq_true, if_false] at e
        cases e
        refine q _ _ _ (hk.laid hp) (le_upd (hk.fnone hp)) (.mkTup upd_same (by rw [List.length_append]; exact hz) (RepL.mono (le_upd (hk.fnone hp)) (paired_app p1 p2)))
    · cases e
  · cases e
theorem r_addL : R2F G rCat addL := fun x y d1 d2 d H F M S Q hk r1 r2 e q => by
  unfold addL at e
  split at e
  · split at e
    · rename_i hz
      cases e
      obtain ⟨l, us, rfl, q1, p1⟩ := r1.unlst hk
      obtain ⟨l', us', rfl, q2, p2⟩ := r2.unlst hk
      have l1 := Paired.length p1
      have l2 := Paired.length p2
      exact ⟨l, l', us, us', rfl, rfl, q1, q2, by omega, fun p hp => q p _ F (hk.laidO hp (.lst (by rw [List.length_append]; exact hz) (paired_app p1 p2))) (hk.mnone hp) (Same.refl F)⟩
    · cases e
  · cases e
/-- a + b of ints, texts, tuples -/
def addD : D → D → Option D := fun x y => (addI x y).or ((addS x y).or (addT x y))
theorem se_add {ma mb : ME} (hK : G.K = X.K) (ha : PE X a (eB G ma)) (hb : PE X b (eB G mb)) : PE X (.BinOp a .Add b pos) (eE G (mOp2 addD ma mb)) :=
  se_bin (OpR.or op_add (OpR.or op_add_str (hK ▸ op_catA))) (r_addI.or1 (r_addS.or1 r_addT)) ha hb
theorem sf_addL {ma mb : ME} (ha : PE X a (eB G ma)) (hb : PE X b (eB G mb)) : PE X (.BinOp a .Add b pos) (eF G (mOp2 addL ma mb)) := se_binF op_cat r_addL ha hb
def mulI : D → D → Option D := liftI2 (fun i j => decide (i.natAbs.log2 + j.natAbs.log2 < 1000000)) fun i j => .int (i * j)
theorem se_mulI {ma mb : ME} (ha : PE X a (eB G ma)) (hb : PE X b (eB G mb)) : PE X (.BinOp a .Mult b pos) (eE G (mOp2 mulI ma mb)) := se_bin op_mulW (r2e_I (fun i j h => (of_decide_eq_true h : i.natAbs.log2 + j.natAbs.log2 < 1000000)) fun i j F => .int _) ha hb
/-- a * b, one of them below 2 ^ 64 -/
def mulS : D → D → Option D := liftI2 (fun i j => decide (i.natAbs < 2 ^ 64) || decide (j.natAbs < 2 ^ 64)) fun i j => .int (i * j)
theorem se_mulS {ma mb : ME} (ha : PE X a (eB G ma)) (hb : PE X b (eB G mb)) : PE X (.BinOp a .Mult b pos) (eE G (mOp2 mulS ma mb)) := se_bin op_mul (r2e_I (fun i j h => by
  simp only [Bool.or_eq_true, decide_eq_true_eq] at h
  rcases h with h | h
  · exact .inl ⟨by omega, by omega⟩
  · exact .inr ⟨by omega, by omega⟩) fun i j F => .int _) ha hb
theorem flat_len {α : Type} (xs : List α) : ∀ n, (List.replicate n xs).flatten.length = n * xs.length
  | 0 => by simp
  | n + 1 => by rw [List.replicate_succ, List.flatten_cons, List.length_append, flat_len xs n, Nat.succ_mul, Nat.add_comm]
def mulL : D → D → Option D
  | .lst xs, .int k => if -(2 ^ 63) ≤ k ∧ k < 2 ^ 63 ∧ xs.length * k.toNat ≤ sizeLine then some (.lst (List.replicate k.toNat xs).flatten) else none
  | _, _ => none
theorem r_mulL : R2F G rRep mulL := fun x y d1 d2 d H F M S Q hk r1 r2 e q => by
  unfold mulL at e
  split at e
  · split at e
    · rename_i hz
      cases e
      obtain ⟨l, us, rfl, q1, p1⟩ := r1.unlst hk
      cases r2.unint hk
      have l1 := Paired.length p1
      exact ⟨l, _, us, rfl, rfl, q1, hz.1, hz.2.1, by rw [l1]; exact hz.2.2, fun p hp => q p _ F (hk.laidO hp (.lst (by rw [flat_len, Nat.mul_comm]; exact hz.2.2) (paired_flat (paired_repl p1 _)))) (hk.mnone hp) (Same.refl F)⟩
    · cases e
  · cases e
theorem sf_mulL {ma mb : ME} (ha : PE X a (eB G ma)) (hb : PE X b (eB G mb)) : PE X (.BinOp a .Mult b pos) (eF G (mOp2 mulL ma mb)) := se_binF op_rep r_mulL ha hb
def mulT : D → D → Option D := fun x y => match x.asT, y with
  | some xs, .int k => if xs.isEmpty = false ∧ 2 ≤ k ∧ k ≤ 1000 ∧ xs.length ≤ 1000 then some (.tup (List.replicate k.toNat xs).flatten) else none
  | _, _ => none
theorem r_mulT : R2E G (rRepT G.K) mulT := fun x y d1 d2 d H F M S Q hk r1 r2 e q => by
  unfold mulT at e
  split at e
  · rename_i xs k ex
    split at e
    · rename_i hz
      cases e
      obtain ⟨l, us, rfl, q1, p1⟩ := r1.untup hk ex
      cases r2.unint hk
      have l1 := Paired.length p1
      refine ⟨l, _, us, rfl, rfl, q1, fun z => ?_, hz.2.1, hz.2.2.1, by omega, fun p hp => ?_⟩
      · subst z
        have : xs = [] := List.eq_nil_of_length_eq_zero (by simpa using l1.symm)
        rw [this] at hz; exact absurd hz.1 (by decide)
      · exact q _ _ _ (hk.laid hp) (le_upd (hk.fnone hp)) (.mkTup upd_same (by rw [flat_len]; exact Nat.le_trans (Nat.mul_le_mul (by omega : _ ≤ 1000) hz.2.2.2) (by decide)) (RepL.mono (le_upd (hk.fnone hp)) (paired_flat (paired_repl p1 _))))
    · cases e
  · cases e
theorem se_mulT {ma mb : ME} (hK : G.K = X.K) (ha : PE X a (eB G ma)) (hb : PE X b (eB G mb)) : PE X (.BinOp a .Mult b pos) (eE G (mOp2 mulT ma mb)) := se_bin (hK ▸ op_repT) r_mulT ha hb
end
end Dv
namespace Dv
open PySem PySem.Spec
open PyProof.Rows L2
section
variable {G : Gh} {X : Cx} {e a b c o : Expr} {es : List Expr} {pos : Pos}

/-! ### tests -/
def asB {α : Type} (k : Bool → Sg → Option α) : D × Sg → Option α
  | (.bl b, S) => k b S
  | _ => none
def mTst (m : ME) : MT := fun ρ S => (m ρ S).bind (asB fun b S => some (b, S))
theorem mTst_some {m : ME} {ρ : Lo} {S S' : Sg} {b : Bool} (h : mTst m ρ S = some (b, S')) : m ρ S = some (.bl b, S') := by
  unfold mTst at h
  obtain ⟨⟨d, S1⟩, e1, h⟩ := Option.bind_eq_some_iff.mp h
  cases d <;> first | (cases h; exact e1) | cases h
theorem tst_imp {m : ME} : ∀ σ H Q, eT G (mTst m) σ H Q → (eE G m) σ H fun x H1 => ∃ c, x = .bl c ∧ Q c H1 := fun σ H Q ⟨F, M, ρ, S, hk, sl, b, S', e, q⟩ =>
  ⟨F, M, ρ, S, hk, sl, .bl b, S', mTst_some e, fun v H' F' hk' le r => by cases r; exact ⟨b, rfl, q H' F' hk' le⟩⟩
theorem st_val {m : ME} (h : PE X e (eE G m)) (he : ∀ whole, isTrue e X.env whole = (do let v ← whole; standAt e.pos; holding [v] (truthy v)) := by intro _; rfl) : PT X e (eT G (mTst m)) := pt_imp (pt_val h he) tst_imp
theorem st_cmp {op : CmpOp} {r : R2} {f : D → D → Option D} {ma mb : ME} (ho : OpR X (compareOp op) r) (hr : R2E G r f) (hm : behindInMarks op b = false) (ha : PE X a (eB G ma)) (hb : PE X b (eB G mb)) : PT X (.Compare a [op] [b] pos) (eT G (mTst (mOp2 f ma mb))) :=
  pt_imp (pt_cmpR ho ha hb hm) fun σ H Q ⟨F, M, ρ, S, hk, sl, b, S', e, q⟩ => op2_imp hr σ H _ ⟨F, M, ρ, S, hk, sl, .bl b, S', mTst_some e, fun v H' F' hk' le r => by cases r; exact ⟨b, rfl, q H' F' hk' le⟩⟩
theorem st_lt {ma mb : ME} (ha : PE X a (eB G ma)) (hb : PE X b (eB G mb)) : PT X (.Compare a [.Lt] [b] pos) (eT G (mTst (mOp2 ltD ma mb))) := st_cmp op_lt r_lt (nomark _) ha hb
theorem st_le {ma mb : ME} (ha : PE X a (eB G ma)) (hb : PE X b (eB G mb)) : PT X (.Compare a [.LtE] [b] pos) (eT G (mTst (mOp2 leD ma mb))) := st_cmp op_le r_le (nomark _) ha hb
theorem st_gt {ma mb : ME} (ha : PE X a (eB G ma)) (hb : PE X b (eB G mb)) : PT X (.Compare a [.Gt] [b] pos) (eT G (mTst (mOp2 gtD ma mb))) := st_cmp op_gt r_gt (nomark _) ha hb
theorem st_ge {ma mb : ME} (ha : PE X a (eB G ma)) (hb : PE X b (eB G mb)) : PT X (.Compare a [.GtE] [b] pos) (eT G (mTst (mOp2 geD ma mb))) := st_cmp op_ge r_ge (nomark _) ha hb
/-- a op b op' c -/
def mChn (f g : D → D → Option D) (ma mb mc : ME) : ME := fun ρ S => (ma ρ S).bind fun p => (mb ρ p.2).bind fun q => (f p.1 q.1).bind fun d => asB (fun k S2 => if k then (mc ρ S2).bind fun r => (g q.1 r.1).map fun d => (d, r.2) else some (.bl false, S2)) (d, q.2)
theorem chn_imp {r r' : R2} {f g : D → D → Option D} {ma mb mc : ME} (hr : R2E G r f) (hr' : R2E G r' g) : ∀ σ H Q, eE G (mChn f g ma mb mc) σ H Q → tChain r r' (eB G ma) (eB G mb) (eB G mc) σ H Q := fun σ H Q ⟨F, M, ρ, S, hk, sl, d, S', e, q⟩ => by
  unfold mChn at e
  obtain ⟨⟨d1, S1⟩, e1, e⟩ := Option.bind_eq_some_iff.mp e
  obtain ⟨⟨d2, S2⟩, e2, e⟩ := Option.bind_eq_some_iff.mp e
  obtain ⟨d3, e3, e⟩ := Option.bind_eq_some_iff.mp e
  refine two_bb hk sl e1 e2 fun x y H' F' hk' le r1 r2 => hr x y d1 d2 d3 H' F' M S2 _ hk' r1 r2 e3 fun v H3 F3 hk3 le3 rv => ?_
  cases d3 with
  | bl k =>
    cases rv
    refine ⟨k, rfl, ?_⟩
    cases k with
    | false => cases e; exact q _ H3 F3 hk3 (le.trans le3) (.bl _)
    | true =>
      obtain ⟨⟨d4, S4⟩, e4, e⟩ := Option.bind_eq_some_iff.mp e
      obtain ⟨d5, e5, e⟩ := Option.map_eq_some_iff.mp e
      cases e
      exact ⟨F3, M, ρ, S2, hk3, (sl.mono le).mono le3, d4, S4, e4, fun w H4 F4 hk4 le4 r4 => hr' y w d2 d4 _ H4 F4 M S4 Q hk4 ((r2.mono le3).mono le4) r4 e5 fun z H5 F5 hk5 le5 r5 => q z H5 F5 hk5 (((le.trans le3).trans le4).trans le5) r5⟩
  | _ => cases e
theorem se_chn {op op' : CmpOp} {r r' : R2} {f g : D → D → Option D} {ma mb mc : ME} (ho : OpR X (compareOp op) r) (ho' : OpR X (compareOp op') r') (hr : R2E G r f) (hr' : R2E G r' g) (ha : PE X a (eB G ma)) (hb : PE X b (eB G mb)) (hc : PE X c (eB G mc))
    (hm : lastMarks [op, op'] [b, c] = false := by with_unfolding_all rfl) : PE X (.Compare a [op, op'] [b, c] pos) (eE G (mChn f g ma mb mc)) := pe_imp (pe_chain ho ho' ha hb hc hm) (chn_imp hr hr')
theorem st_chn {op op' : CmpOp} {r r' : R2} {f g : D → D → Option D} {ma mb mc : ME} (ho : OpR X (compareOp op) r) (ho' : OpR X (compareOp op') r') (hr : R2E G r f) (hr' : R2E G r' g) (ha : PE X a (eB G ma)) (hb : PE X b (eB G mb)) (hc : PE X c (eB G mc))
    (hm : lastMarks [op, op'] [b, c] = false := by with_unfolding_all rfl) : PT X (.Compare a [op, op'] [b, c] pos) (eT G (mTst (mChn f g ma mb mc))) :=
  pt_imp (pt_chain ho ho' ha hb hc hm) fun σ H Q ⟨F, M, ρ, S, hk, sl, b, S', e, q⟩ => chn_imp hr hr' σ H _ ⟨F, M, ρ, S, hk, sl, .bl b, S', mTst_some e, fun v H' F' hk' le r => by cases r; exact ⟨b, rfl, q H' F' hk' le⟩⟩
/-- not, and, or -/
def mNot (m : MT) : MT := fun ρ S => (m ρ S).map fun p => (!p.1, p.2)
def mAnd (m n : MT) : MT := fun ρ S => (m ρ S).bind fun p => if p.1 then n ρ p.2 else some (false, p.2)
def mOr (m n : MT) : MT := fun ρ S => (m ρ S).bind fun p => if p.1 then some (true, p.2) else n ρ p.2
theorem st_not {m : MT} (h : PT X a (eT G m)) : PT X (.UnaryOp .Not a pos) (eT G (mNot m)) := pt_imp (L2.pt_not h) fun σ H Q ⟨F, M, ρ, S, hk, sl, b, S', e, q⟩ => by
  obtain ⟨⟨b1, S1⟩, e1, e⟩ := Option.map_eq_some_iff.mp e
  cases e
  exact ⟨F, M, ρ, S, hk, sl, b1, S1, e1, fun H' F' hk' le => q H' F' hk' le⟩
theorem sw_and1 {m : MT} (h : PT X a (eT G m)) : PW X (.BoolOp .And [a] pos) (eT G m) := pw_and1 h
theorem sw_or1 {m : MT} (h : PT X a (eT G m)) : PW X (.BoolOp .Or [a] pos) (eT G m) := pw_or1 h
theorem sw_and {m n : MT} {rest : List Expr} (ha : PT X a (eT G m)) (hb : PW X (.BoolOp .And (b :: rest) pos) (eT G n)) : PW X (.BoolOp .And (a :: b :: rest) pos) (eT G (mAnd m n)) := pw_imp (pw_and ha hb) fun σ H Q ⟨F, M, ρ, S, hk, sl, b, S', e, q⟩ => by
  obtain ⟨⟨b1, S1⟩, e1, e⟩ := Option.bind_eq_some_iff.mp e
  refine ⟨F, M, ρ, S, hk, sl, b1, S1, e1, fun H' F' hk' le => ?_⟩
  cases b1 with
  | false => cases e; exact q H' F' hk' le
  | true => exact ⟨F', M, ρ, S1, hk', sl.mono le, b, S', e, fun H2 F2 hk2 le2 => q H2 F2 hk2 (le.trans le2)⟩
theorem sw_or {m n : MT} {rest : List Expr} (ha : PT X a (eT G m)) (hb : PW X (.BoolOp .Or (b :: rest) pos) (eT G n)) : PW X (.BoolOp .Or (a :: b :: rest) pos) (eT G (mOr m n)) := pw_imp (pw_or ha hb) fun σ H Q ⟨F, M, ρ, S, hk, sl, b, S', e, q⟩ => by
  obtain ⟨⟨b1, S1⟩, e1, e⟩ := Option.bind_eq_some_iff.mp e
  refine ⟨F, M, ρ, S, hk, sl, b1, S1, e1, fun H' F' hk' le => ?_⟩
  cases b1 with
  | true => cases e; exact q H' F' hk' le
  | false => exact ⟨F', M, ρ, S1, hk', sl.mono le, b, S', e, fun H2 F2 hk2 le2 => q H2 F2 hk2 (le.trans le2)⟩
/-- .. as values: all but the last are truths -/
def mAndV (m n : ME) : ME := fun ρ S => (m ρ S).bind (asB fun k S1 => if k then n ρ S1 else some (.bl false, S1))
def mOrV (m n : ME) : ME := fun ρ S => (m ρ S).bind (asB fun k S1 => if k then some (.bl true, S1) else n ρ S1)
def mNotV (m : ME) : ME := mOp1 (fun d => match d with | .bl b => some (.bl (!b)) | _ => none) m
theorem se_andV {m n : ME} {rest : List Expr} (ha : PE X a (eE G m)) (hb : PE X (.BoolOp .And (b :: rest) pos) (eE G n)) : PE X (.BoolOp .And (a :: b :: rest) pos) (eE G (mAndV m n)) := pe_imp (pe_and ha hb) fun σ H Q ⟨F, M, ρ, S, hk, sl, d, S', e, q⟩ => by
  obtain ⟨⟨d1, S1⟩, e1, e⟩ := Option.bind_eq_some_iff.mp e
  cases d1 with
  | bl k =>
    refine ⟨F, M, ρ, S, hk, sl, _, S1, e1, fun v H' F' hk' le r => ?_⟩
    cases r
    cases k with
    | false => cases e; exact ⟨false, rfl, q _ H' F' hk' le (.bl _)⟩
    | true => exact ⟨true, rfl, F', M, ρ, S1, hk', sl.mono le, d, S', e, fun w H2 F2 hk2 le2 r2 => q w H2 F2 hk2 (le.trans le2) r2⟩
  | _ => cases e
theorem se_orV {m n : ME} {rest : List Expr} (ha : PE X a (eE G m)) (hb : PE X (.BoolOp .Or (b :: rest) pos) (eE G n)) : PE X (.BoolOp .Or (a :: b :: rest) pos) (eE G (mOrV m n)) := pe_imp (pe_or ha hb) fun σ H Q ⟨F, M, ρ, S, hk, sl, d, S', e, q⟩ => by
  obtain ⟨⟨d1, S1⟩, e1, e⟩ := Option.bind_eq_some_iff.mp e
  cases d1 with
  | bl k =>
    refine ⟨F, M, ρ, S, hk, sl, _, S1, e1, fun v H' F' hk' le r => ?_⟩
    cases r
    cases k with
    | true => cases e; exact ⟨true, rfl, q _ H' F' hk' le (.bl _)⟩
    | false => exact ⟨false, rfl, F', M, ρ, S1, hk', sl.mono le, d, S', e, fun w H2 F2 hk2 le2 r2 => q w H2 F2 hk2 (le.trans le2) r2⟩
  | _ => cases e
theorem se_one {op} {m : ME} (h : PE X a (eE G m)) : PE X (.BoolOp op [a] pos) (eE G m) := pe_one h
theorem se_notV {m : ME} (ha : PE X a (eE G m)) : PE X (.UnaryOp .Not a pos) (eE G (mNotV m)) := pe_imp (pe_not ha) fun σ H Q ⟨F, M, ρ, S, hk, sl, d, S', e, q⟩ => by
  obtain ⟨d1, e1, e2⟩ := mOp1_some e
  refine ⟨F, M, ρ, S, hk, sl, d1, S', e1, fun v H' F' hk' le r => ?_⟩
  cases d1 <;> first | (cases e2; cases r; exact ⟨_, rfl, q _ H' F' hk' le (.bl _)⟩) | cases e2
/-- a if t else b -/
def mIte {α : Type} (t : MT) (m n : MX α) : MX α := fun ρ S => (t ρ S).bind fun p => if p.1 then m ρ p.2 else n ρ p.2
theorem se_ite {t : MT} {m n : ME} (hc : PT X c (eT G t)) (ha : PE X a (eE G m)) (hb : PE X b (eE G n)) : PE X (.IfExp c a b pos) (eE G (mIte t m n)) := pe_imp (pe_ifExp hc ha hb) fun σ H Q ⟨F, M, ρ, S, hk, sl, d, S', e, q⟩ => by
  obtain ⟨⟨k, S1⟩, e1, e⟩ := Option.bind_eq_some_iff.mp e
  refine ⟨F, M, ρ, S, hk, sl, k, S1, e1, fun H' F' hk' le => ?_⟩
  cases k with
  | true => exact ⟨F', M, ρ, S1, hk', sl.mono le, d, S', e, fun w H2 F2 hk2 le2 r2 => q w H2 F2 hk2 (le.trans le2) r2⟩
  | false => exact ⟨F', M, ρ, S1, hk', sl.mono le, d, S', e, fun w H2 F2 hk2 le2 r2 => q w H2 F2 hk2 (le.trans le2) r2⟩
theorem sf_ite {t : MT} {m n : ME} (hc : PT X c (eT G t)) (ha : PE X a (eF G m)) (hb : PE X b (eF G n)) : PE X (.IfExp c a b pos) (eF G (mIte t m n)) := pe_imp (pe_ifExp hc ha hb) fun σ H Q ⟨F, M, ρ, S, hk, sl, d, S', e, q⟩ => by
  obtain ⟨⟨k, S1⟩, e1, e⟩ := Option.bind_eq_some_iff.mp e
  refine ⟨F, M, ρ, S, hk, sl, k, S1, e1, fun H' F' hk' le => ?_⟩
  cases k with
  | true => exact ⟨F', M, ρ, S1, hk', sl.mono le, d, S', e, fun w H2 F2 hk2 le2 r2 => q w H2 F2 hk2 le2 (le.trans r2)⟩
  | false => exact ⟨F', M, ρ, S1, hk', sl.mono le, d, S', e, fun w H2 F2 hk2 le2 r2 => q w H2 F2 hk2 le2 (le.trans r2)⟩

/-! ### == of data -/
mutual
def toP : D → Option PyData
  | .non => some .none
  | .bl b => some (.bool b)
  | .int i => some (.int i)
  | .str x => some (.str x)
  | .tup ds => (toPs ds).map .tuple
  | .kt ds => (toPs ds).map .tuple
  | .lst ds => (toPs ds).map .list
  | .dK _ => none
  | .dT _ => none
  | .rng _ => none
  | .fn _ => none
  | .scr _ => none
def toPs : List D → Option (List PyData)
  | [] => some []
  | d :: ds => (toP d).bind fun p => (toPs ds).map fun ps => p :: ps
end
mutual
theorem rep_dp {K : PySem.W.Frag} {F H : Hp} (le : Le F H) : ∀ (d : D) (v : V) (p : PyData), Rep K F v d → toP d = some p → Dp K H v p
  | .non, v, p, r, e => by cases r; simp only [toP] at e; cases e; exact .non
  | .bl b, v, p, r, e => by cases r; simp only [toP] at e; cases e; exact .bl b
  | .int i, v, p, r, e => by cases r; simp only [toP] at e; cases e; exact .int i
  | .str x, v, p, r, e => by cases r; simp only [toP] at e; cases e; exact .str x
  | .tup ds, v, p, r, e => by
    simp only [toP] at e
    obtain ⟨ps, e1, rfl⟩ := Option.map_eq_some_iff.mp e
    obtain ⟨a, vs, rfl, q, r⟩ := r.untup'
    exact .tup (SqT_mono le (.of q)) (reps_dp le ds vs ps r e1)
  | .kt ds, v, p, r, e => by
    simp only [toP] at e
    obtain ⟨ps, e1, rfl⟩ := Option.map_eq_some_iff.mp e
    obtain ⟨a, vs, rfl, q, r⟩ := r.unkt
    exact .tup (SqT_mono (fun _ _ z => by cases z) q) (reps_dp le ds vs ps r e1)
  | .lst ds, v, p, r, e => by
    simp only [toP] at e
    obtain ⟨ps, e1, rfl⟩ := Option.map_eq_some_iff.mp e
    obtain ⟨a, vs, rfl, q, r⟩ := r.unlst
    exact .lst (.of (le _ _ q)) (reps_dp le ds vs ps r e1)
  | .dK _, v, p, r, e => by simp only [toP] at e; cases e
  | .dT _, v, p, r, e => by simp only [toP] at e; cases e
  | .rng _, v, p, r, e => by simp only [toP] at e; cases e
  | .fn _, v, p, r, e => by simp only [toP] at e; cases e
  | .scr _, v, p, r, e => by simp only [toP] at e; cases e
theorem reps_dp {K : PySem.W.Frag} {F H : Hp} (le : Le F H) : ∀ (ds : List D) (vs : List V) (ps : List PyData), RepL K F vs ds → toPs ds = some ps → DpAll K H vs ps
  | [], vs, ps, r, e => by cases r; simp only [toPs] at e; cases e; exact .nil
  | d :: ds, vs, ps, r, e => by
    simp only [toPs] at e
    obtain ⟨p, e1, e⟩ := Option.bind_eq_some_iff.mp e
    obtain ⟨ps', e2, rfl⟩ := Option.map_eq_some_iff.mp e
    cases r with
    | cons r rs => exact .cons (rep_dp le d _ p r e1) (reps_dp le ds _ ps' rs e2)
end
theorem BRep.dp {H F : Hp} {M : OMap} {S : Sg} {v : V} {d : D} {p : PyData} (h : HeapOk G H F M S) (r : BRep G.K F M v d) (e : toP d = some p) : Dp G.K H v p := by
  rcases r with r | ⟨a, w, rfl, m⟩
  · exact rep_dp h.sub d v p r e
  · obtain ⟨_, _, o, eo, ro⟩ := h.own _ _ _ m
    cases ro with
    | @lst vs ds hz r =>
      simp only [toP] at e
      obtain ⟨ps, e1, rfl⟩ := Option.map_eq_some_iff.mp e
      exact .lst (.of eo) (reps_dp h.sub ds vs ps r e1)
    | dK r => simp only [toP] at e; cases e
    | dT r => simp only [toP] at e; cases e
def eqD (x y : D) : Option D := match toP x, toP y with
  | some p, some q => if SeqAt.shaped p && SeqAt.shaped q then some (.bl (PyData.eqv p q)) else none
  | _, _ => none
def neD (x y : D) : Option D := match toP x, toP y with
  | some p, some q => if SeqAt.shaped p && SeqAt.shaped q then some (.bl (!PyData.eqv p q)) else none
  | _, _ => none
theorem r_eqD : R2E G (rEqD G.K) eqD := fun x y d1 d2 d H F M S Q hk r1 r2 e q => by
  unfold eqD at e
  split at e
  · rename_i p p' e1 e2
    split at e
    · rename_i hs
      cases e
      simp only [Bool.and_eq_true] at hs
      exact ⟨p, p', r1.dp hk e1, r2.dp hk e2, hs.1, hs.2, q _ H F hk (Same.refl F) (.bl _)⟩
    · cases e
  · cases e
theorem r_neD : R2E G (rNeD G.K) neD := fun x y d1 d2 d H F M S Q hk r1 r2 e q => by
  unfold neD at e
  split at e
  · rename_i p p' e1 e2
    split at e
    · rename_i hs
      cases e
      simp only [Bool.and_eq_true] at hs
      exact ⟨p, p', r1.dp hk e1, r2.dp hk e2, hs.1, hs.2, q _ H F hk (Same.refl F) (.bl _)⟩
    · cases e
  · cases e
theorem se_eq {ma mb : ME} (hK : G.K = X.K) (hu : X.A.units + 64 < cLine) (ha : PE X a (eB G ma)) (hb : PE X b (eB G mb)) : PE X (.Compare a [.Eq] [b] pos) (eE G (mOp2 eqD ma mb)) := se_cmp (hK ▸ op_eqD hu) r_eqD (nomark _) ha hb
theorem se_ne {ma mb : ME} (hK : G.K = X.K) (hu : X.A.units + 64 < cLine) (ha : PE X a (eB G ma)) (hb : PE X b (eB G mb)) : PE X (.Compare a [.NotEq] [b] pos) (eE G (mOp2 neD ma mb)) := se_cmp (hK ▸ op_neD hu) r_neD (nomark _) ha hb
theorem st_eq {ma mb : ME} (hK : G.K = X.K) (hu : X.A.units + 64 < cLine) (ha : PE X a (eB G ma)) (hb : PE X b (eB G mb)) : PT X (.Compare a [.Eq] [b] pos) (eT G (mTst (mOp2 eqD ma mb))) := st_cmp (hK ▸ op_eqD hu) r_eqD (nomark _) ha hb
theorem st_ne {ma mb : ME} (hK : G.K = X.K) (hu : X.A.units + 64 < cLine) (ha : PE X a (eB G ma)) (hb : PE X b (eB G mb)) : PT X (.Compare a [.NotEq] [b] pos) (eT G (mTst (mOp2 neD ma mb))) := st_cmp (hK ▸ op_neD hu) r_neD (nomark _) ha hb

/-! ### is -/
/-- x is None, x is a truth -/
def isD : D → D → Option D
  | .bl a, .bl b => some (.bl (decide (a = b)))
  | .non, .non => some (.bl true)
  | .bl _, .non => some (.bl false)
  | .int _, .non => some (.bl false)
  | .str _, .non => some (.bl false)
  | .tup _, .non => some (.bl false)
  | .kt _, .non => some (.bl false)
  | .lst _, .non => some (.bl false)
  | _, _ => none
theorem is_ne {H F : Hp} {M : OMap} {S : Sg} {v : V} {d : D} (hk : HeapOk G H F M S) (r : BRep G.K F M v d) (h : d ≠ .non) : decide (v = .non) = false := by
  apply decide_eq_false
  rintro rfl
  rcases r with r | ⟨a, w, z, m⟩
  · cases r; exact h rfl
  · cases z
theorem r_is : R2E G (fun x y H Q => (y = V.non ∧ Q (.bl (decide (x = .non))) H) ∨ rIsB x y H Q) isD := fun x y d1 d2 d H F M S Q hk r1 r2 e q => by
  have k := q
  cases d2 <;> first
    | (cases r2.unnon hk
       refine .inl ⟨rfl, ?_⟩
       cases d1 <;> first
         | (cases e; cases r1.unnon hk; exact q _ H F hk (Same.refl F) (.bl _))
         | (cases e; rw [is_ne hk r1 (fun z => nomatch z)]; exact q _ H F hk (Same.refl F) (.bl _))
         | cases e)
    | (cases r2.unbl' hk
       cases d1 <;> first
         | (cases e; cases r1.unbl' hk; exact .inr ⟨_, _, rfl, rfl, q _ H F hk (Same.refl F) (.bl _)⟩)
         | cases e)
    | (cases d1 <;> cases e)
def notOf (f : D → D → Option D) : D → D → Option D := fun x y => (f x y).bind fun d => match d with | .bl b => some (.bl (!b)) | _ => none
def isnotD : D → D → Option D := fun x y => match y with | .non => notOf isD x y | .bl _ => notOf isD x y | _ => none
theorem r_isnot : R2E G (fun x y H Q => (y = V.non ∧ Q (.bl (!decide (x = .non))) H) ∨ rNotB x y H Q) isnotD := fun x y d1 d2 d H F M S Q hk r1 r2 e q => by
  cases d2 <;> first
    | (cases r2.unnon hk
       refine .inl ⟨rfl, ?_⟩
       cases d1 <;> first
         | (cases e; cases r1.unnon hk; exact q _ H F hk (Same.refl F) (.bl _))
         | (cases e; rw [is_ne hk r1 (fun z => nomatch z)]; exact q _ H F hk (Same.refl F) (.bl _))
         | cases e)
    | (cases r2.unbl' hk
       cases d1 <;> first
         | (cases e; cases r1.unbl' hk; exact .inr ⟨_, _, rfl, rfl, q _ H F hk (Same.refl F) (.bl _)⟩)
         | cases e)
    | cases e
theorem se_is {ma mb : ME} (ha : PE X a (eB G ma)) (hb : PE X b (eB G mb)) : PE X (.Compare a [.Is] [b] pos) (eE G (mOp2 isD ma mb)) := se_cmp (OpR.or op_isN op_isBl) r_is (nomark _) ha hb
theorem st_is {ma mb : ME} (ha : PE X a (eB G ma)) (hb : PE X b (eB G mb)) : PT X (.Compare a [.Is] [b] pos) (eT G (mTst (mOp2 isD ma mb))) := st_cmp (OpR.or op_isN op_isBl) r_is (nomark _) ha hb
theorem se_isnot {ma mb : ME} (ha : PE X a (eB G ma)) (hb : PE X b (eB G mb)) : PE X (.Compare a [.IsNot] [b] pos) (eE G (mOp2 isnotD ma mb)) := se_cmp (OpR.or op_notN op_notBl) r_isnot (nomark _) ha hb
theorem st_isnot {ma mb : ME} (ha : PE X a (eB G ma)) (hb : PE X b (eB G mb)) : PT X (.Compare a [.IsNot] [b] pos) (eT G (mTst (mOp2 isnotD ma mb))) := st_cmp (OpR.or op_notN op_notBl) r_isnot (nomark _) ha hb

/-! ### in -/
def flatD : D → Bool
  | .non | .bl _ | .int _ | .str _ => true
  | _ => false
def eqFl : D → D → Bool
  | .non, .non => true
  | .bl a, .bl b => a == b
  | .bl k, .int b => (if k then 1 else 0) == b
  | .int a, .bl k => a == (if k then 1 else 0)
  | .int a, .int b => a == b
  | .str a, .str b => a == b
  | _, _ => false
def itemsD : D → Option (List D)
  | .tup ds => some ds
  | .kt ds => some ds
  | .lst ds => some ds
  | _ => none
theorem BRep.items {H F : Hp} {M : OMap} {S : Sg} {v : V} {d : D} {ds : List D} (h : HeapOk G H F M S) (e : itemsD d = some ds) (r : BRep G.K F M v d) : ∃ a vs, v = .ref a ∧ (SqL G.K H a vs ∨ SqT G.K H a vs) ∧ RepL G.K F vs ds := by
  unfold itemsD at e
  split at e
  · cases e
    obtain ⟨a, vs, e, q, r⟩ := r.untup h (d := .tup _) rfl
    exact ⟨a, vs, e, .inr q, r⟩
  · cases e
    obtain ⟨a, vs, e, q, r⟩ := r.untup h (d := .kt _) rfl
    exact ⟨a, vs, e, .inr q, r⟩
  · cases e
    obtain ⟨a, vs, e, q, r⟩ := r.unlst h
    exact ⟨a, vs, e, .inl (.of q), r⟩
  · cases e
def inFl (x y : D) : Option D := match itemsD y with
  | some ds => if flatD x && ds.all flatD then some (.bl (ds.any fun z => eqFl z x)) else none
  | none => none
theorem rep_flat {K : PySem.W.Frag} {F : Hp} {v : V} {d : D} (r : Rep K F v d) (h : flatD d = true) : flatV v = true := by
  cases r <;> first | rfl | cases h
theorem rep_eqFl {K : PySem.W.Frag} {F : Hp} {v w : V} {d e : D} (r : Rep K F v d) (r' : Rep K F w e) (h : flatD d = true) (h' : flatD e = true) : eqV v w = eqFl d e := by
  cases r <;> first | (cases r' <;> first | rfl | cases h') | cases h
theorem repL_flat {K : PySem.W.Frag} {F : Hp} {vs : List V} {ds : List D} (r : RepL K F vs ds) (h : ds.all flatD = true) : vs.all flatV = true := by
  induction r with
  | nil => rfl
  | cons r _ ih => simp only [List.all_cons, Bool.and_eq_true] at h ⊢; exact ⟨rep_flat r h.1, ih h.2⟩
theorem repL_in {K : PySem.W.Frag} {F : Hp} {vs : List V} {ds : List D} {v : V} {d : D} (r : RepL K F vs ds) (h : ds.all flatD = true) (rv : Rep K F v d) (hd : flatD d = true) : inV v vs = ds.any fun z => eqFl z d := by
  unfold inV
  induction r with
  | nil => rfl
  | cons r _ ih => simp only [List.all_cons, Bool.and_eq_true] at h; simp only [List.any_cons, ih h.2, rep_eqFl r rv h.1 hd]
theorem BRep.flat {H F : Hp} {M : OMap} {S : Sg} {v : V} {d : D} (h : HeapOk G H F M S) (r : BRep G.K F M v d) (f : flatD d = true) : Rep G.K F v d := by
  rcases r with r | ⟨a, w, rfl, m⟩
  · exact r
  · obtain ⟨_, _, o, eo, ro⟩ := h.own _ _ _ m
    cases ro <;> cases f
theorem r_inFl (neg : Bool) : R2E G (rIn G.K neg) (fun x y => (inFl x y).bind fun d => match d with | .bl b => some (.bl (if neg then !b else b)) | _ => none) := fun x y d1 d2 d H F M S Q hk r1 r2 e q => by
  obtain ⟨d3, e3, e⟩ := Option.bind_eq_some_iff.mp e
  unfold inFl at e3
  split at e3
  · rename_i ds ei
    split at e3
    · rename_i hf
      cases e3
      simp only [Bool.and_eq_true] at hf
      obtain ⟨p, vs, rfl, hq, rl⟩ := r2.items hk ei
      have rv := r1.flat hk hf.1
      refine ⟨p, vs, rfl, hq, rep_flat rv hf.1, repL_flat rl hf.2, ?_⟩
      rw [repL_in rl hf.2 rv hf.1]
      cases e
      exact q _ H F hk (Same.refl F) (.bl _)
    · cases e3
  · cases e3
def inSq : D → D → Option D := fun x y => (inFl x y).bind fun d => match d with | .bl b => some (.bl (if false then !b else b)) | _ => none
def ninSq : D → D → Option D := fun x y => (inFl x y).bind fun d => match d with | .bl b => some (.bl (if true then !b else b)) | _ => none
/-- x in a list of data -/
def inDp (x y : D) : Option D := match toP x, toP y with
  | some p, some (.list ds) => if SeqAt.shaped p && SeqAt.shaped (.list ds) then some (.bl (ds.any fun z => PyData.eqv z p)) else none
  | _, _ => none
theorem r_inDp : R2E G (rInD G.K) inDp := fun x y d1 d2 d H F M S Q hk r1 r2 e q => by
  unfold inDp at e
  split at e
  · rename_i p ds e1 e2
    split at e
    · rename_i hs
      cases e
      simp only [Bool.and_eq_true] at hs
      exact ⟨p, ds, r1.dp hk e1, r2.dp hk e2, hs.1, hs.2, q _ H F hk (Same.refl F) (.bl _)⟩
    · cases e
  · cases e
def ninDp (x y : D) : Option D := notOf inDp x y
theorem r_ninDp : R2E G (rNotInD G.K) ninDp := fun x y d1 d2 d H F M S Q hk r1 r2 e q => by
  obtain ⟨d3, e3, e⟩ := Option.bind_eq_some_iff.mp e
  unfold inDp at e3
  split at e3
  · rename_i p ds e1 e2
    split at e3
    · rename_i hs
      cases e3; cases e
      simp only [Bool.and_eq_true] at hs
      exact ⟨p, ds, r1.dp hk e1, r2.dp hk e2, hs.1, hs.2, q _ H F hk (Same.refl F) (.bl _)⟩
    · cases e3
  · cases e3
/-- a sign in a text -/
def inSg : D → D → Option D
  | .str x, .str z => if x.cps.size = 1 then some (.bl (decide (x.cps.getD 0 0 ∈ z.cps.toList))) else none
  | _, _ => none
theorem one_sign {x : Str} (h : x.cps.size = 1) : x = ⟨#[x.cps.getD 0 0]⟩ := by
  obtain ⟨⟨l⟩⟩ := x
  match l, h with
  | [c], _ => rfl
theorem r_inSg : R2E G (fun x y H Q => ∃ (c : Nat) (z : Str), x = .str ⟨#[c]⟩ ∧ y = .str z ∧ Q (.bl (decide (c ∈ z.cps.toList))) H) inSg := fun x y d1 d2 d H F M S Q hk r1 r2 e q => by
  unfold inSg at e
  split at e
  · rename_i s z
    split at e
    · rename_i hs
      cases e
      cases r1.unstr hk; cases r2.unstr hk
      exact ⟨s.cps.getD 0 0, z, congrArg V.str (one_sign hs), rfl, q _ H F hk (Same.refl F) (.bl _)⟩
    · cases e
  · cases e
def ninSg : D → D → Option D := notOf inSg
theorem r_ninSg : R2E G (fun x y H Q => ∃ (c : Nat) (z : Str), x = .str ⟨#[c]⟩ ∧ y = .str z ∧ Q (.bl (!decide (c ∈ z.cps.toList))) H) ninSg := fun x y d1 d2 d H F M S Q hk r1 r2 e q => by
  obtain ⟨d3, e3, e⟩ := Option.bind_eq_some_iff.mp e
  unfold inSg at e3
  split at e3
  · rename_i s z
    split at e3
    · rename_i hs
      cases e3; cases e
      cases r1.unstr hk; cases r2.unstr hk
      exact ⟨s.cps.getD 0 0, z, congrArg V.str (one_sign hs), rfl, q _ H F hk (Same.refl F) (.bl _)⟩
    · cases e3
  · cases e3
/-- in: flat items, a list of data, a sign of a text -/
def inD : D → D → Option D := fun x y => (inSq x y).or ((inDp x y).or (inSg x y))
def ninD : D → D → Option D := fun x y => (ninSq x y).or ((ninDp x y).or (ninSg x y))
theorem se_in {ma mb : ME} (hK : G.K = X.K) (hu : X.A.units + 65 < cLine) (hm : behindInMarks .In b = false) (ha : PE X a (eB G ma)) (hb : PE X b (eB G mb)) : PE X (.Compare a [.In] [b] pos) (eE G (mOp2 inD ma mb)) :=
  se_cmp (OpR.or (hK ▸ op_in_seq) (OpR.or (hK ▸ op_inD hu) op_in_sign)) ((r_inFl false).or1 (r_inDp.or1 r_inSg)) hm ha hb
theorem st_in {ma mb : ME} (hK : G.K = X.K) (hu : X.A.units + 65 < cLine) (hm : behindInMarks .In b = false) (ha : PE X a (eB G ma)) (hb : PE X b (eB G mb)) : PT X (.Compare a [.In] [b] pos) (eT G (mTst (mOp2 inD ma mb))) :=
  st_cmp (OpR.or (hK ▸ op_in_seq) (OpR.or (hK ▸ op_inD hu) op_in_sign)) ((r_inFl false).or1 (r_inDp.or1 r_inSg)) hm ha hb
theorem se_nin {ma mb : ME} (hK : G.K = X.K) (hu : X.A.units + 65 < cLine) (hm : behindInMarks .NotIn b = false) (ha : PE X a (eB G ma)) (hb : PE X b (eB G mb)) : PE X (.Compare a [.NotIn] [b] pos) (eE G (mOp2 ninD ma mb)) :=
  se_cmp (OpR.or (hK ▸ op_notIn_seq) (OpR.or (hK ▸ op_notInD hu) op_notIn_sign)) ((r_inFl true).or1 (r_ninDp.or1 r_ninSg)) hm ha hb
theorem st_nin {ma mb : ME} (hK : G.K = X.K) (hu : X.A.units + 65 < cLine) (hm : behindInMarks .NotIn b = false) (ha : PE X a (eB G ma)) (hb : PE X b (eB G mb)) : PT X (.Compare a [.NotIn] [b] pos) (eT G (mTst (mOp2 ninD ma mb))) :=
  st_cmp (OpR.or (hK ▸ op_notIn_seq) (OpR.or (hK ▸ op_notInD hu) op_notIn_sign)) ((r_inFl true).or1 (r_ninDp.or1 r_ninSg)) hm ha hb
end
end Dv
namespace Dv
open PySem PySem.Spec
open PyProof.Rows L2
section
variable {G : Gh} {X : Cx} {e a b c o : Expr} {es : List Expr} {pos p2 : Pos}

/-! ### argument lists, displays -/
def mCons (m : ME) (n : MA) : MA := fun ρ S => (m ρ S).bind fun p => (n ρ p.2).map fun q => (p.1 :: q.1, q.2)
theorem mCons_some {m : ME} {n : MA} {ρ : Lo} {S S' : Sg} {ds : List D} (h : mCons m n ρ S = some (ds, S')) : ∃ d S1 r, m ρ S = some (d, S1) ∧ n ρ S1 = some (r, S') ∧ ds = d :: r := by
  obtain ⟨⟨d1, S1⟩, e1, h⟩ := Option.bind_eq_some_iff.mp h
  obtain ⟨⟨d2, S2⟩, e2, h⟩ := Option.map_eq_some_iff.mp h
  cases h
  exact ⟨_, _, _, e1, e2, rfl⟩
theorem sa_nil : PA X [] (eA G (mPure [])) := pa_imp pa_nil fun σ H Q ⟨F, M, ρ, S, hk, sl, d, S', e, q⟩ => by cases e; exact q [] H F hk (Same.refl F) .nil
theorem sa_cons {m : ME} {n : MA} (ha : PE X e (eE G m)) (hr : PA X es (eA G n)) (hs : starEach (e :: es) X.env = (false, eval e X.env) :: starEach es X.env := by rfl) : PA X (e :: es) (eA G (mCons m n)) := pa_imp (pa_cons ha hr hs) fun σ H Q ⟨F, M, ρ, S, hk, sl, ds, S', e, q⟩ => by
  obtain ⟨d, S1, r, e1, e2, rfl⟩ := mCons_some e
  exact ⟨F, M, ρ, S, hk, sl, d, S1, e1, fun v H1 F1 hk1 le1 r1 => ⟨F1, M, ρ, S1, hk1, sl.mono le1, r, S', e2, fun vs H2 F2 hk2 le2 r2 => q _ H2 F2 hk2 (le1.trans le2) (.cons (r1.mono le2) r2)⟩⟩
theorem sb_nil : PA X [] (eAB G (mPure [])) := pa_imp pa_nil fun σ H Q ⟨F, M, ρ, S, hk, sl, d, S', e, q⟩ => by cases e; exact q [] H F hk (Same.refl F) .nil
theorem sb_cons {m : ME} {n : MA} (ha : PE X e (eB G m)) (hr : PA X es (eAB G n)) (hs : starEach (e :: es) X.env = (false, eval e X.env) :: starEach es X.env := by rfl) : PA X (e :: es) (eAB G (mCons m n)) := pa_imp (pa_cons ha hr hs) fun σ H Q ⟨F, M, ρ, S, hk, sl, ds, S', e, q⟩ => by
  obtain ⟨d, S1, r, e1, e2, rfl⟩ := mCons_some e
  exact ⟨F, M, ρ, S, hk, sl, d, S1, e1, fun v H1 F1 hk1 le1 r1 => ⟨F1, M, ρ, S1, hk1, sl.mono le1, r, S', e2, fun vs H2 F2 hk2 le2 r2 => q _ H2 F2 hk2 (le1.trans le2) (.cons (r1.mono le2) r2)⟩⟩
def mTup (m : MA) : ME := fun ρ S => (m ρ S).bind fun p => if p.1.length ≤ 4096 then some (.tup p.1, p.2) else none
def mLst (m : MA) : ME := fun ρ S => (m ρ S).bind fun p => if p.1.length ≤ 4096 then some (.lst p.1, p.2) else none
theorem line4096 {n : Nat} (h : n ≤ 4096) : n ≤ sizeLine := Nat.le_trans h (by decide)
theorem se_tup {m : MA} {x1} (h : PA X es (eA G m)) : PE X (.Tuple es x1 pos) (eE G (mTup m)) := pe_imp (pe_tup h) fun σ H Q ⟨F, M, ρ, S, hk, sl, d, S', e, q⟩ => by
  obtain ⟨⟨ds, S1⟩, e1, e⟩ := Option.bind_eq_some_iff.mp e
  split at e
  · rename_i hz
    cases e
    exact ⟨F, M, ρ, S, hk, sl, ds, S1, e1, fun vs H1 F1 hk1 le1 r1 => ⟨by rw [Paired.length r1]; exact line4096 hz, fun p hp => q _ _ _ (hk1.laid hp) (le1.trans (le_upd (hk1.fnone hp))) (.mkTup upd_same (line4096 hz) (RepL.mono (le_upd (hk1.fnone hp)) r1))⟩⟩
  · cases e
theorem sf_lst {m : MA} (h : PA X es (eA G m)) : PE X (.List es pos) (eF G (mLst m)) := pe_imp (pe_lst h) fun σ H Q ⟨F, M, ρ, S, hk, sl, d, S', e, q⟩ => by
  obtain ⟨⟨ds, S1⟩, e1, e⟩ := Option.bind_eq_some_iff.mp e
  split at e
  · rename_i hz
    cases e
    exact ⟨F, M, ρ, S, hk, sl, ds, S1, e1, fun vs H1 F1 hk1 le1 r1 => ⟨by rw [Paired.length r1]; exact line4096 hz, fun p hp => q p _ F1 (hk1.laidO hp (.lst (line4096 hz) r1)) (hk1.mnone hp) le1⟩⟩
  · cases e

/-! ### items, slices -/
theorem paired_atI {α β : Type} {R : α → β → Prop} {xs : List α} {ys : List β} (h : Paired R xs ys) {i : Int} {y : β} (e : atI ys i = some y) : ∃ x, atI xs i = some x ∧ R x y := by
  unfold atI at e ⊢
  rw [Paired.length h]
  obtain ⟨j, e1, e2⟩ := Option.bind_eq_some_iff.mp e
  obtain ⟨x, e3, r⟩ := paired_get' h e2
  exact ⟨x, by rw [e1]; exact e3, r⟩
def ixS (x : D) (i : Int) : Option D := match x with
  | .str z => if z.length ≤ sizeLine then (atI z.cps.toList i).map fun c => .str ⟨#[c]⟩ else none
  | _ => none
def ixD (x y : D) : Option D := match y with
  | .int i => match itemsD x with
    | some ds => atI ds i
    | none => ixS x i
  | _ => none
theorem r_ix : R2E G (rIx G.K) ixD := fun x y d1 d2 d H F M S Q hk r1 r2 e q => by
  unfold ixD at e
  split at e
  · rename_i i
    cases r2.unint hk
    split at e
    · rename_i ds ei
      obtain ⟨p, vs, rfl, hq, rl⟩ := r1.items hk ei
      obtain ⟨v, ev, rv⟩ := paired_atI rl e
      rcases hq with hq | hq
      · exact .inl ⟨p, vs, i, v, rfl, rfl, hq, ev, q v H F hk (Same.refl F) rv⟩
      · exact .inr (.inl ⟨p, vs, i, v, rfl, rfl, hq, ev, q v H F hk (Same.refl F) rv⟩)
    · unfold ixS at e
      split at e
      · split at e
        · obtain ⟨c, e1, e⟩ := Option.map_eq_some_iff.mp e
          cases e
          cases r1.unstr hk
          exact .inr (.inr ⟨_, i, c, rfl, rfl, by assumption, e1, q _ H F hk (Same.refl F) (.str _)⟩)
        · cases e
      · cases e
  · cases e
theorem se_ix {ma mb : ME} (hK : G.K = X.K) (ha : PE X a (eB G ma)) (hb : PE X b (eB G mb)) (hs : PlainIx b := by exact fun _ _ => rfl) : PE X (.Subscript a b pos) (eE G (mOp2 ixD ma mb)) := pe_imp (pe_ix (hK ▸ ix_seq) ha hb hs) (op2_imp r_ix)
abbrev MO := MX (Option Int)
def eO (G : Gh) (m : MO) : TO := fun σ H Q => ∃ F M ρ S, HeapOk G H F M S ∧ Slots G.K σ ρ F M ∧ ∃ d S', m ρ S = some (d, S') ∧ ∀ H' F', HeapOk G H' F' M S' → Le F F' → Q d H'
def mPart (m : ME) : MO := fun ρ S => (m ρ S).bind fun p => match p.1 with | .int i => some (some i, p.2) | _ => none
theorem so_none : PO X none (eO G (mPure none)) := ⟨fun pins s σ H Q I ⟨F, M, ρ, S, hk, sl, d, S', e, q⟩ => by
  cases e
  exact (po_none (X := X)).run pins s σ H Q I (q H F hk (Same.refl F))⟩
theorem so_some {m : ME} (h : PE X e (eE G m)) : PO X (some e) (eO G (mPart m)) := ⟨fun pins s σ H Q I ⟨F, M, ρ, S, hk, sl, d, S', e, q⟩ => by
  obtain ⟨⟨d1, S1⟩, e1, e⟩ := Option.bind_eq_some_iff.mp e
  cases d1 with
  | int i =>
    cases e
    exact (po_some h).run pins s σ H Q I ⟨F, M, ρ, S, hk, sl, _, S1, e1, fun v H' F' hk' le r => by cases r; exact ⟨i, rfl, q H' F' hk' le⟩⟩
  | _ => cases e⟩
def cutG {α : Type} (xs : List α) (lo hi : Option Int) : List α := (xs.drop (HT.sIx xs.length 0 lo)).take (HT.sIx xs.length xs.length hi - HT.sIx xs.length 0 lo)
theorem paired_cut {K : PySem.W.Frag} {F : Hp} {xs : List V} {ys : List D} (h : RepL K F xs ys) (lo hi : Option Int) : RepL K F (cutV xs lo hi) (cutG ys lo hi) := by
  unfold cutV cutG
  rw [Paired.length h]
  exact paired_take _ (paired_drop _ h)
def slT (d : D) (lo hi : Option Int) : Option D := match d.asT with
  | some ds => if HT.sIx ds.length 0 lo = 0 ∧ HT.sIx ds.length ds.length hi = ds.length then some d else some (.tup (cutG ds lo hi))
  | none => none
def slL (d : D) (lo hi : Option Int) : Option D := match d with
  | .lst ds => some (.lst (cutG ds lo hi))
  | _ => none
def slS (d : D) (lo hi : Option Int) : Option D := match d with
  | .str z => if z.length ≤ sizeLine then some (.str (cutS z lo hi)) else none
  | _ => none
/-- a slice of a tuple, a text, a list (new, frozen) -/
def slD (d : D) (lo hi : Option Int) : Option D := (slT d lo hi).or ((slS d lo hi).or (slL d lo hi))
def mSl (f : D → Option Int → Option Int → Option D) (m : ME) (l u : MO) : ME := fun ρ S => (m ρ S).bind fun p => (l ρ p.2).bind fun q => (u ρ q.2).bind fun r => (f p.1 q.1 r.1).map fun d => (d, r.2)
theorem mSl_some {f : D → Option Int → Option Int → Option D} {m : ME} {l u : MO} {ρ : Lo} {S S' : Sg} {d : D} (h : mSl f m l u ρ S = some (d, S')) : ∃ d1 S1 lo S2 hi, m ρ S = some (d1, S1) ∧ l ρ S1 = some (lo, S2) ∧ u ρ S2 = some (hi, S') ∧ f d1 lo hi = some d := by
  obtain ⟨⟨d1, S1⟩, e1, h⟩ := Option.bind_eq_some_iff.mp h
  obtain ⟨⟨d2, S2⟩, e2, h⟩ := Option.bind_eq_some_iff.mp h
  obtain ⟨⟨d3, S3⟩, e3, h⟩ := Option.bind_eq_some_iff.mp h
  obtain ⟨d4, e4, h⟩ := Option.map_eq_some_iff.mp h
  cases h
  exact ⟨_, _, _, _, _, e1, e2, e3, e4⟩
theorem sl_run {m : ME} {l u : MO} {σ : L2.St} {H : Hp} {R : V → Option Int → Option Int → Hp → Prop} {F : Hp} {M : OMap} {ρ : Lo} {S : Sg} (hk : HeapOk G H F M S) (sl : Slots G.K σ ρ F M) {d1 : D} {lo hi : Option Int} {S1 S2 S3 : Sg}
    (e1 : m ρ S = some (d1, S1)) (e2 : l ρ S1 = some (lo, S2)) (e3 : u ρ S2 = some (hi, S3)) (h : ∀ x H' F', HeapOk G H' F' M S3 → Le F F' → BRep G.K F' M x d1 → R x lo hi H') :
    eB G m σ H fun x H1 => eO G l σ H1 fun lo H2 => eO G u σ H2 fun hi H3 => R x lo hi H3 :=
  ⟨F, M, ρ, S, hk, sl, d1, S1, e1, fun x H1 F1 hk1 le1 r1 => ⟨F1, M, ρ, S1, hk1, sl.mono le1, lo, S2, e2, fun H2 F2 hk2 le2 => ⟨F2, M, ρ, S2, hk2, (sl.mono le1).mono le2, hi, S3, e3, fun H3 F3 hk3 le3 => h x H3 F3 hk3 ((le1.trans le2).trans le3) ((r1.mono le2).mono le3)⟩⟩⟩
theorem cut_len {α : Type} (xs : List α) (lo hi : Option Int) : (cutG xs lo hi).length ≤ xs.length := by
  unfold cutG; rw [List.length_take, List.length_drop]; omega
variable {lo hi : Option Expr} {m : ME} {l u : MO}
theorem sf_slL (hK : G.K = X.K) (he : PE X e (eB G m)) (hl : PO X lo (eO G l)) (hu : PO X hi (eO G u)) : PE X (.Subscript e (.Slice lo hi none p2) pos) (eF G (mSl slL m l u)) := pe_imp (pe_slice (hK ▸ sl_list) he hl hu) fun σ H Q ⟨F, M, ρ, S, hk, sl, d, S', e, q⟩ => by
  obtain ⟨d1, S1, lo', S2, hi', e1, e2, e3, e4⟩ := mSl_some e
  refine sl_run hk sl e1 e2 e3 fun x H' F' hk' le r => ?_
  unfold slL at e4
  split at e4
  · cases e4
    have r0 := r
    obtain ⟨a, vs, rfl, q1, rl⟩ := r.unlst hk'
    exact ⟨a, vs, rfl, .of q1, fun p hp => q p _ F' (hk'.laidO hp (.lst (Nat.le_trans (cut_len _ _ _) (r0.size hk' (.inr rfl))) (paired_cut rl _ _))) (hk'.mnone hp) le⟩
  · cases e4
theorem se_sl (hK : G.K = X.K) (he : PE X e (eB G m)) (hl : PO X lo (eO G l)) (hu : PO X hi (eO G u)) : PE X (.Subscript e (.Slice lo hi none p2) pos) (eE G (mSl slD m l u)) := pe_imp (pe_slice (SlR.or (hK ▸ sl_tupA) (SlR.or sl_str (hK ▸ sl_list))) he hl hu) fun σ H Q ⟨F, M, ρ, S, hk, sl, d, S', e, q⟩ => by
  obtain ⟨d1, S1, lo', S2, hi', e1, e2, e3, e4⟩ := mSl_some e
  refine sl_run hk sl e1 e2 e3 fun x H' F' hk' le r => ?_
  unfold slD at e4
  cases h1 : slT d1 lo' hi' with
  | some z =>
    rw [h1] at e4
    cases e4
    unfold slT at h1
    split at h1
    · rename_i ds ed
      obtain ⟨a, vs, rfl, q1, rl⟩ := r.untup hk' ed
      have hl := Paired.length rl
      have rr := r.rep hk' (by rw [ed]; exact fun z => nomatch z)
      refine .inl ⟨a, vs, rfl, q1, fun w => ?_, fun w p hp => ?_⟩
      · rw [hl] at w
        rw [if_pos w] at h1; cases h1
        exact q _ H' F' hk' le rr
      · rw [hl] at w
        rw [if_neg w] at h1; cases h1
        exact q _ _ _ (hk'.laid hp) (le.trans (le_upd (hk'.fnone hp))) (.mkTup upd_same (Nat.le_trans (cut_len _ _ _) (rr.size (.inl ed))) (RepL.mono (le_upd (hk'.fnone hp)) (paired_cut rl _ _)))
    · cases h1
  | none =>
    rw [h1] at e4
    cases h2 : slS d1 lo' hi' with
    | some z =>
      rw [h2] at e4
      cases e4
      unfold slS at h2
      split at h2
      · split at h2
        · cases h2
          cases r.unstr hk'
          exact .inr (.inl ⟨_, rfl, by assumption, q _ H' F' hk' le (.str _)⟩)
        · cases h2
      · cases h2
    | none =>
      rw [h2] at e4
      have e4 : slL d1 lo' hi' = some d := e4
      unfold slL at e4
      split at e4
      · cases e4
        have r0 := r
        obtain ⟨a, vs, rfl, q1, rl⟩ := r.unlst hk'
        exact .inr (.inr ⟨a, vs, rfl, .of q1, fun p hp => q _ _ _ (hk'.laid hp) (le.trans (le_upd (hk'.fnone hp))) (.mkLst upd_same (Nat.le_trans (cut_len _ _ _) (r0.size hk' (.inr rfl))) (RepL.mono (le_upd (hk'.fnone hp)) (paired_cut rl _ _)))⟩)
      · cases e4

/-! ### built-in functions -/
def CBE (G : Gh) (r : List V → Hp → VK → Prop) (f : List D → Option D) : Prop := ∀ (vs : List V) (ds : List D) (d : D) (H F : Hp) (M : OMap) (S : Sg) (Q : VK), HeapOk G H F M S → BRepL G.K F M vs ds → f ds = some d →
  (∀ v H' F', HeapOk G H' F' M S → Le F F' → Rep G.K F' v d → Q v H') → r vs H Q
def CBF (G : Gh) (r : List V → Hp → VK → Prop) (f : List D → Option D) : Prop := ∀ (vs : List V) (ds : List D) (d : D) (H F : Hp) (M : OMap) (S : Sg) (Q : VK), HeapOk G H F M S → BRepL G.K F M vs ds → f ds = some d →
  (∀ a H' F', HeapOk G H' F' (updO M a (none, d)) S → M a = none → Le F F' → Q (.ref a) H') → r vs H Q
def mCall (f : List D → Option D) (m : MA) : ME := fun ρ S => (m ρ S).bind fun p => (f p.1).map fun d => (d, p.2)
theorem mCall_some {f : List D → Option D} {m : MA} {ρ : Lo} {S S' : Sg} {d : D} (h : mCall f m ρ S = some (d, S')) : ∃ ds, m ρ S = some (ds, S') ∧ f ds = some d := by
  obtain ⟨⟨d1, S1⟩, e1, h⟩ := Option.bind_eq_some_iff.mp h
  obtain ⟨d4, e4, h⟩ := Option.map_eq_some_iff.mp h
  cases h
  exact ⟨_, e1, e4⟩
theorem cb_imp {r : List V → Hp → VK → Prop} {f : List D → Option D} {n : MA} (hr : CBE G r f) : ∀ σ H Q, eE G (mCall f n) σ H Q → tCB r (eAB G n) σ H Q := fun σ H Q ⟨F, M, ρ, S, hk, sl, d, S', e, q⟩ => by
  obtain ⟨ds, e1, e2⟩ := mCall_some e
  exact ⟨F, M, ρ, S, hk, sl, ds, S', e1, fun vs H' F' hk' le rl => hr vs ds d H' F' M S' Q hk' rl e2 fun v H2 F2 hk2 le2 r2 => q v H2 F2 hk2 (le.trans le2) r2⟩
theorem cb_impF {r : List V → Hp → VK → Prop} {f : List D → Option D} {n : MA} (hr : CBF G r f) : ∀ σ H Q, eF G (mCall f n) σ H Q → tCB r (eAB G n) σ H Q := fun σ H Q ⟨F, M, ρ, S, hk, sl, d, S', e, q⟩ => by
  obtain ⟨ds, e1, e2⟩ := mCall_some e
  exact ⟨F, M, ρ, S, hk, sl, ds, S', e1, fun vs H' F' hk' le rl => hr vs ds d H' F' M S' Q hk' rl e2 fun v H2 F2 hk2 le2 r2 => q v H2 F2 hk2 le2 (le.trans r2)⟩
theorem se_cb {r : List V → Hp → VK → Prop} {f : List D → Option D} {n : MA} (hr : CBE G r f) (h : PE X o (tCB r (eAB G n))) : PE X o (eE G (mCall f n)) := pe_imp h (cb_imp hr)
theorem sf_cb {r : List V → Hp → VK → Prop} {f : List D → Option D} {n : MA} (hr : CBF G r f) (h : PE X o (tCB r (eAB G n))) : PE X o (eF G (mCall f n)) := pe_imp h (cb_impF hr)
theorem CBE.or {r r' : List V → Hp → VK → Prop} {f g : List D → Option D} (h : CBE G r f) (h' : CBE G r' g) : CBE G (fun xs H Q => r xs H Q ∨ r' xs H Q) (fun x => (f x).or (g x)) := fun vs ds d H F M S Q hk rl e q => by
  have e : (f ds).or (g ds) = some d := e
  cases e1 : f ds with
  | some z => rw [e1] at e; cases e; exact .inl (h vs ds d H F M S Q hk rl e1 q)
  | none => rw [e1] at e; exact .inr (h' vs ds d H F M S Q hk rl (by simpa using e) q)
theorem brl1 {K : PySem.W.Frag} {F : Hp} {M : OMap} {vs : List V} {d : D} (r : BRepL K F M vs [d]) : ∃ v, vs = [v] ∧ BRep K F M v d := by
  cases r with | cons r t => cases t; exact ⟨_, rfl, r⟩
theorem brl2 {K : PySem.W.Frag} {F : Hp} {M : OMap} {vs : List V} {d d' : D} (r : BRepL K F M vs [d, d']) : ∃ v v', vs = [v, v'] ∧ BRep K F M v d ∧ BRep K F M v' d' := by
  cases r with | cons r t => cases t with | cons r' t' => cases t'; exact ⟨_, _, rfl, r, r'⟩
/-- len -/
def lenA : List D → Option D
  | [d] => match itemsD d with
    | some ds => some (.int ds.length)
    | none => match d with
      | .str z => if z.length ≤ sizeLine then some (.int z.length) else none
      | _ => none
  | _ => none
def lenK : List D → Option D
  | [.dK kvs] => some (.int kvs.length)
  | _ => none
theorem c_lenA : CBE G (fun xs H Q => ∃ x n, xs = [x] ∧ LenV G.K x H n ∧ Q (.int n) H) lenA := fun vs ds d H F M S Q hk rl e q => by
  unfold lenA at e
  split at e
  · obtain ⟨v, rfl, r⟩ := brl1 rl
    split at e
    · rename_i xs ei
      cases e
      obtain ⟨a, us, rfl, hq, rl⟩ := r.items hk ei
      refine ⟨_, xs.length, rfl, ?_, q _ H F hk (Same.refl F) (.int _)⟩
      rw [← Paired.length rl]
      exact hq.imp (fun h => ⟨_, h, rfl⟩) fun h => ⟨_, h, rfl⟩
    · split at e
      · split at e
        · cases e
          cases r.unstr hk
          exact ⟨_, _, rfl, ⟨by assumption, rfl⟩, q _ H F hk (Same.refl F) (.int _)⟩
        · cases e
      · cases e
  · cases e
theorem c_lenK : CBE G (fun xs H Q => ∃ a kvs, xs = [V.ref a] ∧ H a = some (.dK kvs) ∧ Q (.int kvs.length) H) lenK := fun vs ds d H F M S Q hk rl e q => by
  unfold lenK at e
  split at e
  · obtain ⟨v, rfl, r⟩ := brl1 rl
    cases e
    obtain ⟨a, us, rfl, hq, rl⟩ := r.undK hk
    refine ⟨a, us, rfl, hq, ?_⟩
    rw [Paired.length rl]
    exact q _ H F hk (Same.refl F) (.int _)
  · cases e
def lenS : List D → Option D
  | [.scr ns] => some (.int ns.length)
  | _ => none
theorem c_lenS : CBE G (fun xs H Q => ∃ x n, xs = [x] ∧ LenV G.K x H n ∧ Q (.int n) H) lenS := fun vs ds d H F M S Q hk rl e q => by
  unfold lenS at e
  split at e
  · rename_i ns
    obtain ⟨v, rfl, r⟩ := brl1 rl
    cases e
    rcases r with r | ⟨a, w, rfl, m⟩
    · cases r with
      | scr h => exact ⟨_, ns.length, rfl, .inl ⟨_, Same.seq hk.sub h, by simp⟩, q _ H F hk (Same.refl F) (.int _)⟩
    · obtain ⟨_, _, o, eo, ro⟩ := hk.own _ _ _ m; cases ro
  · cases e
def lenD : List D → Option D := fun ds => (lenA ds).or ((lenK ds).or (lenS ds))
theorem c_len (hK : G.K = X.K) : CallR X (.builtin "len") (fun xs H Q => (∃ x n, xs = [x] ∧ LenV G.K x H n ∧ Q (.int n) H) ∨ ((∃ a kvs, xs = [V.ref a] ∧ H a = some (.dK kvs) ∧ Q (.int kvs.length) H) ∨ ∃ x n, xs = [x] ∧ LenV G.K x H n ∧ Q (.int n) H)) :=
  CallR.or (hK ▸ call_len) (CallR.or call_lenD (hK ▸ call_len))
/-- all, any -/
def blsD : List D → Option (List Bool)
  | [] => some []
  | .bl b :: r => (blsD r).map (b :: ·)
  | _ => none
theorem repL_bls {K : PySem.W.Frag} {F : Hp} : ∀ {vs : List V} {ds : List D} {bs : List Bool}, RepL K F vs ds → blsD ds = some bs → vs = bs.map V.bl
  | _, _, _, .nil, e => by cases e; rfl
  | _, d :: _, _, .cons r t, e => by
    cases d with
    | bl b =>
      obtain ⟨bs, e1, rfl⟩ := Option.map_eq_some_iff.mp e
      cases r
      rw [repL_bls t e1]; rfl
    | _ => cases e
def allD : List D → Option D
  | [.lst ds] => (blsD ds).map fun bs => .bl (bs.all id)
  | _ => none
def anyD : List D → Option D
  | [.lst ds] => (blsD ds).map fun bs => .bl (bs.any id)
  | _ => none
theorem c_all : CBE G (rAll G.K) allD := fun vs ds d H F M S Q hk rl e q => by
  unfold allD at e
  split at e
  · obtain ⟨bs, e1, e⟩ := Option.map_eq_some_iff.mp e
    cases e
    obtain ⟨v, rfl, r⟩ := brl1 rl
    obtain ⟨a, us, rfl, hq, rl⟩ := r.unlst hk
    have h := repL_bls rl e1
    subst h
    exact ⟨a, bs, rfl, .of hq, q _ H F hk (Same.refl F) (.bl _)⟩
  · cases e
theorem c_any : CBE G (rAny G.K) anyD := fun vs ds d H F M S Q hk rl e q => by
  unfold anyD at e
  split at e
  · obtain ⟨bs, e1, e⟩ := Option.map_eq_some_iff.mp e
    cases e
    obtain ⟨v, rfl, r⟩ := brl1 rl
    obtain ⟨a, us, rfl, hq, rl⟩ := r.unlst hk
    have h := repL_bls rl e1
    subst h
    exact ⟨a, bs, rfl, .of hq, q _ H F hk (Same.refl F) (.bl _)⟩
  · cases e
/-- sum, abs, min, int, gcd -/
def intsD : List D → Option (List Int)
  | [] => some []
  | .int b :: r => (intsD r).map (b :: ·)
  | _ => none
theorem repL_ints {K : PySem.W.Frag} {F : Hp} : ∀ {vs : List V} {ds : List D} {bs : List Int}, RepL K F vs ds → intsD ds = some bs → vs = bs.map V.int
  | _, _, _, .nil, e => by cases e; rfl
  | _, d :: _, _, .cons r t, e => by
    cases d with
    | int b =>
      obtain ⟨bs, e1, rfl⟩ := Option.map_eq_some_iff.mp e
      cases r
      rw [repL_ints t e1]; rfl
    | _ => cases e
def sumD : List D → Option D
  | [.lst ds] => (intsD ds).map fun bs => .int bs.sum
  | _ => none
theorem c_sum : CBE G (rSum G.K) sumD := fun vs ds d H F M S Q hk rl e q => by
  unfold sumD at e
  split at e
  · obtain ⟨bs, e1, e⟩ := Option.map_eq_some_iff.mp e
    cases e
    obtain ⟨v, rfl, r⟩ := brl1 rl
    obtain ⟨a, us, rfl, hq, rl⟩ := r.unlst hk
    have h := repL_ints rl e1
    subst h
    exact ⟨a, bs, rfl, .of hq, q _ H F hk (Same.refl F) (.int _)⟩
  · cases e
def absD : List D → Option D
  | [.int i] => some (.int (if i < 0 then -i else i))
  | _ => none
theorem c_abs : CBE G (fun xs H Q => ∃ i, xs = [.int i] ∧ Q (.int (if i < 0 then -i else i)) H) absD := fun vs ds d H F M S Q hk rl e q => by
  unfold absD at e
  split at e
  · cases e
    obtain ⟨v, rfl, r⟩ := brl1 rl
    cases r.unint hk
    exact ⟨_, rfl, q _ H F hk (Same.refl F) (.int _)⟩
  · cases e
def minD : List D → Option D
  | [.int i, .int j] => some (.int (if j < i then j else i))
  | _ => none
theorem c_min : CBE G (fun xs H Q => ∃ i j, xs = [.int i, .int j] ∧ Q (.int (if j < i then j else i)) H) minD := fun vs ds d H F M S Q hk rl e q => by
  unfold minD at e
  split at e
  · cases e
    obtain ⟨v, w, rfl, r, r'⟩ := brl2 rl
    cases r.unint hk
    cases r'.unint hk
    exact ⟨_, _, rfl, q _ H F hk (Same.refl F) (.int _)⟩
  · cases e
def intD : List D → Option D
  | [.int i] => some (.int i)
  | _ => none
theorem c_int : CBE G (fun xs H Q => (∃ i, xs = [V.int i] ∧ Q (.int i) H) ∨ ∃ k, xs = [V.bl k] ∧ Q (.int (if k then 1 else 0)) H) intD := fun vs ds d H F M S Q hk rl e q => by
  unfold intD at e
  split at e
  · cases e
    obtain ⟨v, rfl, r⟩ := brl1 rl
    cases r.unint hk
    exact .inl ⟨_, rfl, q _ H F hk (Same.refl F) (.int _)⟩
  · cases e
def gcdD : List D → Option D
  | [.int i, .int j] => some (.int ((Nat.gcd i.natAbs j.natAbs : Nat) : Int))
  | _ => none
theorem c_gcd : CBE G rGcd gcdD := fun vs ds d H F M S Q hk rl e q => by
  unfold gcdD at e
  split at e
  · cases e
    obtain ⟨v, w, rfl, r, r'⟩ := brl2 rl
    cases r.unint hk
    cases r'.unint hk
    exact ⟨_, _, rfl, q _ H F hk (Same.refl F) (.int _)⟩
  · cases e
/-- tuple(..), list(..) of lists and tuples -/
def tupleD : List D → Option D
  | [.lst ds] => some (.tup ds)
  | [.tup ds] => some (.tup ds)
  | [.kt ds] => some (.kt ds)
  | _ => none
theorem c_tuple : CBE G (fun xs H Q => ∃ p ys, xs = [V.ref p] ∧ ((SqL G.K H p ys ∧ ∀ l, H l = none → Q (.ref l) (upd H l (.tup ys))) ∨ (SqT G.K H p ys ∧ Q (.ref p) H))) tupleD := fun vs ds d H F M S Q hk rl e q => by
  unfold tupleD at e
  split at e
  · cases e
    obtain ⟨v, rfl, r⟩ := brl1 rl
    have r0 := r
    obtain ⟨a, us, rfl, hq, rl⟩ := r.unlst hk
    exact ⟨a, us, rfl, .inl ⟨.of hq, fun p hp => q _ _ _ (hk.laid hp) (le_upd (hk.fnone hp)) (.mkTup upd_same (r0.size hk (.inr rfl)) (RepL.mono (le_upd (hk.fnone hp)) rl))⟩⟩
  · cases e
    obtain ⟨v, rfl, r⟩ := brl1 rl
    obtain ⟨a, us, rfl, hq, rl⟩ := r.untup hk (d := .tup _) rfl
    exact ⟨a, us, rfl, .inr ⟨hq, q _ H F hk (Same.refl F) (r.rep hk (fun z => nomatch z))⟩⟩
  · cases e
    obtain ⟨v, rfl, r⟩ := brl1 rl
    obtain ⟨a, us, rfl, hq, rl⟩ := r.untup hk (d := .kt _) rfl
    exact ⟨a, us, rfl, .inr ⟨hq, q _ H F hk (Same.refl F) (r.rep hk (fun z => nomatch z))⟩⟩
  · cases e
theorem items_cases {d : D} {xs : List D} (h : itemsD d = some xs) : d.asT = some xs ∨ d = .lst xs := by
  unfold itemsD at h
  split at h <;> first | (cases h; first | exact .inl rfl | exact .inr rfl) | cases h
def listD : List D → Option D
  | [d] => (itemsD d).map .lst
  | _ => none
theorem c_list : CBF G (fun xs H Q => ∃ p ys, xs = [V.ref p] ∧ (SqL G.K H p ys ∨ SqT G.K H p ys) ∧ ∀ l, H l = none → Q (.ref l) (upd H l (.lst ys))) listD := fun vs ds d H F M S Q hk rl e q => by
  unfold listD at e
  split at e
  · obtain ⟨xs, e1, e⟩ := Option.map_eq_some_iff.mp e
    cases e
    obtain ⟨v, rfl, r⟩ := brl1 rl
    have r0 := r
    obtain ⟨a, us, rfl, hq, rl⟩ := r.items hk e1
    exact ⟨a, us, rfl, hq, fun p hp => q p _ F (hk.laidO hp (.lst (r0.size hk (items_cases e1)) rl)) (hk.mnone hp) (Same.refl F)⟩
  · cases e
/-- isinstance(x, T) -/
def tyD : D → Option String
  | .non => some "NoneType"
  | .bl _ => some "bool"
  | .int _ => some "int"
  | .str _ => some "str"
  | .tup _ => some "tuple"
  | .kt _ => some "tuple"
  | .lst _ => some "list"
  | .dK _ => some "dict"
  | .dT _ => some "dict"
  | _ => none
theorem rep_tyx {H F : Hp} {M : OMap} {S : Sg} {v : V} {d : D} {t : String} (h : HeapOk G H F M S) (r : BRep G.K F M v d) (e : tyD d = some t) : TyX G.K H v (.type t) := by
  rcases r with r | ⟨a, w, rfl, m⟩
  · cases r with
    | non => cases e; exact .base .non
    | bl b => cases e; exact .base (.bl b)
    | int i => cases e; exact .base (.int i)
    | str x => cases e; exact .base (.str x)
    | tup q _ _ _ => cases e; exact .base (.tup (h.sub _ _ q))
    | kt q _ _ =>
      cases e
      rcases q with (q | ⟨_, q⟩) | ⟨o, its, n, k, c, _⟩
      · cases q
      · cases q
      · exact .kTuple k c
    | lst q _ _ _ => cases e; exact .base (.lst (h.sub _ _ q))
    | dK q _ _ => cases e; exact .base (.dK (h.sub _ _ q))
    | dT q _ _ => cases e; exact .base (.dT (h.sub _ _ q))
    | rng a => cases e
    | fn a => cases e
    | scr q => cases e
  · obtain ⟨_, _, o, eo, ro⟩ := h.own _ _ _ m
    cases ro with
    | lst _ r => cases e; exact .base (.lst eo)
    | dK r => cases e; exact .base (.dK eo)
    | dT r => cases e; exact .base (.dT eo)
def isiD (T : String) (d : D) : Option D := (tyD d).bind fun t => (kitB t T).map .bl
theorem se_isi {t : String} (h : PE X o (tCB (rIsi G.K) (tCons (eB G m) (tCons (tC (.ty t)) tNil)))) : PE X o (eE G (mOp1 (isiD t) m)) :=
  pe_imp h fun σ H Q ⟨F, M, ρ, S, hk, sl, d, S', e, q⟩ => by
    obtain ⟨d1, e1, e2⟩ := mOp1_some e
    refine ⟨F, M, ρ, S, hk, sl, d1, S', e1, fun v H' F' hk' le r => ?_⟩
    obtain ⟨ty, e3, e4⟩ := Option.bind_eq_some_iff.mp e2
    obtain ⟨k, e5, e6⟩ := Option.map_eq_some_iff.mp e4
    cases e6
    exact ⟨v, .ty t, .type ty, .type t, k, rfl, .ty t, rep_tyx hk' r e3, kit_ty e5, q _ H' F' hk' le (.bl _)⟩
/-- isinstance(x, (T, U)) -/
def isi2D (T U : String) (d : D) : Option D := (tyD d).bind fun t => (kitB t T).bind fun k => if k then some (.bl true) else (kitB t U).map .bl
theorem se_isi2 {t u : String} (h : PE X o (tCB (rIsiT G.K) (tCons (eB G m) (tCons (tTup (tCons (tC (.ty t)) (tCons (tC (.ty u)) tNil))) tNil)))) : PE X o (eE G (mOp1 (isi2D t u) m)) :=
  pe_imp h fun σ H Q ⟨F, M, ρ, S, hk, sl, d, S', e, q⟩ => by
    obtain ⟨d1, e1, e2⟩ := mOp1_some e
    refine ⟨F, M, ρ, S, hk, sl, d1, S', e1, fun v H' F' hk' le r => ?_⟩
    obtain ⟨ty, e3, e4⟩ := Option.bind_eq_some_iff.mp e2
    obtain ⟨k, e5, e6⟩ := Option.bind_eq_some_iff.mp e4
    (refine ⟨by show 2 ≤ sizeLine; decide, fun p hp => ?_⟩); have hk2 := hk'.laid (o := .tup [.ty t, .ty u]) hp
    have le2 := le_upd (o := .tup [.ty t, .ty u]) (hk'.fnone hp)
    have r2 := BRep.mono le2 r
    cases k with
    | true =>
      cases e6
      exact ⟨v, p, _, .type ty, _, true, rfl, upd_same, .cons (.ty t) (.cons (.ty u) .nil), rep_tyx hk2 r2 e3, kitAny_cons (kit_ty e5) (fun z => nomatch z) (fun _ => rfl), q _ _ _ hk2 (le.trans le2) (.bl _)⟩
    | false =>
      obtain ⟨k2, e7, e8⟩ := Option.map_eq_some_iff.mp e6
      cases e8
      exact ⟨v, p, _, .type ty, _, k2, rfl, upd_same, .cons (.ty t) (.cons (.ty u) .nil), rep_tyx hk2 r2 e3, kitAny_cons (kit_ty e5) (fun _ => kitAny_cons (kit_ty e7) (fun z => by rw [z]; exact kitAny_nil) (fun z => z)) (fun z => nomatch z), q _ _ _ hk2 (le.trans le2) (.bl _)⟩
end
end Dv
namespace Dv
open PySem PySem.Spec
open PyProof.Rows L2

/-! ### targets -/
abbrev MG := D → Lo → Option Lo
abbrev MGs := List D → Lo → Option Lo
def gNm (i : Nat) : MG := fun d ρ => some (ρ.set i (some (.imm d)))
def gNl : MGs := fun ds ρ => match ds with | [] => some ρ | _ => none
def gCns (g : MG) (gs : MGs) : MGs := fun ds ρ => match ds with | d :: r => (g d ρ).bind (gs r) | [] => none
def gTp (n : Nat) (gs : MGs) : MG := fun d ρ => match d.asT with | some ds => if ds.length = n then gs ds ρ else none | none => none
def eG (G : Gh) (is : List Nat) (g : MG) : TG := fun v σ H Q => ∃ F M ρ S d, HeapOk G H F M S ∧ Slots G.K σ ρ F M ∧ Rep G.K F v d ∧ ∃ ρ', g d ρ = some ρ' ∧
  ∀ σ', Slots G.K σ' ρ' F M → σ'.length = σ.length → (∀ i, i ∉ is → σ'[i]? = σ[i]? ∧ ρ'[i]? = ρ[i]?) → Q σ' H
def eGs (G : Gh) (is : List Nat) (g : MGs) : TGs := fun vs σ H Q => ∃ F M ρ S ds, HeapOk G H F M S ∧ Slots G.K σ ρ F M ∧ RepL G.K F vs ds ∧ ∃ ρ', g ds ρ = some ρ' ∧
  ∀ σ', Slots G.K σ' ρ' F M → σ'.length = σ.length → (∀ i, i ∉ is → σ'[i]? = σ[i]? ∧ ρ'[i]? = ρ[i]?) → Q σ' H
theorem Slots.set {K : PySem.W.Frag} {σ : L2.St} {ρ : Lo} {F : Hp} {M : OMap} {i : Nat} {v : V} {l : LV} (s : Slots K σ ρ F M) (r : LRep K F M i v l) : Slots K (σ.set i (some v)) (ρ.set i (some l)) F M := by
  refine ⟨by rw [List.length_set, List.length_set]; exact s.len, fun j l' h => ?_⟩
  by_cases hj : i = j
  · subst hj
    have hi : i < ρ.length := by
      have := (List.getElem?_eq_some_iff.mp h).1
      rwa [List.length_set] at this
    rw [List.getElem?_set_self hi] at h
    cases h
    exact ⟨v, List.getElem?_set_self (by rw [s.len]; exact hi), r⟩
  · rw [List.getElem?_set_ne hj] at h
    obtain ⟨w, e, r⟩ := s.at_ _ _ h
    exact ⟨w, by rw [List.getElem?_set_ne hj]; exact e, r⟩
section
variable {G : Gh} {X : Cx} {e a b c o : Expr} {es : List Expr} {pos p2 : Pos}
theorem pg_imp {t t' : TG} (h : PG X e t) (i : ∀ v σ H Q, t' v σ H Q → t v σ H Q) : PG X e t' := ⟨fun pins s σ H v u Q I r q => h.run pins s σ H v u Q I r (i _ _ _ _ q)⟩
theorem pgs_imp {t t' : TGs} (h : PGs X es t) (i : ∀ v σ H Q, t' v σ H Q → t v σ H Q) : PGs X es t' := ⟨fun pins s σ H v u Q I r q => h.run pins s σ H v u Q I r (i _ _ _ _ q)⟩
theorem sg_name (i : Nat) {x : Str} (hN : X.N.Nodup) (hi : X.N[i]? = some x := by rfl) (hx : L2.Loc X.env.scope x := by first | exact .inl rfl | exact .inr rfl) (hf : X.fn x = true ∨ X.env.scope.names.lookup x = some .local := by first | exact .inl rfl | exact .inr rfl | assumption) : PG X (.Name x pos) (eG G [i] (gNm i)) :=
  pg_imp (pg_name hN hi hx hf) fun v σ H Q ⟨F, M, ρ, S, d, hk, sl, r, ρ', e, q⟩ => by
    cases e
    refine q _ (sl.set (l := .imm d) r) (by rw [List.length_set]) fun j hj => ?_
    have : i ≠ j := fun z => hj (by simp [z])
    exact ⟨List.getElem?_set_ne this, List.getElem?_set_ne this⟩
theorem sgs_nil : PGs X [] (eGs G [] gNl) := pgs_imp pgs_nil fun v σ H Q ⟨F, M, ρ, S, ds, hk, sl, r, ρ', e, q⟩ => by
  cases r with
  | nil => cases e; exact ⟨rfl, q σ sl rfl fun j _ => ⟨rfl, rfl⟩⟩
  | cons _ _ => cases e
theorem sgs_cons {is js : List Nat} {g : MG} {gs : MGs} (h1 : PG X e (eG G is g)) (h2 : PGs X es (eGs G js gs)) (hs : (assignEach (e :: es) X.env).map (·.2) = assign e X.env :: (assignEach es X.env).map (·.2) := by rfl) : PGs X (e :: es) (eGs G (is ++ js) (gCns g gs)) :=
  pgs_imp (pgs_cons h1 h2 hs) fun v σ H Q ⟨F, M, ρ, S, ds, hk, sl, r, ρ', e, q⟩ => by
    cases r with
    | nil => cases e
    | cons r rs =>
      obtain ⟨ρ1, e1, e2⟩ := Option.bind_eq_some_iff.mp e
      refine ⟨_, _, rfl, F, M, ρ, S, _, hk, sl, r, ρ1, e1, fun σ1 sl1 l1 k1 => ⟨F, M, ρ1, S, _, hk, sl1, rs, ρ', e2, fun σ2 sl2 l2 k2 => q σ2 sl2 (l2.trans l1) fun i hi => ?_⟩⟩
      have h1 := k1 i fun z => hi (List.mem_append_left _ z)
      have h2 := k2 i fun z => hi (List.mem_append_right _ z)
      exact ⟨h2.1.trans h1.1, h2.2.trans h1.2⟩
theorem sg_tup {is : List Nat} {gs : MGs} {k n : Nat} (hK : G.K = X.K) (hc : X.calm = true) (h : PGs X es (eGs G is gs)) (hn : (assignEach es X.env).length = n := by rfl) (hst : (assignEach es X.env).findIdx? (·.1) = none := by rfl) : PG X (.Tuple es k pos) (eG G is (gTp n gs)) :=
  pg_imp (hK ▸ pg_tup hc h hn hst : PG X (.Tuple es k pos) (gTup G.K n (eGs G is gs))) fun v σ H Q ⟨F, M, ρ, S, d, hk, sl, r, ρ', e, q⟩ => by
    unfold gTp at e
    split at e
    · rename_i ds ed
      split at e
      · rename_i hz
        obtain ⟨a, vs, rfl, hq, rl⟩ := r.untup ed
        exact ⟨a, vs, rfl, SqT_mono hk.sub hq, by rw [Paired.length rl]; exact hz, F, M, ρ, S, ds, hk, sl, rl, ρ', e, q⟩
      · cases e
    · cases e

/-! ### what is walked -/
structure WalkD (G : Gh) (J : It) (ds : List D) (F0 : Hp) : Prop where
  size : ds.length ≤ sizeLine
  goes : ∀ i H, i < ds.length → Le F0 H → J.go i H
  stops : ∀ H, Le F0 H → J.stop ds.length H
  yields : ∀ i H x H' F M S, i < ds.length → HeapOk G H F M S → Le F0 F → J.yld i H x H' → ∃ F' d, HeapOk G H' F' M S ∧ Le F F' ∧ ds[i]? = some d ∧ Rep G.K F' x d
def iI (G : Gh) (m : MA) : TI := fun σ H R => ∃ F M ρ S, HeapOk G H F M S ∧ Slots G.K σ ρ F M ∧ ∃ ds S', m ρ S = some (ds, S') ∧
  ∀ J H' F', HeapOk G H' F' M S' → Le F F' → WalkD G J ds F' → R J H'
theorem pi_imp {tg : Expr} {t t' : TI} (h : PI X tg e t) (i : ∀ σ H Q, t' σ H Q → t σ H Q) : PI X tg e t' := ⟨fun pins s σ H R I q => h.run pins s σ H R I (i _ _ _ q)⟩
theorem pi_or {tg : Expr} {t t' : TI} (h : PI X tg e t) (h' : PI X tg e t') : PI X tg e (fun σ H R => t σ H R ∨ t' σ H R) := ⟨fun pins s σ H R I q => q.elim (h.run pins s σ H R I) (h'.run pins s σ H R I)⟩
theorem walkD_of {J : It} {n : Nat} {Gd : Hp → Prop} {Y : Nat → Hp → V → Hp → Prop} {ds : List D} {F0 : Hp} (w : Walk J n Gd Y) (hz : ds.length ≤ sizeLine) (hn : n = ds.length) (hg : ∀ H, Le F0 H → Gd H)
    (hy : ∀ i H x H' F M S, i < n → HeapOk G H F M S → Le F0 F → Y i H x H' → ∃ F' d, HeapOk G H' F' M S ∧ Le F F' ∧ ds[i]? = some d ∧ Rep G.K F' x d) : WalkD G J ds F0 := by
  subst hn
  exact ⟨hz, fun i H hi le => w.goes i H hi (hg H le), fun H le => w.stops H (hg H le), fun i H x H' F M S hi hk le y => hy i H x H' F M S hi hk le (w.yields i H x H' hi (hg H (le.trans hk.sub)) y)⟩
theorem yat {F0 : Hp} {xs : List V} {ds : List D} (rl : RepL G.K F0 xs ds) : ∀ i H x H' F M S, i < xs.length → HeapOk G H F M S → Le F0 F → YAt xs i H x H' → ∃ F' d, HeapOk G H' F' M S ∧ Le F F' ∧ ds[i]? = some d ∧ Rep G.K F' x d := by
  rintro i H x H' F M S hi hk le ⟨rfl, e⟩
  obtain ⟨d, e2, r⟩ := paired_get'' rl e
  exact ⟨F, d, hk, Same.refl F, e2, r.mono le⟩
def mSeq (m : ME) : MA := fun ρ S => (m ρ S).bind fun p => (itemsD p.1).map fun ds => (ds, p.2)
theorem mSeq_some {m : ME} {ρ : Lo} {S S' : Sg} {ds : List D} (h : mSeq m ρ S = some (ds, S')) : ∃ d, m ρ S = some (d, S') ∧ itemsD d = some ds := by
  obtain ⟨⟨d1, S1⟩, e1, h⟩ := Option.bind_eq_some_iff.mp h
  obtain ⟨d4, e4, h⟩ := Option.map_eq_some_iff.mp h
  cases h
  exact ⟨_, e1, e4⟩
/-- over a list or a tuple -/
theorem si_seq {tg : Expr} {m : ME} (hK : G.K = X.K) (h : PE X e (eE G m)) : PI X tg e (iI G (mSeq m)) :=
  pi_imp (pi_or (hK ▸ pi_list h : PI X tg e (iList G.K (eE G m))) (hK ▸ pi_tup h : PI X tg e (iTup G.K (eE G m)))) fun σ H R ⟨F, M, ρ, S, hk, sl, ds, S', e, q⟩ => by
    obtain ⟨d, e1, e2⟩ := mSeq_some e
    unfold itemsD at e2
    split at e2
    · cases e2
      refine .inr ⟨F, M, ρ, S, hk, sl, _, S', e1, fun v H' F' hk' le r => ?_⟩
      obtain ⟨a, vs, rfl, hq, rl⟩ := r.untup (d := .tup _) rfl
      exact ⟨a, rfl, ⟨vs, SqT_mono hk'.sub hq⟩, q _ _ _ hk' le (walkD_of walk_tup (r.size (.inl rfl)) (Paired.length rl) (fun H l => SqT_mono l hq) (yat rl))⟩
    · cases e2
      refine .inr ⟨F, M, ρ, S, hk, sl, _, S', e1, fun v H' F' hk' le r => ?_⟩
      obtain ⟨a, vs, rfl, hq, rl⟩ := r.untup (d := .kt _) rfl
      exact ⟨a, rfl, ⟨vs, SqT_mono hk'.sub hq⟩, q _ _ _ hk' le (walkD_of walk_tup (r.size (.inl rfl)) (Paired.length rl) (fun H l => SqT_mono l hq) (yat rl))⟩
    · cases e2
      refine .inl ⟨F, M, ρ, S, hk, sl, _, S', e1, fun v H' F' hk' le r => ?_⟩
      obtain ⟨a, vs, rfl, hq, rl⟩ := r.unlst
      exact ⟨a, rfl, ⟨vs, .of (hk'.sub _ _ hq)⟩, q _ _ _ hk' le (walkD_of walk_list (r.size (.inr rfl)) (Paired.length rl) (fun H l => .of (l _ _ hq)) (yat rl))⟩
    · cases e2
/-- over the script -/
theorem si_scr {tg : Expr} {i : Nat} (hK : G.K = X.K) (h : PE X e (eE G (mVar i))) : PI X tg e (iI G (fun ρ S => (mVar i ρ S).bind fun p => match p.1 with | .scr ns => if ns.length ≤ sizeLine then some (ns.map D.int, p.2) else none | _ => none)) :=
  pi_imp (hK ▸ pi_list h : PI X tg e (iList G.K (eE G (mVar i)))) fun σ H R ⟨F, M, ρ, S, hk, sl, ds, S', e, q⟩ => by
    obtain ⟨⟨d1, S1⟩, e1, e2⟩ := Option.bind_eq_some_iff.mp e
    cases d1 with
    | scr ns =>
      simp only at e2
      split at e2
      · rename_i hz
        cases e2
        refine ⟨F, M, ρ, S, hk, sl, _, _, e1, fun v H' F' hk' le r => ?_⟩
        cases r with
        | @scr a _ hq =>
          refine ⟨_, rfl, ⟨_, Same.seq hk'.sub hq⟩, q _ _ _ hk' le (walkD_of walk_list (by rw [List.length_map]; exact hz) (by simp) (fun H l => Same.seq l hq) ?_)⟩
          rintro i H x H' F M S hi hk le ⟨rfl, e⟩
          rw [List.getElem?_map] at e
          obtain ⟨k, e1, e⟩ := Option.map_eq_some_iff.mp e
          cases e
          exact ⟨F, .int k, hk, Same.refl F, by rw [List.getElem?_map, e1]; rfl, .int k⟩
      · cases e2
    | _ => cases e2
def rangeL (lo hi : Int) : List D := (List.range (hi - lo).toNat).map fun i => .int (lo + (i : Nat))
def mRg1 (m : MA) : MA := fun ρ S => (m ρ S).bind fun p => match p.1 with
  | [.int n] => if n ≤ 1000000 ∧ -1000000 ≤ n then some (rangeL 0 n, p.2) else none
  | _ => none
def mRg2 (m : MA) : MA := fun ρ S => (m ρ S).bind fun p => match p.1 with
  | [.int a, .int n] => if n ≤ 1000000 ∧ -1000000 ≤ n ∧ -1000000 ≤ a ∧ a ≤ 1000000 then some (rangeL a n, p.2) else none
  | _ => none
theorem walk_rg {lo hi : Int} {F0 : Hp} (h : -1000000 ≤ lo ∧ hi ≤ 1000000) : WalkD G (Itr lo (hi - lo).toNat) (rangeL lo hi) F0 := by
  have hl : (rangeL lo hi).length = (hi - lo).toNat := by unfold rangeL; rw [List.length_map, List.length_range]
  refine walkD_of walk_range ?_ hl.symm (fun _ _ => trivial) ?_
  · rw [hl, sizeLine_eq]; omega
  · rintro i H x H' F M S hi hk le ⟨rfl, rfl⟩
    refine ⟨F, .int (lo + i), hk, Same.refl F, ?_, .int _⟩
    unfold rangeL
    rw [List.getElem?_map, List.getElem?_range hi]; rfl
theorem si_rg1 {tg : Expr} {m : MA} (h : PI X tg e (iRng1 (eAB G m))) : PI X tg e (iI G (mRg1 m)) := pi_imp h fun σ H R ⟨F, M, ρ, S, hk, sl, ds, S', e, q⟩ => by
  obtain ⟨⟨d1, S1⟩, e1, e2⟩ := Option.bind_eq_some_iff.mp e
  split at e2
  · rename_i n ed
    split at e2
    · rename_i hz
      cases e2
      have ed : d1 = [.int n] := ed
      subst ed
      refine ⟨F, M, ρ, S, hk, sl, _, _, e1, fun vs H' F' hk' le r => ?_⟩
      obtain ⟨v, rfl, r1⟩ := brl1 r
      cases r1.unint hk'
      have e : n.toNat = (n - 0).toNat := by omega
      exact ⟨n, rfl, by omega, by omega, by rw [e]; exact q _ _ _ hk' le (walk_rg ⟨by decide, hz.1⟩)⟩
    · cases e2
  · cases e2
theorem si_rg2 {tg : Expr} {m : MA} (h : PI X tg e (iRng2 (eAB G m))) : PI X tg e (iI G (mRg2 m)) := pi_imp h fun σ H R ⟨F, M, ρ, S, hk, sl, ds, S', e, q⟩ => by
  obtain ⟨⟨d1, S1⟩, e1, e2⟩ := Option.bind_eq_some_iff.mp e
  split at e2
  · rename_i a n ed
    split at e2
    · rename_i hz
      cases e2
      have ed : d1 = [.int a, .int n] := ed
      subst ed
      refine ⟨F, M, ρ, S, hk, sl, _, _, e1, fun vs H' F' hk' le r => ?_⟩
      obtain ⟨v, w, rfl, r1, r2⟩ := brl2 r
      cases r1.unint hk'
      cases r2.unint hk'
      exact ⟨a, n, rfl, ⟨by omega, by omega, by omega, by omega⟩, q _ _ _ hk' le (walk_rg ⟨by omega, hz.1⟩)⟩
    · cases e2
  · cases e2

/-! ### walked under the owner's eyes: what holds of the owned things too -/
structure WalkC (G : Gh) (J : It) (ds : List D) (C : OMap → Prop) (F0 : Hp) : Prop where
  size : ds.length ≤ sizeLine
  goes : ∀ i H F M S, i < ds.length → HeapOk G H F M S → Le F0 F → C M → J.go i H
  stops : ∀ H F M S, HeapOk G H F M S → Le F0 F → C M → J.stop ds.length H
  yields : ∀ i H x H' F M S, i < ds.length → HeapOk G H F M S → Le F0 F → C M → J.yld i H x H' → ∃ F' d, HeapOk G H' F' M S ∧ Le F F' ∧ ds[i]? = some d ∧ Rep G.K F' x d
def iC (G : Gh) (m : MA) : TI := fun σ H R => ∃ F M ρ S, HeapOk G H F M S ∧ Slots G.K σ ρ F M ∧ ∃ ds S', m ρ S = some (ds, S') ∧
  ∀ J H' F' C, HeapOk G H' F' M S' → Le F F' → C M → (∀ A x, M A = none → C (updO M A x)) → WalkC G J ds C F' → R J H'
theorem sc_of {tg : Expr} {m : MA} (h : PI X tg e (iI G m)) : PI X tg e (iC G m) := pi_imp h fun σ H R ⟨F, M, ρ, S, hk, sl, ds, S', e, q⟩ =>
  ⟨F, M, ρ, S, hk, sl, ds, S', e, fun J H' F' hk' le w => q J H' F' (fun _ => True) hk' le trivial (fun _ _ _ => trivial)
    ⟨w.size, fun i H F M S hi hk le _ => w.goes i H hi (le.trans hk.sub), fun H F M S hk le _ => w.stops H (le.trans hk.sub), fun i H x H' F M S hi hk le _ y => w.yields i H x H' F M S hi hk le y⟩⟩
def mOwn (i : Nat) : MA := fun ρ S => match ρ[i]? with
  | some (some (.own (.lst ds))) => some (ds, S)
  | _ => none
/-- over an owned list, as it stands -/
theorem sc_own {tg : Expr} {i : Nat} (hK : G.K = X.K) (h : PE X e (tVar i)) : PI X tg e (iC G (mOwn i)) :=
  pi_imp (hK ▸ pi_list h : PI X tg e (iList G.K (tVar i))) fun σ H R ⟨F, M, ρ, S, hk, sl, ds, S', e, q⟩ => by
    unfold mOwn at e
    split at e
    · rename_i ds' hi
      cases e
      obtain ⟨u, ev, a, rfl, em⟩ := sl.at_ _ _ hi
      obtain ⟨f1, f2, o, eo, ro⟩ := hk.own _ _ _ em
      cases ro with
      | @lst us _ hz rl =>
        have hn := Paired.length rl
        refine ⟨_, ev, a, rfl, ⟨us, .of eo⟩, q _ H F (fun M' => ∃ w, M' a = some (w, .lst ds)) hk (Same.refl F) ⟨_, em⟩ (fun A x hA => ⟨_, by rw [updO_ne (fun z => by rw [z, hA] at em; cases em)]; exact em⟩) ?_⟩
        have key : ∀ {H F M S}, HeapOk G H F M S → (∃ w, M a = some (w, .lst ds)) → ∃ vs, SqL G.K H a vs ∧ RepL G.K F vs ds := fun hk hm => by
          obtain ⟨w, hm⟩ := hm
          obtain ⟨_, _, o, eo, ro⟩ := hk.own _ _ _ hm
          cases ro with
          | @lst us _ hz rl => exact ⟨us, .of eo, rl⟩
        refine ⟨hz, fun i H F M S hi hk le c => ?_, fun H F M S hk le c => ?_, fun i H x H' F M S hi hk le c y => ?_⟩
        · obtain ⟨vs, q1, r1⟩ := key hk c
          exact (walk_list (xs := vs)).goes i H (by rw [Paired.length r1]; exact hi) q1
        · obtain ⟨vs, q1, r1⟩ := key hk c
          have := (walk_list (xs := vs)).stops H q1
          rw [Paired.length r1] at this
          exact this
        · obtain ⟨vs, q1, r1⟩ := key hk c
          obtain ⟨rfl, e⟩ := (walk_list (xs := vs)).yields i H x H' (by rw [Paired.length r1]; exact hi) q1 y
          obtain ⟨d, e2, r⟩ := paired_get'' r1 e
          exact ⟨F, d, hk, Same.refl F, e2, r⟩
    · cases e

theorem updO_updO {M : OMap} {a : Addr} {x y} : updO (updO M a x) a y = updO M a y := by
  funext b; unfold updO; split <;> rfl
/-! ### list comprehensions -/
def wipeL (ρ : Lo) : List Nat → Lo
  | [] => ρ
  | v :: vs => (wipeL ρ vs).set v none
theorem wipeL_length (ρ : Lo) : ∀ vs, (wipeL ρ vs).length = ρ.length
  | [] => rfl
  | v :: vs => by unfold wipeL; rw [List.length_set, wipeL_length ρ vs]
theorem wipeL_some {ρ : Lo} {i : Nat} {l : LV} : ∀ {vs : List Nat}, (wipeL ρ vs)[i]? = some (some l) → ρ[i]? = some (some l) ∧ i ∉ vs
  | [], h => ⟨h, by simp⟩
  | v :: vs, h => by
    unfold wipeL at h
    by_cases hi : v = i
    · subst hi
      by_cases hv : v < (wipeL ρ vs).length
      · (rw [List.getElem?_set_self hv] at h; cases h)
      · (rw [List.getElem?_eq_none (by simpa using hv)] at h; cases h)
    · (rw [List.getElem?_set_ne hi] at h); obtain ⟨h1, h2⟩ := wipeL_some h
      exact ⟨h1, by simp [h2, Ne.symm hi]⟩
theorem wipe_out' {σ : L2.St} {i : Nat} : ∀ {vs : List Nat}, i ∉ vs → (wipe σ vs)[i]? = σ[i]?
  | [], _ => rfl
  | v :: vs, h => by
    unfold wipe
    rw [List.getElem?_set_ne (fun z => h (by simp [z]))]
    exact wipe_out' fun z => h (List.mem_cons_of_mem _ z)
theorem Slots.wipe {K : PySem.W.Frag} {σ : L2.St} {ρ : Lo} {F : Hp} {M : OMap} (s : Slots K σ ρ F M) (vs : List Nat) : Slots K (L2.wipe σ vs) (wipeL ρ vs) F M := by
  refine ⟨by rw [wipe_length, wipeL_length]; exact s.len, fun i l h => ?_⟩
  obtain ⟨h1, h2⟩ := wipeL_some h
  obtain ⟨v, e, r⟩ := s.at_ _ _ h1
  exact ⟨v, by rw [wipe_out' h2]; exact e, r⟩
theorem wipe_in {σ : L2.St} {i : Nat} : ∀ {vs : List Nat}, i ∈ vs → i < σ.length → (wipe σ vs)[i]? = some none
  | v :: vs, h, hl => by
    unfold wipe
    by_cases hv : v = i
    · subst hv
      exact List.getElem?_set_self (by rw [wipe_length]; exact hl)
    · (rw [List.getElem?_set_ne hv]); rcases List.mem_cons.mp h with z | z
      · exact absurd z.symm hv
      · exact wipe_in z hl
theorem wipe_eq {σ σ2 : L2.St} {vs is : List Nat} (hs : ∀ i ∈ is, i ∈ vs) (hl : σ2.length = (wipe σ vs).length) (h : ∀ i, i ∉ is → σ2[i]? = (wipe σ vs)[i]?) : wipe σ2 vs = wipe σ vs := by
  have hl' : σ2.length = σ.length := by rw [hl, wipe_length]
  refine List.ext_getElem? fun i => ?_
  by_cases hi : i ∈ vs
  · by_cases hb : i < σ.length
    · rw [wipe_in hi hb, wipe_in hi (by rw [hl']; exact hb)]
    · rw [List.getElem?_eq_none (by rw [wipe_length, hl']; omega), List.getElem?_eq_none (by rw [wipe_length]; omega)]
  · rw [wipe_out' hi, h i fun z => hi (hs i z)]
def lcGo (ρ : Lo) (g : MG) (t : MT) (m : ME) : List D → Sg → Option (List D × Sg)
  | [], S => some ([], S)
  | d :: r, S => (g d ρ).bind fun ρ1 => (t ρ1 S).bind fun b => if b.1 then (m ρ1 b.2).bind fun y => (lcGo ρ g t m r y.2).map fun q => (y.1 :: q.1, q.2) else lcGo ρ g t m r b.2
def mLc (mi : MA) (vs : List Nat) (g : MG) (t : MT) (m : ME) : ME := fun ρ S => (mi ρ S).bind fun p => (lcGo (wipeL ρ vs) g t m p.1 p.2).map fun q => (.lst q.1, q.2)
theorem sts_nil : PTs X [] (eT G (mPure true)) := ⟨fun pins s σ H Q I ⟨F, M, ρ, S, hk, sl, d, S', e, q⟩ => by cases e; exact pts_nil.run pins s σ H Q I (q H F hk (Same.refl F))⟩
theorem sts_one {t : MT} (h : PT X c (eT G t)) : PTs X [c] (eT G t) := pts_one h
theorem lc_imp {mi : MA} {vs is : List Nat} {g : MG} {t : MT} {m : ME} (hs : ∀ i ∈ is, i ∈ vs) : ∀ σ H Q, eF G (mLc mi vs g t m) σ H Q → tLc (iC G mi) (eG G is g) (eT G t) (eE G m) vs σ H Q := fun σ H Q ⟨F, M, ρ, S, hk, sl, d, S', e, q⟩ => by
  obtain ⟨⟨ds, S1⟩, e1, e⟩ := Option.bind_eq_some_iff.mp e
  obtain ⟨⟨out, S2⟩, e2, e⟩ := Option.map_eq_some_iff.mp e
  cases e
  refine ⟨F, M, ρ, S, hk, sl, ds, S1, e1, fun J H1 F1 C hk1 le1 cM cU w D hD => ?_⟩
  have mD := hk1.mnone hD
  have cD : ∀ x, C (updO M D x) := fun x => cU D x mD
  refine ⟨fun i n H => n = ds.length - i ∧ i ≤ ds.length ∧ ∃ F' acc Si, acc.length ≤ i ∧ HeapOk G H F' (updO M D (none, .lst acc)) Si ∧ Le F1 F' ∧ ∃ rest, lcGo (wipeL ρ vs) g t m (ds.drop i) Si = some (rest, S2) ∧ out = acc ++ rest,
    ⟨ds.length, by omega, by omega, F1, [], S1, by simp, hk1.laidO hD (.lst (Nat.zero_le _) .nil), Same.refl F1, out, by simpa using e2, by simp⟩, ?_⟩
  rintro i n H ⟨rfl, hi, F', acc, Si, ha, hk', le', rest, er, eo⟩
  by_cases hlt : i < ds.length
  · refine .inr ⟨w.goes i H F' _ _ hlt hk' le' (cD _), fun H => i + 1 ≤ ds.length ∧ ∃ F' acc Si, acc.length ≤ i + 1 ∧ HeapOk G H F' (updO M D (none, .lst acc)) Si ∧ Le F1 F' ∧ ∃ rest, lcGo (wipeL ρ vs) g t m (ds.drop (i + 1)) Si = some (rest, S2) ∧ out = acc ++ rest,
      fun H' hN => ⟨ds.length - (i + 1), by omega, rfl, hN⟩, fun x H' y => ?_⟩
    obtain ⟨F2, dd, hk2, le2, ed, rx⟩ := w.yields i H x H' F' _ Si hlt hk' le' (cD _) y
    have sl2 : Slots G.K (wipe σ vs) (wipeL ρ vs) F2 (updO M D (none, .lst acc)) := by
      have h0 := ((sl.wipe vs).mono (le1.trans le')).mono le2
      refine ⟨h0.len, fun j l hj => ?_⟩
      obtain ⟨v, ev, r⟩ := h0.at_ _ _ hj
      refine ⟨v, ev, ?_⟩
      cases l with
      | imm d => exact r
      | own d =>
        obtain ⟨a, ea, em⟩ := r
        refine ⟨a, ea, ?_⟩
        rw [updO_ne (fun z => by rw [z, mD] at em; cases em)]
        exact em
    have edr : ds.drop i = dd :: ds.drop (i + 1) := by
      (rw [List.drop_eq_getElem_cons hlt]); congr
      exact Option.some.inj ((List.getElem?_eq_getElem hlt).symm.trans ed)
    rw [edr] at er
    obtain ⟨ρ1, eg, er⟩ := Option.bind_eq_some_iff.mp er
    obtain ⟨⟨b, Sb⟩, et, er⟩ := Option.bind_eq_some_iff.mp er
    refine ⟨F2, _, _, Si, dd, hk2, sl2, rx, ρ1, eg, fun σ2 sl3 l3 k3 => ⟨wipe_eq hs l3 fun i hi => (k3 i hi).1, F2, _, ρ1, Si, hk2, sl3, b, Sb, et, fun H3 F3 hk3 le3 => ?_⟩⟩
    cases b with
    | true =>
      obtain ⟨⟨y, Sy⟩, em, er⟩ := Option.bind_eq_some_iff.mp er
      obtain ⟨⟨out', So⟩, er2, er⟩ := Option.map_eq_some_iff.mp er
      cases er
      refine ⟨F3, _, ρ1, Sb, hk3, sl3.mono le3, y, Sy, em, fun v H4 F4 hk4 le4 rv => ?_⟩
      obtain ⟨_, _, oo, eo4, ro⟩ := hk4.own D _ _ updO_same
      cases ro with
      | @lst us _ hz r =>
        have hlen := Paired.length r
        have hsz := w.size
        refine ⟨us, eo4, by omega, by omega, F4, acc ++ [y], Sy, by simp; omega, ?_, ((le'.trans le2).trans le3).trans le4, out', er2, by rw [eo]; simp⟩
        have h5 := hk4.write (w' := none) (o := .lst (us ++ [v])) (d' := .lst (acc ++ [y])) updO_same (.lst (by simp; omega) (paired_app r (.cons rv .nil)))
        rw [updO_updO] at h5
        exact h5
    | false => exact ⟨by omega, F3, acc, Sb, by omega, hk3, (le'.trans le2).trans le3, rest, er, eo⟩
  · have e : i = ds.length := by omega
    subst e
    rw [List.drop_length] at er
    cases er
    refine .inl ⟨w.stops H F' _ _ hk' le' (cD _), ?_⟩
    rw [List.append_nil] at eo
    subst eo
    exact q D H F' hk' mD (le1.trans le')
theorem sf_lcC {tg elt iter : Expr} {ifs : List Expr} {scope : Scope} {own : List (Str × Nat)} {mi : MA} {is : List Nat} {g : MG} {t : MT} {m : ME} (hc : X.calm = true) (hN : X.N.Nodup) (hi : PI X tg iter (iC G mi)) (ok : BlkOk X.N X.env.scope scope own)
    (hg : ∀ (s : Shared) (H : Hp) (C : Addr) (cl : List (Str × Addr)) (fp : List Addr), PG (X.blk s H scope (compEnvC scope cl C X.env) fp) tg (eG G is g)) (ht : ∀ (s : Shared) (H : Hp) (C : Addr) (cl : List (Str × Addr)) (fp : List Addr), PTs (X.blk s H scope (compEnvC scope cl C X.env) fp) ifs (eT G t))
    (he : ∀ (s : Shared) (H : Hp) (C : Addr) (cl : List (Str × Addr)) (fp : List Addr), PE (X.blk s H scope (compEnvC scope cl C X.env) fp) elt (eE G m)) (hs : ∀ i ∈ is, i ∈ own.map (·.2)) (hf : ∀ x, foldedSetIterable iter X.env x = pure x := by intro _; rfl) :
    PE X (.ListComp elt [⟨tg, iter, ifs, 0⟩] scope pos) (eF G (mLc mi (own.map (·.2)) g t m)) := pe_imp (pe_lc hc hN hi ok hg ht he hf) (lc_imp hs)
theorem sf_lc {tg elt iter : Expr} {ifs : List Expr} {scope : Scope} {own : List (Str × Nat)} {mi : MA} {is : List Nat} {g : MG} {t : MT} {m : ME} (hc : X.calm = true) (hN : X.N.Nodup) (hi : PI X tg iter (iI G mi)) (ok : BlkOk X.N X.env.scope scope own)
    (hg : ∀ (s : Shared) (H : Hp) (C : Addr) (cl : List (Str × Addr)) (fp : List Addr), PG (X.blk s H scope (compEnvC scope cl C X.env) fp) tg (eG G is g)) (ht : ∀ (s : Shared) (H : Hp) (C : Addr) (cl : List (Str × Addr)) (fp : List Addr), PTs (X.blk s H scope (compEnvC scope cl C X.env) fp) ifs (eT G t))
    (he : ∀ (s : Shared) (H : Hp) (C : Addr) (cl : List (Str × Addr)) (fp : List Addr), PE (X.blk s H scope (compEnvC scope cl C X.env) fp) elt (eE G m)) (hs : ∀ i ∈ is, i ∈ own.map (·.2)) (hf : ∀ x, foldedSetIterable iter X.env x = pure x := by intro _; rfl) :
    PE X (.ListComp elt [⟨tg, iter, ifs, 0⟩] scope pos) (eF G (mLc mi (own.map (·.2)) g t m)) := sf_lcC hc hN (sc_of hi) ok hg ht he hs hf
end
end Dv
namespace Dv
open PySem PySem.Spec
open PyProof.Rows L2

inductive Fl where
  | nx | ct | bk
  | rt (d : D)
abbrev MS := Lo → Sg → Option (Fl × Lo × Sg)
def EndF (G : Gh) (D : Ends) (fl : Fl) (ρ : Lo) (H F : Hp) (M : OMap) : Prop := match fl with
  | .nx => ∀ σ, Slots G.K σ ρ F M → D.nx σ H
  | .ct => ∀ σ, Slots G.K σ ρ F M → D.ct σ H
  | .bk => ∀ σ, Slots G.K σ ρ F M → D.bk σ H
  | .rt d => ∀ v, Rep G.K F v d → D.rt v H
def sS (G : Gh) (m : MS) : TS := fun D σ H => ∃ F M ρ S, HeapOk G H F M S ∧ Slots G.K σ ρ F M ∧ ∃ fl ρ' S', m ρ S = some (fl, ρ', S') ∧
  ∀ H' F' M', HeapOk G H' F' M' S' → Le F F' → EndF G D fl ρ' H' F' M'
section
variable {G : Gh} {X : Cx} {e a b c o : Expr} {es : List Expr} {pos p2 : Pos} {st : Stmt} {sts : List Stmt}

/-! ### blocks -/
def sNil : MS := fun ρ S => some (.nx, ρ, S)
def sSq (m n : MS) : MS := fun ρ S => (m ρ S).bind fun p => match p.1 with
  | .nx => n p.2.1 p.2.2
  | _ => some p
theorem ss_nil : PSs X [] (sS G sNil) := pss_imp pss_nil fun D σ H ⟨F, M, ρ, S, hk, sl, fl, ρ', S', e, q⟩ => by
  cases e; exact q H F M hk (Same.refl F) σ sl
theorem ss_cons {m n : MS} (h : PS X st (sS G m)) (h' : PSs X sts (sS G n)) : PSs X (st :: sts) (sS G (sSq m n)) := pss_imp (pss_cons h h') fun D σ H ⟨F, M, ρ, S, hk, sl, fl, ρ', S', e, q⟩ => by
  obtain ⟨⟨f1, ρ1, S1⟩, e1, e⟩ := Option.bind_eq_some_iff.mp e
  refine ⟨F, M, ρ, S, hk, sl, f1, ρ1, S1, e1, fun H1 F1 M1 hk1 le1 => ?_⟩
  cases f1 with
  | nx => exact fun σ1 sl1 => ⟨F1, M1, ρ1, S1, hk1, sl1, fl, ρ', S', e, fun H2 F2 M2 hk2 le2 => q H2 F2 M2 hk2 (le1.trans le2)⟩
  | ct => cases e; exact q H1 F1 M1 hk1 le1
  | bk => cases e; exact q H1 F1 M1 hk1 le1
  | rt d => cases e; exact q H1 F1 M1 hk1 le1
theorem ss_one {m : MS} (h : PS X st (sS G m)) : PSs X [st] (sS G m) := pss_one h
def sNever : MS := fun _ _ => none
theorem ss_never : PS X st (sS G sNever) := ps_imp ps_never fun D σ H ⟨F, M, ρ, S, hk, sl, fl, ρ', S', e, q⟩ => by cases e
theorem sss_never : PSs X sts (sS G sNever) := pss_imp pss_never fun D σ H ⟨F, M, ρ, S, hk, sl, fl, ρ', S', e, q⟩ => by cases e
def sCt : MS := fun ρ S => some (.ct, ρ, S)
def sBk : MS := fun ρ S => some (.bk, ρ, S)
theorem ss_pass : PS X (.Pass pos) (sS G sNil) := ps_imp ps_pass fun D σ H ⟨F, M, ρ, S, hk, sl, fl, ρ', S', e, q⟩ => by
  cases e; exact q H F M hk (Same.refl F) σ sl
theorem ss_break : PS X (.Break pos) (sS G sBk) := ps_imp ps_break fun D σ H ⟨F, M, ρ, S, hk, sl, fl, ρ', S', e, q⟩ => by
  cases e; exact q H F M hk (Same.refl F) σ sl
theorem ss_continue : PS X (.Continue pos) (sS G sCt) := ps_imp ps_continue fun D σ H ⟨F, M, ρ, S, hk, sl, fl, ρ', S', e, q⟩ => by
  cases e; exact q H F M hk (Same.refl F) σ sl
def sIf (t : MT) (m n : MS) : MS := fun ρ S => (t ρ S).bind fun p => if p.1 then m ρ p.2 else n ρ p.2
theorem ss_if {t : MT} {m n : MS} {A B : List Stmt} (hc : PT X c (eT G t)) (ha : PSs X A (sS G m)) (hb : PSs X B (sS G n)) : PS X (.If c A B pos) (sS G (sIf t m n)) := ps_imp (ps_if hc ha hb) fun D σ H ⟨F, M, ρ, S, hk, sl, fl, ρ', S', e, q⟩ => by
  obtain ⟨⟨k, S1⟩, e1, e⟩ := Option.bind_eq_some_iff.mp e
  refine ⟨F, M, ρ, S, hk, sl, k, S1, e1, fun H' F' hk' le => ?_⟩
  cases k with
  | true => exact ⟨F', M, ρ, S1, hk', sl.mono le, fl, ρ', S', e, fun H2 F2 M2 hk2 le2 => q H2 F2 M2 hk2 (le.trans le2)⟩
  | false => exact ⟨F', M, ρ, S1, hk', sl.mono le, fl, ρ', S', e, fun H2 F2 M2 hk2 le2 => q H2 F2 M2 hk2 (le.trans le2)⟩
def sRet (m : ME) : MS := fun ρ S => (m ρ S).map fun p => (.rt p.1, ρ, p.2)
theorem ss_ret {m : ME} (h : PE X e (eE G m)) : PS X (.Return (some e) pos) (sS G (sRet m)) := ps_imp (ps_ret h) fun D σ H ⟨F, M, ρ, S, hk, sl, fl, ρ', S', e, q⟩ => by
  obtain ⟨⟨d, S1⟩, e1, e⟩ := Option.map_eq_some_iff.mp e
  cases e
  exact ⟨F, M, ρ, S, hk, sl, d, S1, e1, fun v H' F' hk' le r => q H' F' M hk' le v r⟩
/-- an owned object is frozen from here on -/
def frz (i : Nat) (ρ : Lo) : Lo := match ρ[i]? with
  | some (some (.own d)) => ρ.set i (some (.imm d))
  | _ => ρ
theorem frz_slots {σ : L2.St} {ρ : Lo} {H F : Hp} {M : OMap} {S : Sg} (i : Nat) (hk : HeapOk G H F M S) (sl : Slots G.K σ ρ F M) : ∃ F' M', HeapOk G H F' M' S ∧ Le F F' ∧ Slots G.K σ (frz i ρ) F' M' := by
  unfold frz
  split
  · rename_i d h
    obtain ⟨v, ev, a, rfl, em⟩ := sl.at_ _ _ h
    obtain ⟨o, eo, nf, ro, hk2⟩ := hk.freeze em
    refine ⟨_, _, hk2, le_upd nf, by rw [List.length_set]; exact sl.len, fun j l hj => ?_⟩
    by_cases hij : i = j
    · subst hij
      rw [List.getElem?_set_self (List.getElem?_eq_some_iff.mp h).1] at hj
      cases hj
      exact ⟨_, ev, (ro.mono (le_upd nf)).rep upd_same⟩
    · rw [List.getElem?_set_ne hij] at hj
      obtain ⟨w, ew, rw'⟩ := sl.at_ _ _ hj
      refine ⟨w, ew, ?_⟩
      cases l with
      | imm d => exact Rep.mono (le_upd nf) rw'
      | own d =>
        obtain ⟨a2, e2, m2⟩ := rw'
        refine ⟨a2, e2, ?_⟩
        rw [dropO_ne (fun z => by rw [z, em] at m2; cases m2; exact hij rfl)]
        exact m2
  · exact ⟨F, M, hk, Same.refl F, sl⟩
def sFrz (i : Nat) (m : MS) : MS := fun ρ S => m (frz i ρ) S
theorem ss_frz (i : Nat) {m : MS} (h : PS X st (sS G m)) : PS X st (sS G (sFrz i m)) := ps_imp h fun D σ H ⟨F, M, ρ, S, hk, sl, fl, ρ', S', e, q⟩ => by
  obtain ⟨F1, M1, hk1, le1, sl1⟩ := frz_slots i hk sl
  exact ⟨F1, M1, _, S, hk1, sl1, fl, ρ', S', e, fun H2 F2 M2 hk2 le2 => q H2 F2 M2 hk2 (le1.trans le2)⟩
theorem sss_frz (i : Nat) {m : MS} (h : PSs X sts (sS G m)) : PSs X sts (sS G (sFrz i m)) := pss_imp h fun D σ H ⟨F, M, ρ, S, hk, sl, fl, ρ', S', e, q⟩ => by
  obtain ⟨F1, M1, hk1, le1, sl1⟩ := frz_slots i hk sl
  exact ⟨F1, M1, _, S, hk1, sl1, fl, ρ', S', e, fun H2 F2 M2 hk2 le2 => q H2 F2 M2 hk2 (le1.trans le2)⟩

/-! ### stores -/
def sSet (i : Nat) (m : ME) : MS := fun ρ S => (m ρ S).map fun p => (.nx, ρ.set i (some (.imm p.1)), p.2)
theorem set_imp {i : Nat} {m : ME} : ∀ D σ H, sS G (sSet i m) D σ H → tAsg (eE G m) (gName i) D σ H := fun D σ H ⟨F, M, ρ, S, hk, sl, fl, ρ', S', e, q⟩ => by
  obtain ⟨⟨d, S1⟩, e1, e⟩ := Option.map_eq_some_iff.mp e
  cases e
  exact ⟨F, M, ρ, S, hk, sl, d, S1, e1, fun v H' F' hk' le r => q H' F' M hk' le _ ((sl.mono le).set (l := .imm d) r)⟩
def sSetF (i : Nat) (m : ME) : MS := fun ρ S => (m ρ S).map fun p => (.nx, ρ.set i (some (.own p.1)), p.2)
theorem slots_own {σ : L2.St} {ρ : Lo} {F : Hp} {M : OMap} {i : Nat} {x : Addr} {d : D} {w : Option Nat} (sl : Slots G.K σ ρ F M) (n : M x = none ∨ M x = some (none, d)) : Slots G.K (σ.set i (some (.ref x))) (ρ.set i (some (.own d))) F (updO M x (some i, d)) := by
  have sl2 : Slots G.K σ ρ F (updO M x (some i, d)) := ⟨sl.len, fun j l h => by
    obtain ⟨v, ev, r⟩ := sl.at_ _ _ h
    refine ⟨v, ev, ?_⟩
    cases l with
    | imm d => exact r
    | own d =>
      obtain ⟨a, ea, em⟩ := r
      refine ⟨a, ea, ?_⟩
      rw [updO_ne (fun z => by
        rw [z] at em
        rcases n with n | n
        · rw [n] at em; cases em
        · rw [n] at em; cases em)]
      exact em⟩
  exact sl2.set (l := .own d) ⟨x, rfl, updO_same⟩
theorem setF_imp {i : Nat} {m : ME} : ∀ D σ H, sS G (sSetF i m) D σ H → tAsg (eF G m) (gName i) D σ H := fun D σ H ⟨F, M, ρ, S, hk, sl, fl, ρ', S', e, q⟩ => by
  obtain ⟨⟨d, S1⟩, e1, e⟩ := Option.map_eq_some_iff.mp e
  cases e
  refine ⟨F, M, ρ, S, hk, sl, d, S1, e1, fun x H' F' hk' n le => ?_⟩
  have h2 := hk'.give (some i) updO_same
  rw [updO_updO] at h2
  exact q H' F' _ h2 le _ (slots_own (w := none) (sl.mono le) (.inl n))
theorem ss_set {i : Nat} {m : ME} (h : PS X st (tAsg (eE G m) (gName i))) : PS X st (sS G (sSet i m)) := ps_imp h set_imp
theorem ss_setF {i : Nat} {m : ME} (h : PS X st (tAsg (eF G m) (gName i))) : PS X st (sS G (sSetF i m)) := ps_imp h setF_imp
/-- targets = value -/
def sAsg (m : ME) (g : MG) : MS := fun ρ S => (m ρ S).bind fun p => (g p.1 ρ).map fun ρ' => (.nx, ρ', p.2)
theorem ss_asg {is : List Nat} {g : MG} {m : ME} (h : PS X st (tAsg (eE G m) (eG G is g))) : PS X st (sS G (sAsg m g)) := ps_imp h fun D σ H ⟨F, M, ρ, S, hk, sl, fl, ρ', S', e, q⟩ => by
  obtain ⟨⟨d, S1⟩, e1, e⟩ := Option.bind_eq_some_iff.mp e
  obtain ⟨ρ1, e2, e⟩ := Option.map_eq_some_iff.mp e
  cases e
  exact ⟨F, M, ρ, S, hk, sl, d, S1, e1, fun v H' F' hk' le r => ⟨F', M, ρ, S1, d, hk', sl.mono le, r, _, e2, fun σ' sl' _ _ => q H' F' M hk' le σ' sl'⟩⟩
/-- x, y = e1, e2 -/
def eX (G : Gh) : Bool → ME → TE
  | true => eF G
  | false => eE G
def mkL : Bool → D → LV
  | true => .own
  | false => .imm
/-- a value that came: frozen, or owned by nobody yet -/
def XR (K : PySem.W.Frag) (F : Hp) (M : OMap) (x : V) (d : D) : Bool → Prop
  | true => ∃ a, x = .ref a ∧ M a = some (none, d)
  | false => Rep K F x d
/-- what one of several right sides leaves -/
theorem ex_run {k : Bool} {m : ME} {σ : L2.St} {H : Hp} {R : V → Hp → Prop} {F : Hp} {M : OMap} {ρ : Lo} {S : Sg} (hk : HeapOk G H F M S) (sl : Slots G.K σ ρ F M) {d : D} {S1 : Sg} (e : m ρ S = some (d, S1))
    (h : ∀ x H' F' M', HeapOk G H' F' M' S1 → Le F F' → Slots G.K σ ρ F' M' → (∀ a y, M a = some y → M' a = some y) → (match k with | true => ∃ a, x = .ref a ∧ M' a = some (none, d) ∧ M a = none | false => Rep G.K F' x d) → R x H') : eX G k m σ H R := by
  cases k with
  | false => exact ⟨F, M, ρ, S, hk, sl, d, S1, e, fun v H' F' hk' le r => h v H' F' M hk' le (sl.mono le) (fun _ _ z => z) r⟩
  | true =>
    refine ⟨F, M, ρ, S, hk, sl, d, S1, e, fun x H' F' hk' n le => h _ H' F' _ hk' le ?_ (fun b y z => ?_) ⟨x, rfl, updO_same, n⟩⟩
    · have s0 := sl.mono le
      refine ⟨s0.len, fun j l hj => ?_⟩
      obtain ⟨v, ev, r⟩ := s0.at_ _ _ hj
      refine ⟨v, ev, ?_⟩
      cases l with
      | imm d => exact r
      | own d =>
        obtain ⟨a, ea, em⟩ := r
        exact ⟨a, ea, by rw [updO_ne (fun z => by rw [z, n] at em; cases em)]; exact em⟩
    · rw [updO_ne (fun w => by rw [w, n] at z; cases z)]; exact z
/-- a value that came is stored in slot i -/
theorem ex_store {k : Bool} {σ : L2.St} {ρ : Lo} {H F : Hp} {M : OMap} {S : Sg} {x : V} {d : D} (i : Nat) (hk : HeapOk G H F M S) (sl : Slots G.K σ ρ F M) (r : XR G.K F M x d k) :
    ∃ M', HeapOk G H F M' S ∧ Slots G.K (σ.set i (some x)) (ρ.set i (some (mkL k d))) F M' ∧ ∀ b y, M b = some y → (∀ a, x = .ref a → k = true → b ≠ a) → M' b = some y := by
  cases k with
  | false => exact ⟨M, hk, sl.set (l := .imm d) r, fun _ _ z _ => z⟩
  | true =>
    obtain ⟨a, rfl, em⟩ := r
    exact ⟨_, hk.give (some i) em, slots_own (w := none) sl (.inr em), fun b y z n => by rw [updO_ne (n a rfl rfl)]; exact z⟩
def sPar2 (i j : Nat) (k1 : Bool) (m1 : ME) (k2 : Bool) (m2 : ME) : MS := fun ρ S => (m1 ρ S).bind fun p => (m2 ρ p.2).map fun q => (.nx, (ρ.set i (some (mkL k1 p.1))).set j (some (mkL k2 q.1)), q.2)
theorem par2_imp {i j : Nat} {k1 k2 : Bool} {m1 m2 : ME} : ∀ D σ H, sS G (sPar2 i j k1 m1 k2 m2) D σ H → tPar i j (tCons (eX G k1 m1) (tCons (eX G k2 m2) tNil)) D σ H := fun D σ H ⟨F, M, ρ, S, hk, sl, fl, ρ', S', e, q⟩ => by
  obtain ⟨⟨d1, S1⟩, e1, e⟩ := Option.bind_eq_some_iff.mp e
  obtain ⟨⟨d2, S2⟩, e2, e⟩ := Option.map_eq_some_iff.mp e
  cases e
  refine ex_run hk sl e1 fun x H1 F1 M1 hk1 le1 sl1 sub1 r1 => ex_run hk1 sl1 e2 fun y H2 F2 M2 hk2 le2 sl2 sub2 r2 => ⟨x, y, rfl, ?_⟩
  have r1' : XR G.K F2 M2 x d1 k1 := by
    cases k1 with
    | true => obtain ⟨a, ea, em, _⟩ := r1; exact ⟨a, ea, sub2 _ _ em⟩
    | false => exact Rep.mono le2 r1
  obtain ⟨M3, hk3, sl3, sub3⟩ := ex_store i hk2 sl2 r1'
  have r2' : XR G.K F2 M3 y d2 k2 := by
    cases k2 with
    | true =>
      obtain ⟨a, ea, em, n⟩ := r2
      refine ⟨a, ea, sub3 _ _ em fun b eb hk => ?_⟩
      subst hk
      obtain ⟨a1, ea1, em1, _⟩ := r1
      rw [eb] at ea1; cases ea1
      intro z
      rw [z, em1] at n; cases n
    | false => exact r2
  obtain ⟨M4, hk4, sl4, _⟩ := ex_store j hk3 sl3 r2'
  exact q H2 F2 M4 hk4 (le1.trans le2) _ sl4
theorem ss_par2 {i j : Nat} {k1 k2 : Bool} {m1 m2 : ME} (h : PS X st (tPar i j (tCons (eX G k1 m1) (tCons (eX G k2 m2) tNil)))) : PS X st (sS G (sPar2 i j k1 m1 k2 m2)) := ps_imp h par2_imp
def sPar3 (i j l : Nat) (k1 : Bool) (m1 : ME) (k2 : Bool) (m2 : ME) (k3 : Bool) (m3 : ME) : MS := fun ρ S => (m1 ρ S).bind fun p => (m2 ρ p.2).bind fun q => (m3 ρ q.2).map fun r => (.nx, ((ρ.set i (some (mkL k1 p.1))).set j (some (mkL k2 q.1))).set l (some (mkL k3 r.1)), r.2)
theorem par3_imp {i j l : Nat} {k1 k2 k3 : Bool} {m1 m2 m3 : ME} : ∀ D σ H, sS G (sPar3 i j l k1 m1 k2 m2 k3 m3) D σ H → tPar3 i j l (tCons (eX G k1 m1) (tCons (eX G k2 m2) (tCons (eX G k3 m3) tNil))) D σ H := fun D σ H ⟨F, M, ρ, S, hk, sl, fl, ρ', S', e, q⟩ => by
  obtain ⟨⟨d1, S1⟩, e1, e⟩ := Option.bind_eq_some_iff.mp e
  obtain ⟨⟨d2, S2⟩, e2, e⟩ := Option.bind_eq_some_iff.mp e
  obtain ⟨⟨d3, S3⟩, e3, e⟩ := Option.map_eq_some_iff.mp e
  cases e
  refine ex_run hk sl e1 fun x H1 F1 M1 hk1 le1 sl1 sub1 r1 => ex_run hk1 sl1 e2 fun y H2 F2 M2 hk2 le2 sl2 sub2 r2 => ex_run hk2 sl2 e3 fun z H3 F3 M3 hk3 le3 sl3 sub3 r3 => ⟨x, y, z, rfl, ?_⟩
  have r1' : XR G.K F3 M3 x d1 k1 := by
    cases k1 with
    | true => obtain ⟨a, ea, em, _⟩ := r1; exact ⟨a, ea, sub3 _ _ (sub2 _ _ em)⟩
    | false => exact Rep.mono le3 (Rep.mono le2 r1)
  obtain ⟨M4, hk4, sl4, sub4⟩ := ex_store i hk3 sl3 r1'
  have r2' : XR G.K F3 M4 y d2 k2 := by
    cases k2 with
    | true =>
      obtain ⟨a, ea, em, n⟩ := r2
      refine ⟨a, ea, sub4 _ _ (sub3 _ _ em) fun b eb hk => ?_⟩
      subst hk
      obtain ⟨a1, ea1, em1, _⟩ := r1
      rw [eb] at ea1; cases ea1
      intro z
      rw [z, em1] at n; cases n
    | false => exact Rep.mono le3 r2
  obtain ⟨M5, hk5, sl5, sub5⟩ := ex_store j hk4 sl4 r2'
  have r3' : XR G.K F3 M5 z d3 k3 := by
    cases k3 with
    | true =>
      obtain ⟨a, ea, em, n⟩ := r3
      refine ⟨a, ea, sub5 _ _ (sub4 _ _ em fun b eb hk => ?_) fun b eb hk => ?_⟩
      · subst hk
        obtain ⟨a1, ea1, em1, _⟩ := r1
        rw [eb] at ea1; cases ea1
        intro z
        rw [z, sub2 _ _ em1] at n; cases n
      · subst hk
        obtain ⟨a1, ea1, em1, _⟩ := r2
        rw [eb] at ea1; cases ea1
        intro z
        rw [z, em1] at n; cases n
    | false => exact r3
  obtain ⟨M6, hk6, sl6, _⟩ := ex_store l hk5 sl5 r3'
  exact q H3 F3 M6 hk6 ((le1.trans le2).trans le3) _ sl6
theorem ss_par3 {i j l : Nat} {k1 k2 k3 : Bool} {m1 m2 m3 : ME} (h : PS X st (tPar3 i j l (tCons (eX G k1 m1) (tCons (eX G k2 m2) (tCons (eX G k3 m3) tNil))))) : PS X st (sS G (sPar3 i j l k1 m1 k2 m2 k3 m3)) := ps_imp h par3_imp

/-! ### an owned list changed -/
theorem slots_write {σ : L2.St} {ρ : Lo} {F : Hp} {M : OMap} {i : Nat} {d0 d : D} {x : Addr} (sl : Slots G.K σ ρ F M) (hi : ρ[i]? = some (some (.own d0))) (ev : σ[i]? = some (some (.ref x))) (em : M x = some (some i, d0)) : Slots G.K σ (ρ.set i (some (.own d))) F (updO M x (some i, d)) := by
  refine ⟨by rw [List.length_set]; exact sl.len, fun j l hj => ?_⟩
  by_cases hij : i = j
  · subst hij
    rw [List.getElem?_set_self (List.getElem?_eq_some_iff.mp hi).1] at hj
    cases hj
    exact ⟨_, ev, x, rfl, updO_same⟩
  · rw [List.getElem?_set_ne hij] at hj
    obtain ⟨w, ew, rw'⟩ := sl.at_ _ _ hj
    refine ⟨w, ew, ?_⟩
    cases l with
    | imm d => exact rw'
    | own d =>
      obtain ⟨a2, e2, m2⟩ := rw'
      exact ⟨a2, e2, by rw [updO_ne (fun z => by rw [z, em] at m2; cases m2; exact hij rfl)]; exact m2⟩
def sApp (i : Nat) (m : ME) : MS := fun ρ S => match ρ[i]? with
  | some (some (.own (.lst ds))) => (m ρ S).bind fun p => if ds.length < 1000000 then some (.nx, ρ.set i (some (.own (.lst (ds ++ [p.1])))), p.2) else none
  | _ => none
theorem line1e6 {n : Nat} (h : n < 1000000) : n < sizeLine := Nat.lt_of_lt_of_le h (by decide)
theorem ss_app {i : Nat} {m : ME} (h : PS X st (tDrop (tBM G.K "list" rAppend (tVar i) (tCons (eE G m) tNil)))) : PS X st (sS G (sApp i m)) := ps_imp h fun D σ H ⟨F, M, ρ, S, hk, sl, fl, ρ', S', e, q⟩ => by
  unfold sApp at e
  split at e
  · rename_i ds hi
    obtain ⟨⟨d, S1⟩, e1, e⟩ := Option.bind_eq_some_iff.mp e
    split at e
    · rename_i hz
      cases e
      obtain ⟨v, ev, x, rfl, em⟩ := sl.at_ _ _ hi
      obtain ⟨_, _, oo, eo, ro⟩ := hk.own _ _ _ em
      cases ro with
      | lst _ r =>
        refine ⟨_, ev, .inl ⟨rfl, _, .of eo⟩, F, M, ρ, S, hk, sl, d, S1, e1, fun y H1 F1 hk1 le1 ry => ?_⟩
        obtain ⟨_, _, oo, eo, ro⟩ := hk1.own _ _ _ em
        cases ro with
        | @lst us _ hz' r =>
          have hl := Paired.length r
          refine ⟨x, us, y, rfl, rfl, eo, by rw [hl]; exact line1e6 hz, ?_⟩
          exact q _ F1 _ (hk1.write (w' := some i) (o := .lst (us ++ [y])) (d' := .lst (ds ++ [d])) em (.lst (by rw [List.length_append]; exact line1e6 hz) (paired_app r (.cons ry .nil)))) le1 _ (slots_write (sl.mono le1) hi ev em)
    · cases e
  · cases e
def sExt (i : Nat) (m : ME) : MS := fun ρ S => match ρ[i]? with
  | some (some (.own (.lst ds))) => (m ρ S).bind fun p => match p.1 with
    | .lst es => if ds.length + es.length ≤ 1000000 then some (.nx, ρ.set i (some (.own (.lst (ds ++ es)))), p.2) else none
    | _ => none
  | _ => none
theorem ss_ext {i : Nat} {m : ME} (h : PS X st (tDrop (tBM G.K "list" rExtend (tVar i) (tCons (eE G m) tNil)))) : PS X st (sS G (sExt i m)) := ps_imp h fun D σ H ⟨F, M, ρ, S, hk, sl, fl, ρ', S', e, q⟩ => by
  unfold sExt at e
  split at e
  · rename_i ds hi
    obtain ⟨⟨d, S1⟩, e1, e⟩ := Option.bind_eq_some_iff.mp e
    split at e
    · rename_i es ed
      split at e
      · rename_i hz
        cases e
        have ed : d = .lst es := ed
        subst ed
        obtain ⟨v, ev, x, rfl, em⟩ := sl.at_ _ _ hi
        obtain ⟨_, _, oo, eo, ro⟩ := hk.own _ _ _ em
        cases ro with
        | lst _ r =>
          refine ⟨_, ev, .inl ⟨rfl, _, .of eo⟩, F, M, ρ, S, hk, sl, _, S1, e1, fun y H1 F1 hk1 le1 ry => ?_⟩
          obtain ⟨_, _, oo, eo, ro⟩ := hk1.own _ _ _ em
          obtain ⟨ya, ys, rfl, eya, ry⟩ := ry.unlst
          cases ro with
          | @lst us _ hz' r =>
            have hl := Paired.length r
            have hl2 := Paired.length ry
            have h6 : ds.length + es.length ≤ sizeLine := Nat.le_trans hz (by decide)
            refine ⟨x, ya, us, ys, rfl, rfl, eo, hk1.sub _ _ eya, by rw [hl, hl2]; exact h6, ?_⟩
            exact q _ F1 _ (hk1.write (w' := some i) (o := .lst (us ++ ys)) (d' := .lst (ds ++ es)) em (.lst (by rw [List.length_append]; exact h6) (paired_app r ry))) le1 _ (slots_write (sl.mono le1) hi ev em)
      · cases e
    · cases e
  · cases e
/-- tgt = x.pop() -/
def sPop (i : Nat) (g : MG) : MS := fun ρ S => match ρ[i]? with
  | some (some (.own (.lst ds))) => match ds.getLast? with
    | some d => (g d (ρ.set i (some (.own (.lst ds.dropLast))))).map fun ρ' => (.nx, ρ', S)
    | none => none
  | _ => none
theorem ss_pop {i : Nat} {is : List Nat} {g : MG} (h : PS X st (tAsg (tBM0 G.K "list" rPop (tVar i)) (eG G is g))) : PS X st (sS G (sPop i g)) := ps_imp h fun D σ H ⟨F, M, ρ, S, hk, sl, fl, ρ', S', e, q⟩ => by
  unfold sPop at e
  split at e
  · rename_i ds hi
    split at e
    · rename_i d hd
      obtain ⟨ρ1, e1, e⟩ := Option.map_eq_some_iff.mp e
      cases e
      obtain ⟨v, ev, x, rfl, em⟩ := sl.at_ _ _ hi
      obtain ⟨_, _, oo, eo, ro⟩ := hk.own _ _ _ em
      cases ro with
      | @lst us _ hz r =>
        have hl := Paired.length r
        have hd2 : ds[us.length - 1]? = some d := by rw [hl, ← List.getLast?_eq_getElem?]; exact hd
        obtain ⟨y, ey, ry⟩ := paired_get' r hd2
        refine ⟨_, ev, .inl ⟨rfl, _, .of eo⟩, x, us, y, rfl, rfl, eo, ey, ?_⟩
        have hk2 := hk.write (w' := some i) (o := .lst us.dropLast) (d' := .lst ds.dropLast) em (.lst (by rw [List.length_dropLast]; omega) (paired_dropLast r))
        exact ⟨F, _, _, S, d, hk2, slots_write sl hi ev em, ry, _, e1, fun σ' sl' _ _ => q _ F _ hk2 (Same.refl F) σ' sl'⟩
    · cases e
  · cases e
/-- x[k] = e -/
def sIx (i : Nat) (m : ME) (mk : ME) : MS := fun ρ S => match ρ[i]? with
  | some (some (.own (.lst ds))) => (m ρ S).bind fun p => (mk ρ p.2).bind fun q => match q.1 with
    | .int k => (ixN ds.length k).map fun j => (.nx, ρ.set i (some (.own (.lst (ds.set j p.1)))), q.2)
    | _ => none
  | _ => none
theorem ss_ix {i : Nat} {m mk : ME} (h : PS X st (tAsg (eE G m) (gSub (tVar i) (eE G mk) rSetL))) : PS X st (sS G (sIx i m mk)) := ps_imp h fun D σ H ⟨F, M, ρ, S, hk, sl, fl, ρ', S', e, q⟩ => by
  unfold sIx at e
  split at e
  · rename_i ds hi
    obtain ⟨⟨d, S1⟩, e1, e⟩ := Option.bind_eq_some_iff.mp e
    obtain ⟨⟨dk, S2⟩, e2, e⟩ := Option.bind_eq_some_iff.mp e
    cases dk with
    | int k =>
      obtain ⟨j, ej, e⟩ := Option.map_eq_some_iff.mp e
      cases e
      refine ⟨F, M, ρ, S, hk, sl, d, S1, e1, fun y H1 F1 hk1 le1 ry => ?_⟩
      obtain ⟨v, ev, x, rfl, em⟩ := sl.at_ _ _ hi
      refine ⟨_, ev, F1, M, ρ, S1, hk1, sl.mono le1, _, S2, e2, fun w H2 F2 hk2 le2 rw' => ?_⟩
      cases rw'
      obtain ⟨_, _, oo, eo, ro⟩ := hk2.own _ _ _ em
      cases ro with
      | @lst us _ hz r =>
        have hl := Paired.length r
        refine ⟨x, us, k, j, rfl, rfl, eo, by rw [hl]; exact ej, ?_⟩
        exact q _ F2 _ (hk2.write (w' := some i) (o := .lst (us.set j y)) (d' := .lst (ds.set j d)) em (.lst (by rw [List.length_set]; exact hz) (paired_set (ry.mono le2) j r))) (le1.trans le2) _ (slots_write ((sl.mono le1).mono le2) hi ev em)
    | _ => cases e
  · cases e

/-! ### loops -/
def forGo (g : MG) (m : MS) : List D → Lo → Sg → Option (Fl × Lo × Sg)
  | [], ρ, S => some (.nx, ρ, S)
  | d :: r, ρ, S => (g d ρ).bind fun ρ1 => (m ρ1 S).bind fun p => match p.1 with
    | .nx => forGo g m r p.2.1 p.2.2
    | .ct => forGo g m r p.2.1 p.2.2
    | .bk => some (.nx, p.2.1, p.2.2)
    | .rt d => some (.rt d, p.2.1, p.2.2)
def sFor (mi : MA) (g : MG) (m : MS) : MS := fun ρ S => (mi ρ S).bind fun p => forGo g m p.1 ρ p.2
theorem ss_for {mi : MA} {is : List Nat} {g : MG} {m : MS} (h : PS X st (tFor (iI G mi) (eG G is g) (sS G m))) : PS X st (sS G (sFor mi g m)) := ps_imp h fun D σ H ⟨F, M, ρ, S, hk, sl, fl, ρ', S', e, q⟩ => by
  obtain ⟨⟨ds, S1⟩, e1, e⟩ := Option.bind_eq_some_iff.mp e
  refine ⟨F, M, ρ, S, hk, sl, ds, S1, e1, fun J H1 F1 hk1 le1 w => ?_⟩
  refine ⟨fun i n σ H => n = ds.length - i ∧ i ≤ ds.length ∧ ∃ F' M' ρi Si, HeapOk G H F' M' Si ∧ Le F1 F' ∧ Slots G.K σ ρi F' M' ∧ forGo g m (ds.drop i) ρi Si = some (fl, ρ', S'),
    ⟨ds.length, by omega, by omega, F1, M, ρ, S1, hk1, Same.refl F1, sl.mono le1, by simpa using e⟩, ?_⟩
  rintro i n σ H ⟨rfl, hi, F', M', ρi, Si, hk', le', sl', er⟩
  by_cases hlt : i < ds.length
  · refine .inr ⟨w.goes i H hlt (le'.trans hk'.sub), fun σ H => i + 1 ≤ ds.length ∧ ∃ F' M' ρi Si, HeapOk G H F' M' Si ∧ Le F1 F' ∧ Slots G.K σ ρi F' M' ∧ forGo g m (ds.drop (i + 1)) ρi Si = some (fl, ρ', S'),
      fun σ' H' hN => ⟨ds.length - (i + 1), by omega, rfl, hN⟩, fun x H' y => ?_⟩
    obtain ⟨F2, dd, hk2, le2, ed, rx⟩ := w.yields i H x H' F' _ Si hlt hk' le' y
    have edr : ds.drop i = dd :: ds.drop (i + 1) := by
      (rw [List.drop_eq_getElem_cons hlt]); congr
      exact Option.some.inj ((List.getElem?_eq_getElem hlt).symm.trans ed)
    rw [edr] at er
    obtain ⟨ρ1, eg, er⟩ := Option.bind_eq_some_iff.mp er
    obtain ⟨⟨f2, ρ2, S2⟩, em, er⟩ := Option.bind_eq_some_iff.mp er
    refine ⟨F2, M', ρi, Si, dd, hk2, sl'.mono le2, rx, ρ1, eg, fun σ1 sl1 _ _ => ⟨F2, M', ρ1, Si, hk2, sl1, f2, ρ2, S2, em, fun H3 F3 M3 hk3 le3 => ?_⟩⟩
    cases f2 with
    | nx => exact fun σ3 sl3 => ⟨hlt, F3, M3, ρ2, S2, hk3, (le'.trans le2).trans le3, sl3, er⟩
    | ct => exact fun σ3 sl3 => ⟨hlt, F3, M3, ρ2, S2, hk3, (le'.trans le2).trans le3, sl3, er⟩
    | bk => cases er; exact q H3 F3 M3 hk3 (le1.trans ((le'.trans le2).trans le3))
    | rt d => cases er; exact q H3 F3 M3 hk3 (le1.trans ((le'.trans le2).trans le3))
  · have e : i = ds.length := by omega
    subst e
    rw [List.drop_length] at er
    cases er
    exact .inl ⟨w.stops H (le'.trans hk'.sub), q H F' M' hk' (le1.trans le') σ sl'⟩
def whN (t : MT) (m : MS) : Nat → Lo → Sg → Option (Fl × Lo × Sg)
  | 0, _, _ => none
  | n + 1, ρ, S => (t ρ S).bind fun p => if p.1 then (m ρ p.2).bind fun q => match q.1 with
      | .nx => whN t m n q.2.1 q.2.2
      | .ct => whN t m n q.2.1 q.2.2
      | .bk => some (.nx, q.2.1, q.2.2)
      | .rt d => some (.rt d, q.2.1, q.2.2)
    else some (.nx, ρ, p.2)
open Classical in
/-- a while that ends -/
noncomputable def sWh (t : MT) (m : MS) : MS := fun ρ S => if h : ∃ r n, whN t m n ρ S = some r then some (Classical.choose h) else none
theorem whN_mono {t : MT} {m : MS} : ∀ {n k : Nat} {ρ S r}, n ≤ k → whN t m n ρ S = some r → whN t m k ρ S = some r
  | 0, _, _, _, _, _, h => by cases h
  | n + 1, 0, _, _, _, hk, _ => by omega
  | n + 1, k + 1, ρ, S, r, hk, h => by
    unfold whN at h ⊢
    obtain ⟨⟨b, S1⟩, e1, h⟩ := Option.bind_eq_some_iff.mp h
    rw [e1]
    show (if b = true then _ else _) = _
    cases b with
    | false => exact h
    | true =>
      obtain ⟨⟨f, ρ1, S2⟩, e2, h⟩ := Option.bind_eq_some_iff.mp h
      show (m ρ S1).bind _ = _
      rw [e2]
      cases f with
      | nx => exact whN_mono (Nat.le_of_succ_le_succ hk) h
      | ct => exact whN_mono (Nat.le_of_succ_le_succ hk) h
      | bk => exact h
      | rt d => exact h
theorem sWh_of {t : MT} {m : MS} {n : Nat} {ρ S r} (h : whN t m n ρ S = some r) : sWh t m ρ S = some r := by
  unfold sWh
  have hx : ∃ r n, whN t m n ρ S = some r := ⟨r, n, h⟩
  rw [dif_pos hx]
  obtain ⟨k, hk⟩ := Classical.choose_spec hx
  rcases Nat.le_total n k with l | l
  · rw [whN_mono l h] at hk; exact hk.symm
  · rw [whN_mono l hk] at h; exact h
theorem ss_while {t : MT} {m : MS} (h : PS X st (tWhile (eT G t) (sS G m))) : PS X st (sS G (sWh t m)) := ps_imp h fun D σ H ⟨F, M, ρ, S, hk, sl, fl, ρ', S', e, q⟩ => by
  unfold sWh at e
  split at e
  · rename_i hx
    obtain ⟨k, hk0⟩ := Classical.choose_spec hx
    rw [Option.some.inj e] at hk0
    refine ⟨fun n σ H => ∃ F' M' ρi Si, HeapOk G H F' M' Si ∧ Le F F' ∧ Slots G.K σ ρi F' M' ∧ whN t m n ρi Si = some (fl, ρ', S'), ⟨k, F, M, ρ, S, hk, Same.refl F, sl, hk0⟩, ?_⟩
    rintro n σ H ⟨F', M', ρi, Si, hk', le', sl', er⟩
    cases n with
    | zero => cases er
    | succ n =>
      unfold whN at er
      obtain ⟨⟨b, S1⟩, e1, er⟩ := Option.bind_eq_some_iff.mp er
      refine ⟨F', M', ρi, Si, hk', sl', b, S1, e1, fun H2 F2 hk2 le2 => ?_⟩
      cases b with
      | false => cases er; exact q H2 F2 M' hk2 (le'.trans le2) σ (sl'.mono le2)
      | true =>
        obtain ⟨⟨f2, ρ2, S2⟩, em, er⟩ := Option.bind_eq_some_iff.mp er
        refine ⟨fun σ H => ∃ F' M' ρi Si, HeapOk G H F' M' Si ∧ Le F F' ∧ Slots G.K σ ρi F' M' ∧ whN t m n ρi Si = some (fl, ρ', S'), fun σ' H' hN => ⟨n, by omega, hN⟩, F2, M', ρi, S1, hk2, sl'.mono le2, f2, ρ2, S2, em, fun H3 F3 M3 hk3 le3 => ?_⟩
        cases f2 with
        | nx => exact fun σ3 sl3 => ⟨F3, M3, ρ2, S2, hk3, (le'.trans le2).trans le3, sl3, er⟩
        | ct => exact fun σ3 sl3 => ⟨F3, M3, ρ2, S2, hk3, (le'.trans le2).trans le3, sl3, er⟩
        | bk => cases er; exact q H3 F3 M3 hk3 ((le'.trans le2).trans le3)
        | rt d => cases er; exact q H3 F3 M3 hk3 ((le'.trans le2).trans le3)
  · cases e
end
end Dv
namespace Dv
open PySem PySem.Spec
open PyProof.Rows L2

/-! ### defs as functions of data -/
def startL (n : Nat) (ds : List D) : Lo := ds.map (fun d => some (.imm d)) ++ List.replicate (n - ds.length) none
def outF : Fl × Lo × Sg → Option (D × Sg)
  | (.rt d, _, S) => some (d, S)
  | (.nx, _, S) => some (.non, S)
  | _ => none
/-- a def of k parameters and n names -/
def runP (k n : Nat) (m : MS) (ds : List D) : Option D := if ds.length = k then (m (startL n ds) none).bind fun p => (outF p).map (·.1) else none
def runR (k n : Nat) (m : MS) (ds : List D) (r : Rng) : Option (D × Rng) := if ds.length = k then (m (startL n ds) (some r)).bind fun p => (outF p).bind fun q => match q.2 with
  | some r' => if r'.at_ = r.at_ ∧ r'.gA = r.gA then some (q.1, r') else none
  | none => none
  else none
def Ar (k : Nat) (f : List D → Option D) : Prop := ∀ ds d, f ds = some d → ds.length = k
def ArR (k : Nat) (f : List D → Rng → Option (D × Rng)) : Prop := ∀ ds r d, f ds r = some d → ds.length = k
theorem runP_ar {k n : Nat} {m : MS} : Ar k (runP k n m) := fun ds d h => by
  unfold runP at h
  split at h
  · assumption
  · cases h
theorem runR_ar {k n : Nat} {m : MS} : ArR k (runR k n m) := fun ds r d h => by
  unfold runR at h
  split at h
  · assumption
  · cases h
/-- the promise of a def without draws -/
def spP (K : PySem.W.Frag) (f : List D → Option D) : Sp := fun vs H Q E => ∃ F ds d, Le F H ∧ RepL K F vs ds ∧ f ds = some d ∧
  ∀ v H' F', Same H H' → (∀ a, H' a = none → H a = none) → Le F F' → Le F' H' → (∀ a o, F' a = some o → NewOk F H a o) → Rep K F' v d → Q v H'
/-- .. of a def that draws -/
def spR (K : PySem.W.Frag) (f : List D → Rng → Option (D × Rng)) : Sp := fun vs H Q E => ∃ F ds r d r', Le F H ∧ RepL K F vs ds ∧ RngAt K H F r ∧ f ds r = some (d, r') ∧
  ∀ v H' F', (∀ a o, H a = some o → a ≠ r.at_ → a ≠ r.gA → H' a = some o) → (∀ a, H' a = none → H a = none) → Le F F' → Le F' H' → (∀ a o, F' a = some o → NewOk F H a o) → RngAt K H' F' r' → r'.at_ = r.at_ → r'.gA = r.gA → Rep K F' v d → Q v H'
theorem startL_slots {K : PySem.W.Frag} {F : Hp} {M : OMap} {N : List Str} {vs : List V} {ds : List D} (r : RepL K F vs ds) : Slots K (L2.start N vs) (startL N.length ds) F M := by
  have hl := Paired.length r
  unfold L2.start startL
  refine ⟨by simp [hl], fun i l h => ?_⟩
  rw [List.getElem?_append] at h ⊢
  rw [List.length_map] at h ⊢
  split at h
  · rename_i hi
    rw [List.getElem?_map] at h
    obtain ⟨d, e, h⟩ := Option.map_eq_some_iff.mp h
    cases h
    obtain ⟨v, ev, rv⟩ := paired_get' r e
    exact ⟨v, by rw [if_pos (by omega), List.getElem?_map, ev]; rfl, rv⟩
  · rw [List.getElem?_replicate] at h
    split at h
    · cases h
    · cases h
section
variable {P : Program} {w : World} {K : PySem.W.Frag}
variable {mg : Str → Option Value} {base : Heap}
theorem fn_pure {x qual : Str} {st : Stmt} {f : Addr} {fd : FuncData} {N ps : List Str} {k : Nat} {m : MS} (F : Fun K x qual st f fd) (Sc : FnScope N ps (defScope st))
    (hb : ∀ (H0 F0 : Hp) (R : Addr → Prop) (cdv : Value) (A : Around) (outer : List Env) (s : Shared) (H : Hp) (E : XK), Room k (A.deeper (envOfC qual (defScope st) s.heap.objs.size f cdv)) → PSs (cxOf CX0 P w K mg base N qual (defScope st) f cdv A outer s H E).nox (defBody st) (sS ⟨K, H0, F0, R⟩ m)) :
    FnOk P w K mg base CX0 (k + 1) f fd ps (spP K (runP ps.length N.length m)) := by
  refine F.ok Sc (fun vs H Q E h => ?_) fun cdv A outer s H vs Q E hr h => ?_
  · obtain ⟨F, ds, d, _, rl, e, _⟩ := h
    rw [Paired.length rl]; exact runP_ar _ _ e
  · obtain ⟨F, ds, d, le, rl, e, q⟩ := h
    refine ⟨_, hb H F (fun _ => False) cdv A outer s H E hr, ?_⟩
    unfold runP at e
    split at e
    · obtain ⟨⟨fl, ρ', S'⟩, e1, e⟩ := Option.bind_eq_some_iff.mp e
      obtain ⟨⟨d', S2⟩, e2, e⟩ := Option.map_eq_some_iff.mp e
      cases e
      refine ⟨F, fun _ => none, _, none, ⟨le, (fun _ _ _ h => nomatch h), fun _ _ h _ => h, fun _ h => h, fun _ _ h => h, fun _ _ h => .inl h, fun _ h => nomatch h⟩, startL_slots rl, fl, ρ', S', e1, fun H' F' M' hk' le' => ?_⟩
      have fin : ∀ v, Rep K F' v d' → Q v H' := fun v r => q v H' F' (fun a o h => hk'.ent a o h (fun z => z)) hk'.trk le' hk'.sub hk'.new r
      cases fl with
      | nx => cases e2; exact fun σ _ => fin _ .non
      | rt d => cases e2; exact fin
      | ct => cases e2
      | bk => cases e2
    · cases e
theorem fn_rng {x qual : Str} {st : Stmt} {f : Addr} {fd : FuncData} {N ps : List Str} {k : Nat} {m : MS} (F : Fun K x qual st f fd) (Sc : FnScope N ps (defScope st))
    (hb : ∀ (H0 F0 : Hp) (R : Addr → Prop) (cdv : Value) (A : Around) (outer : List Env) (s : Shared) (H : Hp) (E : XK), Room k (A.deeper (envOfC qual (defScope st) s.heap.objs.size f cdv)) → PSs (cxOf CX0 P w K mg base N qual (defScope st) f cdv A outer s H E).nox (defBody st) (sS ⟨K, H0, F0, R⟩ m)) :
    FnOk P w K mg base CX0 (k + 1) f fd ps (spR K (runR ps.length N.length m)) := by
  refine F.ok Sc (fun vs H Q E h => ?_) fun cdv A outer s H vs Q E hr h => ?_
  · obtain ⟨F, ds, r, d, r', _, rl, _, e, _⟩ := h
    rw [Paired.length rl]; exact runR_ar _ _ _ e
  · obtain ⟨F, ds, r, d, r', le, rl, ra, e, q⟩ := h
    refine ⟨_, hb H F (fun a => a = r.at_ ∨ a = r.gA) cdv A outer s H E hr, ?_⟩
    unfold runR at e
    split at e
    · obtain ⟨⟨fl, ρ', S'⟩, e1, e⟩ := Option.bind_eq_some_iff.mp e
      obtain ⟨⟨d', S2⟩, e2, e⟩ := Option.bind_eq_some_iff.mp e
      cases S2 with
      | none => cases e
      | some r2 =>
        dsimp only at e
        split at e
        · rename_i hrr
          cases e
          refine ⟨F, fun _ => none, _, some r, ⟨le, (fun _ _ _ h => nomatch h), fun _ _ h _ => h, fun _ h => h, fun _ _ h => h, fun _ _ h => .inl h, fun _ h => by cases h; exact ⟨ra, rfl, rfl, .inl (.inl rfl), .inl (.inr rfl)⟩⟩, startL_slots rl, fl, ρ', S', e1, fun H' F' M' hk' le' => ?_⟩
          have hS : S' = some r' := by
            cases fl with
            | nx => cases e2; rfl
            | rt d => cases e2; rfl
            | ct => cases e2
            | bk => cases e2
          have fin : ∀ v, Rep K F' v d → Q v H' := fun v rv => q v H' F' (fun a o h n1 n2 => hk'.ent a o h (fun z => z.elim n1 n2)) hk'.trk le' hk'.sub hk'.new (hk'.rng _ hS).1 hrr.1 hrr.2 rv
          cases fl with
          | nx => cases e2; exact fun σ _ => fin _ .non
          | rt d => cases e2; exact fin
          | ct => cases e2
          | bk => cases e2
        · cases e
    · cases e
end

section
variable {G : Gh} {X : Cx} {e a b c o : Expr} {es : List Expr} {pos p2 : Pos} {st : Stmt} {sts : List Stmt}
/-- behind a call -/
theorem heap_called {H H' F F' : Hp} {M : OMap} {S : Sg} (hk : HeapOk G H F M S) (sm : Same H H') (tr : ∀ a, H' a = none → H a = none) (le : Le F F') (sub : Le F' H') (nw : ∀ a o, F' a = some o → NewOk F H a o) : HeapOk G H' F' M S := by
  have fnone : ∀ a o, H a = some o → (∀ vs, o ≠ .tup vs) → F a = none → F' a = none := fun a o e nt n => by
    cases z : F' a with
    | none => rfl
    | some u =>
      rcases nw _ _ z with y | y | ⟨vs, rfl⟩
      · rw [y] at n; cases n
      · rw [y] at e; cases e
      · have z1 := sub _ _ z
        rw [sm _ _ e] at z1
        exact absurd (Option.some.inj z1) (nt vs)
  refine ⟨sub, fun a w d m => ?_, fun a o e r => sm _ _ (hk.ent a o e r), fun a n => hk.trk a (tr a n), fun a o e => le _ _ (hk.f0 a o e), fun a o e => ?_, fun r e => ?_⟩
  · obtain ⟨f1, f2, o, e, ro⟩ := hk.own _ _ _ m
    exact ⟨fnone a o e (fun vs z => by rw [z] at ro; cases ro) f1, f2, o, sm _ _ e, ro.mono le⟩
  · rcases nw _ _ e with z | z | z
    · exact hk.new _ _ z
    · exact .inr (.inl (hk.trk _ z))
    · exact .inr (.inr z)
  · obtain ⟨x, m1, m2, q⟩ := hk.rng r e
    exact ⟨x.mono sm le (fnone _ _ x.hat (fun _ z => nomatch z) x.fa) (fnone _ _ x.hg (fun _ z => nomatch z) x.fg), m1, m2, q⟩
theorem call_imp {f : List D → Option D} {m : MA} {E : XK} : ∀ σ H Q, eE G (mCall f m) σ H Q → tCall (spP G.K f) [] E (eA G m) σ H Q := fun σ H Q ⟨F, M, ρ, S, hk, sl, d, S', e, q⟩ => by
  obtain ⟨ds, e1, e2⟩ := mCall_some e
  refine ⟨F, M, ρ, S, hk, sl, ds, S', e1, fun vs H1 F1 hk1 le1 rl => ⟨F1, ds, d, hk1.sub, by rw [List.append_nil]; exact rl, e2, fun v H' F' sm tr le sub nw r => ?_⟩⟩
  exact q v H' F' (heap_called hk1 sm tr le sub nw) (le1.trans le) r
theorem se_call {f : List D → Option D} {m : MA} {E : XK} (h : PE X o (tCall (spP G.K f) [] E (eA G m))) : PE X o (eE G (mCall f m)) := pe_imp h call_imp
def mCallR (f : List D → Rng → Option (D × Rng)) (m : MA) : ME := fun ρ S => (m ρ S).bind fun p => match p.2 with
  | some r => (f p.1 r).bind fun q => if q.2.at_ = r.at_ ∧ q.2.gA = r.gA then some (q.1, some q.2) else none
  | none => none
theorem callR_imp {f : List D → Rng → Option (D × Rng)} {m : MA} {E : XK} : ∀ σ H Q, eE G (mCallR f m) σ H Q → tCall (spR G.K f) [] E (eA G m) σ H Q := fun σ H Q ⟨F, M, ρ, S, hk, sl, d, S', e, q⟩ => by
  obtain ⟨⟨ds, S1⟩, e1, e⟩ := Option.bind_eq_some_iff.mp e
  cases S1 with
  | none => cases e
  | some r =>
    obtain ⟨⟨d2, r2⟩, e2, e⟩ := Option.bind_eq_some_iff.mp e
    split at e
    · rename_i hrr
      cases e
      refine ⟨F, M, ρ, S, hk, sl, ds, some r, e1, fun vs H1 F1 hk1 le1 rl => ?_⟩
      obtain ⟨ra, m1, m2, o1, o2⟩ := hk1.rng r rfl
      refine ⟨F1, ds, r, _, r2, hk1.sub, by rw [List.append_nil]; exact rl, ra, e2, fun v H' F' sm tr le sub nw ra' ha hg rv => q v H' F' ?_ (le1.trans le) rv⟩
      have fnone : ∀ a o, H1 a = some o → H' a = some o → (∀ vs, o ≠ .tup vs) → F1 a = none → F' a = none := fun a o e e' nt n => by
        cases z : F' a with
        | none => rfl
        | some u =>
          rcases nw _ _ z with y | y | ⟨vs, rfl⟩
          · rw [y] at n; cases n
          · rw [y] at e; cases e
          · have z1 := sub _ _ z
            rw [e'] at z1
            exact absurd (Option.some.inj z1) (nt vs)
      refine ⟨sub, fun a w d m => ?_, fun a o e nr => ?_, fun a n => hk1.trk a (tr a n), fun a o e => le _ _ (hk1.f0 a o e), fun a o e => ?_, fun r3 e => ?_⟩
      · obtain ⟨f1, f2, o, e, ro⟩ := hk1.own _ _ _ m
        have e' := sm _ _ e (fun z => by rw [z, m1] at m; cases m) (fun z => by rw [z, m2] at m; cases m)
        exact ⟨fnone a o e e' (fun vs z => by rw [z] at ro; cases ro) f1, f2, o, e', ro.mono le⟩
      · refine sm _ _ (hk1.ent a o e nr) (fun z => ?_) (fun z => ?_)
        · subst z
          rcases o1 with o1 | o1
          · exact nr o1
          · rw [o1] at e; cases e
        · subst z
          rcases o2 with o2 | o2
          · exact nr o2
          · rw [o2] at e; cases e
      · rcases nw _ _ e with z | z | z
        · exact hk1.new _ _ z
        · exact .inr (.inl (hk1.trk _ z))
        · exact .inr (.inr z)
      · cases e
        exact ⟨ra', by rw [ha]; exact m1, by rw [hg]; exact m2, by rw [ha]; exact o1, by rw [hg]; exact o2⟩
    · cases e
theorem se_callR {f : List D → Rng → Option (D × Rng)} {m : MA} {E : XK} (h : PE X o (tCall (spR G.K f) [] E (eA G m))) : PE X o (eE G (mCallR f m)) := pe_imp h callR_imp
/-- with keywords: pm puts positional and keyword values in the parameters' order -/
def mCallK (f : List D → Option D) (pm : List D → List D → List D) (m n : MA) : ME := fun ρ S => (m ρ S).bind fun p => (n ρ p.2).bind fun q => (f (pm p.1 q.1)).map fun d => (d, q.2)
theorem se_callK {f : List D → Option D} {pm : List D → List D → List D} {gV : List V → List V → List V} {m n : MA} {E : XK} (hp : ∀ F vs ds zs es, RepL G.K F vs ds → RepL G.K F zs es → RepL G.K F (gV vs zs) (pm ds es)) (h : PE X o (tCallK (spP G.K f) gV E (eA G m) (eA G n))) : PE X o (eE G (mCallK f pm m n)) := pe_imp h fun σ H Q ⟨F, M, ρ, S, hk, sl, d, S', e, q⟩ => by
  obtain ⟨⟨ds, S1⟩, e1, e⟩ := Option.bind_eq_some_iff.mp e
  obtain ⟨⟨ks, S2⟩, e2, e⟩ := Option.bind_eq_some_iff.mp e
  obtain ⟨d', e3, e⟩ := Option.map_eq_some_iff.mp e
  cases e
  exact ⟨F, M, ρ, S, hk, sl, ds, S1, e1, fun vs H1 F1 hk1 le1 rl => ⟨F1, M, ρ, S1, hk1, sl.mono le1, ks, S2, e2, fun zs H2 F2 hk2 le2 rz => ⟨F2, _, d, hk2.sub, hp F2 _ _ _ _ (RepL.mono le2 rl) rz, e3, fun v H' F' sm tr le sub nw r => q v H' F' (heap_called hk2 sm tr le sub nw) ((le1.trans le2).trans le) r⟩⟩⟩

/-! ### the draws' own dict -/
theorem rng_slot {H F : Hp} {M : OMap} {S : Sg} {σ : L2.St} {ρ : Lo} {r : Rng} {i : Nat} {x : Addr} (hk : HeapOk G H F M S) (sl : Slots G.K σ ρ F M) (hi : ρ[i]? = some (some (.imm (.rng x)))) : σ[i]? = some (some (.ref x)) := by
  obtain ⟨v, ev, r⟩ := sl.at_ _ _ hi
  cases r
  exact ev
/-- state["rest"], state["turn"] -/
def mStI (i : Nat) (g : Rng → Int) : ME := fun ρ S => match ρ[i]?, S with
  | some (some (.imm (.rng x))), some r => if x = r.at_ then some (.int (g r), S) else none
  | _, _ => none
theorem se_stI {i : Nat} {key : Str} {g : Rng → Int} (hkey : ∀ r, valV (rngDict r) (Sum.inr key) = some (.int (g r))) (h : PE X o (tDGet (tVar i) (tC (.str key)))) : PE X o (eE G (mStI i g)) := pe_imp h fun σ H Q ⟨F, M, ρ, S, hk, sl, d, S', e, q⟩ => by
  unfold mStI at e
  split at e
  · rename_i x r hi
    split at e
    · rename_i hx
      cases e
      subst hx
      obtain ⟨ra, _⟩ := hk.rng r rfl
      refine ⟨_, rng_slot (r := r) hk sl hi, r.at_, .int (g r), rfl, ?_, q _ H F hk (Same.refl F) (.int _)⟩
      have := DGet.k (k := Sum.inr key) ra.hat
      rw [hkey r] at this
      exact this
    · cases e
  · cases e
/-- state["cells"] -/
def mStC (i : Nat) : ME := fun ρ S => match ρ[i]?, S with
  | some (some (.imm (.rng x))), some r => if x = r.at_ then some (.lst (r.cells.map .int), S) else none
  | _, _ => none
theorem repL_mapI {K : PySem.W.Frag} {F : Hp} : ∀ ns : List Int, RepL K F (ns.map V.int) (ns.map D.int)
  | [] => .nil
  | n :: r => .cons (.int n) (repL_mapI r)
theorem se_stC {i : Nat} (h : PE X o (tDGet (tVar i) (tC (.str "cells")))) : PE X o (eE G (mStC i)) := pe_imp h fun σ H Q ⟨F, M, ρ, S, hk, sl, d, S', e, q⟩ => by
  unfold mStC at e
  split at e
  · rename_i x r hi
    split at e
    · rename_i hx
      cases e
      subst hx
      obtain ⟨ra, _⟩ := hk.rng r rfl
      refine ⟨_, rng_slot (r := r) hk sl hi, r.at_, .ref r.cA, rfl, DGet.k (k := Sum.inr "cells") ra.hat, q _ H F hk (Same.refl F) (.mkLst ra.hc (by rw [List.length_map]; exact Nat.le_trans ra.hz (by decide)) (repL_mapI _))⟩
    · cases e
  · cases e
/-- state["great"] != [] -/
def mStG (i : Nat) : MT := fun ρ S => match ρ[i]?, S with
  | some (some (.imm (.rng x))), some r => if x = r.at_ ∧ r.great.length ≤ 1000 then some (!r.great.isEmpty, S) else none
  | _, _ => none
theorem dp_ints {K : PySem.W.Frag} {H : Hp} : ∀ ns : List Int, DpAll K H (ns.map V.int) (ns.map PyData.int)
  | [] => .nil
  | n :: r => .cons (.int n) (dp_ints r)
theorem canLay_ints : ∀ ns : List Int, PyData.canLayAll0 (ns.map PyData.int) = true
  | [] => rfl
  | n :: r => by simp only [List.map_cons, PyData.canLayAll0, PyData.canLay0, canLay_ints r]; rfl
theorem depth_ints : ∀ ns : List Int, PyData.depthAll (ns.map PyData.int) ≤ 1
  | [] => (by simp [PyData.depthAll])
  | n :: r => by
    have := depth_ints r
    (simp only [List.map_cons, PyData.depthAll, PyData.depth]); omega
theorem shaped_ints (ns : List Int) : SeqAt.shaped (.list (ns.map PyData.int)) = true := by
  have h := depth_ints ns
  simp [SeqAt.shaped, PyData.canLay0, canLay_ints, PyData.depth]
  omega
theorem st_stG {i : Nat} (h : PT X o (tTest (tOp (rNeD G.K) (tDGet (tVar i) (tC (.str "great"))) (tLst tNil)))) : PT X o (eT G (mStG i)) := pt_imp h fun σ H Q ⟨F, M, ρ, S, hk, sl, d, S', e, q⟩ => by
  unfold mStG at e
  split at e
  · rename_i x r hi
    split at e
    · rename_i hx
      cases e
      obtain ⟨rfl, hz⟩ := hx
      obtain ⟨ra, _⟩ := hk.rng r rfl
      refine ⟨_, rng_slot (r := r) hk sl hi, r.at_, .ref r.gA, rfl, DGet.k (k := Sum.inr "great") ra.hat, Nat.zero_le _, fun p hp => ?_⟩
      have hgp : r.gA ≠ p := ne_of_none ra.hg hp
      refine ⟨.list (r.great.map .int), .list [], .lst (.of (by rw [upd_ne hgp]; exact ra.hg)) (dp_ints _), .lst (.of upd_same) .nil, shaped_ints _, shaped_ints [], _, rfl, ?_⟩
      have he : (!PyData.eqv (.list (r.great.map .int)) (.list [])) = !r.great.isEmpty := by
        cases r.great <;> simp [PyData.eqv, PyData.eqvAll]
      rw [he]
      exact q _ _ (hk.laid hp) (le_upd (hk.fnone hp))
    · cases e
  · cases e
/-! ### globals -/
theorem se_gc {x : Str} {v : V} {d : D} (hg : Gl X x) (h : ∃ u, X.mg x = some u ∧ RelV v u) (rd : ∀ F, Rep G.K F v d) (hd : (x == ("__debug__" : Str)) = false := by decide) : PE X (.Name x pos) (eE G (mPure d)) := by
  obtain ⟨u, e, r⟩ := h
  exact se_const (pe_glob hg e r hd) rd
/-- a written tuple of the top -/
theorem se_gk {x : Str} {vs : List V} {ds : List D} (hg : Gl X x) (h : ∃ a, X.mg x = some (.ref a) ∧ SqT X.K (fun _ => none) a vs) (hK : G.K = X.K) (rd : ∀ F, RepL G.K F vs ds) (hd : (x == ("__debug__" : Str)) = false := by decide) : PE X (.Name x pos) (eE G (mPure (.kt ds))) := by
  obtain ⟨a, e, r⟩ := h
  exact se_const (v := .ref a) (pe_glob hg e rfl hd) fun F => .mkKt (by rw [hK]; exact r) (rd F)
theorem u65 {k : Nat} {A : Around} (hr : Room k A) : A.units + 65 < cLine := by have := hr.un; omega
theorem u64 {k : Nat} {A : Around} (hr : Room k A) : A.units + 64 < cLine := by have := hr.un; omega
end
end Dv
namespace Dv
open PySem PySem.Spec
open PyProof.Rows L2
/-! ### dicts -/
def keyD : D → Option Key
  | .int i => some (.inl i)
  | .str x => some (.inr x)
  | _ => none
theorem rep_key {K : PySem.W.Frag} {F : Hp} {v : V} {d : D} {k : Key} (r : Rep K F v d) (h : keyD d = some k) : v = kV k := by
  unfold keyD at h
  split at h
  · cases h; cases r; rfl
  · cases h; cases r; rfl
  · cases h
def putG {κ α : Type} [DecidableEq κ] (kvs : List (κ × α)) (k : κ) (v : α) : List (κ × α) :=
  if (kvs.any fun kv => decide (kv.1 = k)) = true
    then kvs.map (fun kv => if kv.1 = k then (kv.1, v) else kv) else kvs ++ [(k, v)]
theorem putG_len {κ α : Type} [DecidableEq κ] (kvs : List (κ × α)) (k : κ) (v : α) : (putG kvs k v).length ≤ kvs.length + 1 := by
  unfold putG; split <;> simp
theorem repP_put {κ : Type} [DecidableEq κ] {K : PySem.W.Frag} {F : Hp} {vs : List (κ × V)} {ds : List (κ × D)} {k : κ} {v : V} {d : D} (r : RepP K F vs ds) (rv : Rep K F v d) : RepP K F (putG vs k v) (putG ds k d) := by
  have ha : (vs.any fun kv => decide (kv.1 = k)) = (ds.any fun kv => decide (kv.1 = k)) := by
    induction r with
    | nil => rfl
    | cons h _ ih => simp only [List.any_cons, ih, h.1]
  unfold putG
  rw [ha]
  split
  · refine paired_map2 r fun p q h => ?_
    rw [h.1]
    split
    · exact ⟨rfl, rv⟩
    · exact ⟨h.1, h.2⟩
  · exact paired_app r (.cons ⟨rfl, rv⟩ .nil)
theorem putK_eq {κ : Type} [DecidableEq κ] (vs : List (κ × V)) (k : κ) (v : V) : putK vs k v = putG vs k v := rfl
def dcGo (ρ : Lo) (g : MG) (t : MT) (mk mv : ME) : List D → List (Key × D) → Sg → Option (List (Key × D) × Sg)
  | [], acc, S => some (acc, S)
  | d :: r, acc, S => (g d ρ).bind fun ρ1 => (t ρ1 S).bind fun b => if b.1 then (mk ρ1 b.2).bind fun y => (mv ρ1 y.2).bind fun z => (keyD y.1).bind fun k => dcGo ρ g t mk mv r (putG acc k z.1) z.2 else dcGo ρ g t mk mv r acc b.2
def mDc (mi : MA) (vs : List Nat) (g : MG) (t : MT) (mk mv : ME) : ME := fun ρ S => (mi ρ S).bind fun p => (dcGo (wipeL ρ vs) g t mk mv p.1 [] p.2).map fun q => (.dK q.1, q.2)
section
variable {G : Gh} {X : Cx} {e a b c o : Expr} {es : List Expr} {pos p2 : Pos} {st : Stmt}
theorem dc_imp {mi : MA} {vs is : List Nat} {g : MG} {t : MT} {mk mv : ME} (hs : ∀ i ∈ is, i ∈ vs) : ∀ σ H Q, eF G (mDc mi vs g t mk mv) σ H Q → tDc (iI G mi) (eG G is g) (eT G t) (eE G mk) (eE G mv) vs σ H Q := fun σ H Q ⟨F, M, ρ, S, hk, sl, d, S', e, q⟩ => by
  obtain ⟨⟨ds, S1⟩, e1, e⟩ := Option.bind_eq_some_iff.mp e
  obtain ⟨⟨out, S2⟩, e2, e⟩ := Option.map_eq_some_iff.mp e
  cases e
  refine ⟨F, M, ρ, S, hk, sl, ds, S1, e1, fun J H1 F1 hk1 le1 w D hD => ?_⟩
  have mD := hk1.mnone hD
  refine ⟨fun i n H => n = ds.length - i ∧ i ≤ ds.length ∧ ∃ F' acc Si, acc.length ≤ i ∧ HeapOk G H F' (updO M D (none, .dK acc)) Si ∧ Le F1 F' ∧ dcGo (wipeL ρ vs) g t mk mv (ds.drop i) acc Si = some (out, S2),
    ⟨ds.length, by omega, by omega, F1, [], S1, by simp, hk1.laidO hD (.dK .nil), Same.refl F1, by simpa using e2⟩, ?_⟩
  rintro i n H ⟨rfl, hi, F', acc, Si, ha, hk', le', er⟩
  by_cases hlt : i < ds.length
  · refine .inr ⟨w.goes i H hlt (le'.trans hk'.sub), fun H => i + 1 ≤ ds.length ∧ ∃ F' acc Si, acc.length ≤ i + 1 ∧ HeapOk G H F' (updO M D (none, .dK acc)) Si ∧ Le F1 F' ∧ dcGo (wipeL ρ vs) g t mk mv (ds.drop (i + 1)) acc Si = some (out, S2),
      fun H' hN => ⟨ds.length - (i + 1), by omega, rfl, hN⟩, fun x H' y => ?_⟩
    obtain ⟨F2, dd, hk2, le2, ed, rx⟩ := w.yields i H x H' F' _ Si hlt hk' le' y
    have sl2 : Slots G.K (L2.wipe σ vs) (wipeL ρ vs) F2 (updO M D (none, .dK acc)) := by
      have h0 := ((sl.wipe vs).mono (le1.trans le')).mono le2
      refine ⟨h0.len, fun j l hj => ?_⟩
      obtain ⟨v, ev, r⟩ := h0.at_ _ _ hj
      refine ⟨v, ev, ?_⟩
      cases l with
      | imm d => exact r
      | own d =>
        obtain ⟨a, ea, em⟩ := r
        refine ⟨a, ea, ?_⟩
        rw [updO_ne (fun z => by rw [z, mD] at em; cases em)]
        exact em
    have edr : ds.drop i = dd :: ds.drop (i + 1) := by
      (rw [List.drop_eq_getElem_cons hlt]); congr
      exact Option.some.inj ((List.getElem?_eq_getElem hlt).symm.trans ed)
    rw [edr] at er
    obtain ⟨ρ1, eg, er⟩ := Option.bind_eq_some_iff.mp er
    obtain ⟨⟨b, Sb⟩, et, er⟩ := Option.bind_eq_some_iff.mp er
    refine ⟨F2, _, _, Si, dd, hk2, sl2, rx, ρ1, eg, fun σ2 sl3 l3 k3 => ⟨wipe_eq hs l3 fun i hi => (k3 i hi).1, F2, _, ρ1, Si, hk2, sl3, b, Sb, et, fun H3 F3 hk3 le3 => ?_⟩⟩
    cases b with
    | true =>
      obtain ⟨⟨y, Sy⟩, em, er⟩ := Option.bind_eq_some_iff.mp er
      obtain ⟨⟨z, Sz⟩, ez, er⟩ := Option.bind_eq_some_iff.mp er
      obtain ⟨k, ek, er⟩ := Option.bind_eq_some_iff.mp er
      refine ⟨F3, _, ρ1, Sb, hk3, sl3.mono le3, y, Sy, em, fun v H4 F4 hk4 le4 rv => ⟨F4, _, ρ1, Sy, hk4, (sl3.mono le3).mono le4, z, Sz, ez, fun u H5 F5 hk5 le5 ru => ?_⟩⟩
      obtain ⟨_, _, oo, eo4, ro⟩ := hk5.own D _ _ updO_same
      cases ro with
      | @dK us _ r =>
        have hlen := Paired.length r
        have hsz := w.size
        refine ⟨us, k, rep_key rv ek, eo4, by omega, by omega, F5, putG acc k z, Sz, Nat.le_trans (putG_len _ _ _) (by omega), ?_, (((le'.trans le2).trans le3).trans le4).trans le5, er⟩
        have h5 := hk5.write (w' := none) (o := .dK (putK us k u)) (d' := .dK (putG acc k z)) updO_same (.dK (by rw [putK_eq]; exact repP_put r ru))
        rw [updO_updO] at h5
        exact h5
    | false => exact ⟨by omega, F3, acc, Sb, by omega, hk3, (le'.trans le2).trans le3, er⟩
  · have e : i = ds.length := by omega
    subst e
    rw [List.drop_length] at er
    cases er
    exact .inl ⟨w.stops H (le'.trans hk'.sub), q D H F' hk' mD (le1.trans le')⟩
theorem sf_dc {kx vx tg iter : Expr} {ifs : List Expr} {scope : Scope} {own : List (Str × Nat)} {mi : MA} {is : List Nat} {g : MG} {t : MT} {mk mv : ME} (hc : X.calm = true) (hN : X.N.Nodup) (hi : PI X tg iter (iI G mi)) (ok : BlkOk X.N X.env.scope scope own)
    (hg : ∀ (s : Shared) (H : Hp) (C : Addr) (cl : List (Str × Addr)) (fp : List Addr), PG (X.blk s H scope (compEnvC scope cl C X.env) fp) tg (eG G is g)) (ht : ∀ (s : Shared) (H : Hp) (C : Addr) (cl : List (Str × Addr)) (fp : List Addr), PTs (X.blk s H scope (compEnvC scope cl C X.env) fp) ifs (eT G t))
    (hk : ∀ (s : Shared) (H : Hp) (C : Addr) (cl : List (Str × Addr)) (fp : List Addr), PE (X.blk s H scope (compEnvC scope cl C X.env) fp) kx (eE G mk))
    (he : ∀ (s : Shared) (H : Hp) (C : Addr) (cl : List (Str × Addr)) (fp : List Addr), PE (X.blk s H scope (compEnvC scope cl C X.env) fp) vx (eE G mv)) (hs : ∀ i ∈ is, i ∈ own.map (·.2)) (hf : ∀ x, foldedSetIterable iter X.env x = pure x := by intro _; rfl) :
    PE X (.DictComp kx vx [⟨tg, iter, ifs, 0⟩] scope pos) (eF G (mDc mi (own.map (·.2)) g t mk mv)) := pe_imp (pe_dc hc hN hi ok hg ht hk he hf) (dc_imp hs)
/-- {} that is filled by tuples -/
def mNewT : ME := fun _ S => some (.dT [], S)
def mNewK : ME := fun _ S => some (.dK [], S)
theorem sf_newT : PE X (.Dict [] [] pos) (eF G mNewT) := pe_imp pe_dnewT fun σ H Q ⟨F, M, ρ, S, hk, sl, d, S', e, q⟩ => by
  cases e
  exact fun p hp => q p _ F (hk.laidO hp (.dT .nil)) (hk.mnone hp) (Same.refl F)
theorem sf_newK : PE X (.Dict [] [] pos) (eF G mNewK) := pe_imp pe_dnewK fun σ H Q ⟨F, M, ρ, S, hk, sl, d, S', e, q⟩ => by
  cases e
  exact fun p hp => q p _ F (hk.laidO hp (.dK .nil)) (hk.mnone hp) (Same.refl F)
def keysD : List D → Option (List Key)
  | [] => some []
  | d :: r => (keyD d).bind fun k => (keysD r).map fun ks => k :: ks
theorem repL_keys {K : PySem.W.Frag} {F : Hp} : ∀ {vs : List V} {ds : List D} {ks : List Key}, RepL K F vs ds → keysD ds = some ks → vs = ks.map kV
  | _, _, _, .nil, e => by cases e; rfl
  | _, d :: r, _, .cons rv t, e => by
    obtain ⟨k, e1, e⟩ := Option.bind_eq_some_iff.mp e
    obtain ⟨ks, e2, rfl⟩ := Option.map_eq_some_iff.mp e
    rw [rep_key rv e1, repL_keys t e2]; rfl
/-- d[k] = e, d an owned dict -/
def sPut (i : Nat) (m mk : ME) : MS := fun ρ S => match ρ[i]? with
  | some (some (.own (.dT ds))) => (m ρ S).bind fun p => (mk ρ p.2).bind fun q => match q.1 with
    | .tup ks => (keysD ks).bind fun k => if ds.length < 1000000 then some (.nx, ρ.set i (some (.own (.dT (putG ds k p.1)))), q.2) else none
    | _ => none
  | some (some (.own (.dK ds))) => (m ρ S).bind fun p => (mk ρ p.2).bind fun q => (keyD q.1).bind fun k => if ds.length < 1000000 then some (.nx, ρ.set i (some (.own (.dK (putG ds k p.1)))), q.2) else none
  | _ => none
theorem ss_put {i : Nat} {m mk : ME} (h : PS X st (sDPut (tVar i) (eE G mk) (eE G m))) : PS X st (sS G (sPut i m mk)) := ps_imp h fun D σ H ⟨F, M, ρ, S, hk, sl, fl, ρ', S', e, q⟩ => by
  unfold sPut at e
  split at e
  · rename_i ds hi
    obtain ⟨⟨d, S1⟩, e1, e⟩ := Option.bind_eq_some_iff.mp e
    obtain ⟨⟨dk, S2⟩, e2, e⟩ := Option.bind_eq_some_iff.mp e
    split at e
    · rename_i ks ed
      have ed : dk = .tup ks := ed
      subst ed
      obtain ⟨k, ek, e⟩ := Option.bind_eq_some_iff.mp e
      split at e
      · rename_i hz
        cases e
        refine ⟨F, M, ρ, S, hk, sl, d, S1, e1, fun y H1 F1 hk1 le1 ry => ?_⟩
        obtain ⟨v, ev, x, rfl, em⟩ := sl.at_ _ _ hi
        refine ⟨_, ev, F1, M, ρ, S1, hk1, sl.mono le1, _, S2, e2, fun w H2 F2 hk2 le2 rw' => ?_⟩
        obtain ⟨_, _, oo, eo, ro⟩ := hk2.own _ _ _ em
        obtain ⟨ka, kvs, rfl, eka, rk⟩ := rw'.untup'
        cases ro with
        | @dT us _ r =>
          have hl := Paired.length r
          have hkv := repL_keys rk ek
          subst hkv
          refine ⟨x, _, rfl, DPut.t eo (hk2.sub _ _ eka) (by rw [hl]; exact line1e6 hz), ?_⟩
          exact q _ F2 _ (hk2.write (w' := some i) (o := .dT (putK us k y)) (d' := .dT (putG ds k d)) em (.dT (by rw [putK_eq]; exact repP_put r (ry.mono le2)))) (le1.trans le2) _ (slots_write ((sl.mono le1).mono le2) hi ev em)
      · cases e
    · cases e
  · rename_i ds hi
    obtain ⟨⟨d, S1⟩, e1, e⟩ := Option.bind_eq_some_iff.mp e
    obtain ⟨⟨dk, S2⟩, e2, e⟩ := Option.bind_eq_some_iff.mp e
    obtain ⟨k, ek, e⟩ := Option.bind_eq_some_iff.mp e
    split at e
    · rename_i hz
      cases e
      refine ⟨F, M, ρ, S, hk, sl, d, S1, e1, fun y H1 F1 hk1 le1 ry => ?_⟩
      obtain ⟨v, ev, x, rfl, em⟩ := sl.at_ _ _ hi
      refine ⟨_, ev, F1, M, ρ, S1, hk1, sl.mono le1, _, S2, e2, fun w H2 F2 hk2 le2 rw' => ?_⟩
      obtain ⟨_, _, oo, eo, ro⟩ := hk2.own _ _ _ em
      cases ro with
      | @dK us _ r =>
        have hl := Paired.length r
        have hkv := rep_key rw' ek
        subst hkv
        refine ⟨x, _, rfl, DPut.k eo (by rw [hl]; exact line1e6 hz), ?_⟩
        exact q _ F2 _ (hk2.write (w' := some i) (o := .dK (putK us k y)) (d' := .dK (putG ds k d)) em (.dK (by rw [putK_eq]; exact repP_put r (ry.mono le2)))) (le1.trans le2) _ (slots_write ((sl.mono le1).mono le2) hi ev em)
    · cases e
  · cases e
/-- k in d -/
def inDk (x y : D) : Option D := match y with
  | .dT ds => match x with
    | .tup ks => (keysD ks).map fun k => .bl (ds.any fun kv => decide (kv.1 = k))
    | _ => none
  | .dK ds => (keyD x).map fun k => .bl (ds.any fun kv => decide (kv.1 = k))
  | _ => none
theorem any_repP {κ : Type} [DecidableEq κ] {K : PySem.W.Frag} {F : Hp} {vs : List (κ × V)} {ds : List (κ × D)} (r : RepP K F vs ds) (k : κ) : (vs.any fun kv => decide (kv.1 = k)) = ds.any fun kv => decide (kv.1 = k) := by
  induction r with
  | nil => rfl
  | cons h _ ih => simp only [List.any_cons, ih, h.1]
theorem r_din {H F : Hp} {M : OMap} {S : Sg} {x y : V} {d1 d2 d : D} {Q : VK} (hk : HeapOk G H F M S) (r1 : BRep G.K F M x d1) (r2 : BRep G.K F M y d2) (e : inDk d1 d2 = some d) (q : ∀ v H' F', HeapOk G H' F' M S → Le F F' → Rep G.K F' v d → Q v H') : ∃ b, d = .bl b ∧ ∃ a o, y = .ref a ∧ DGet H a x o ∧ o.isSome = b ∧ Q (.bl b) H := by
  unfold inDk at e
  split at e
  · rename_i ds
    split at e
    · rename_i ks
      obtain ⟨k, ek, e⟩ := Option.map_eq_some_iff.mp e
      cases e
      obtain ⟨a, us, rfl, eo, r⟩ := r2.undT hk
      obtain ⟨ka, kvs, rfl, eka, rk⟩ := (r1.rep hk (fun z => nomatch z)).untup'
      have hkv := repL_keys rk ek
      subst hkv
      exact ⟨_, rfl, a, _, rfl, DGet.t eo (hk.sub _ _ eka), by rw [← valV_any, any_repP r], q _ H F hk (Same.refl F) (.bl _)⟩
    · cases e
  · rename_i ds
    obtain ⟨k, ek, e⟩ := Option.map_eq_some_iff.mp e
    cases e
    obtain ⟨a, us, rfl, eo, r⟩ := r2.undK hk
    have rr : Rep G.K F x d1 := by
      unfold keyD at ek
      split at ek
      · exact r1.flat hk rfl
      · exact r1.flat hk rfl
      · cases ek
    have hkv := rep_key rr ek
    subst hkv
    exact ⟨_, rfl, a, _, rfl, DGet.k eo, by rw [← valV_any, any_repP r], q _ H F hk (Same.refl F) (.bl _)⟩
  · cases e
def mDin (ma mb : ME) : ME := mOp2 inDk ma mb
def mDnin (ma mb : ME) : ME := mOp2 (notOf inDk) ma mb
theorem se_din {ma mb : ME} (h : PE X o (tDIn (eB G ma) (eB G mb))) : PE X o (eE G (mDin ma mb)) := pe_imp h fun σ H Q ⟨F, M, ρ, S, hk, sl, d, S', e, q⟩ => by
  obtain ⟨d1, S1, d2, e1, e2, e3⟩ := mOp2_some e
  refine two_bb hk sl e1 e2 fun x y H' F' hk' le r1 r2 => ?_
  obtain ⟨b, rfl, a, oo, ha, hg, rfl, hq⟩ := r_din hk' r1 r2 e3 fun v H2 F2 hk2 le2 r => q v H2 F2 hk2 (le.trans le2) r
  exact ⟨a, oo, ha, hg, hq⟩
theorem st_din {ma mb : ME} (h : PT X o (L2.tB (tDIn (eB G ma) (eB G mb)))) : PT X o (eT G (mTst (mDin ma mb))) := pt_imp h fun σ H Q ⟨F, M, ρ, S, hk, sl, b, S', e, q⟩ => by
  obtain ⟨d1, S1, d2, e1, e2, e3⟩ := mOp2_some (mTst_some e)
  refine two_bb hk sl e1 e2 fun x y H' F' hk' le r1 r2 => ?_
  obtain ⟨b, eb, a, oo, ha, hg, rfl, hq⟩ := r_din (Q := fun v H' => ∃ c, v = .bl c ∧ Q c H') hk' r1 r2 e3 fun v H2 F2 hk2 le2 r => by cases r; exact ⟨_, rfl, q H2 F2 hk2 (le.trans le2)⟩
  exact ⟨a, oo, ha, hg, hq⟩
theorem notOf_some {f : D → D → Option D} {x y d : D} (h : notOf f x y = some d) : ∃ b, f x y = some (.bl b) ∧ d = .bl (!b) := by
  obtain ⟨d1, e1, h⟩ := Option.bind_eq_some_iff.mp h
  cases d1 <;> first | (cases h; exact ⟨_, e1, rfl⟩) | cases h
theorem se_dnin {ma mb : ME} (h : PE X o (tDNotIn (eB G ma) (eB G mb))) : PE X o (eE G (mDnin ma mb)) := pe_imp h fun σ H Q ⟨F, M, ρ, S, hk, sl, d, S', e, q⟩ => by
  obtain ⟨d1, S1, d2, e1, e2, e3⟩ := mOp2_some e
  obtain ⟨b, e4, rfl⟩ := notOf_some e3
  refine two_bb hk sl e1 e2 fun x y H' F' hk' le r1 r2 => ?_
  obtain ⟨b, eb, a, oo, ha, hg, rfl, hq⟩ := r_din (Q := fun v H' => ∃ c, v = .bl c ∧ Q (.bl (!c)) H') hk' r1 r2 e4 fun v H2 F2 hk2 le2 r => by cases r; exact ⟨_, rfl, q _ H2 F2 hk2 (le.trans le2) (.bl _)⟩
  obtain ⟨c, ec, hq⟩ := hq
  cases ec; cases eb
  exact ⟨a, oo, ha, hg, hq⟩
theorem st_dnin {ma mb : ME} (h : PT X o (L2.tB (tDNotIn (eB G ma) (eB G mb)))) : PT X o (eT G (mTst (mDnin ma mb))) := pt_imp h fun σ H Q ⟨F, M, ρ, S, hk, sl, b, S', e, q⟩ => by
  obtain ⟨d1, S1, d2, e1, e2, e3⟩ := mOp2_some (mTst_some e)
  obtain ⟨b, e4, hb⟩ := notOf_some e3
  refine two_bb hk sl e1 e2 fun x y H' F' hk' le r1 r2 => ?_
  cases hb
  obtain ⟨b, eb, a, oo, ha, hg, rfl, hq⟩ := r_din (Q := fun v H' => ∃ c, v = .bl c ∧ Q (!c) H') hk' r1 r2 e4 fun v H2 F2 hk2 le2 r => by cases r; exact ⟨_, rfl, q H2 F2 hk2 (le.trans le2)⟩
  obtain ⟨c, ec, hq⟩ := hq
  cases ec; cases eb
  exact ⟨a, oo, ha, hg, _, rfl, hq⟩
/-- d[k] -/
def getD' (x y : D) : Option D := match x with
  | .dT ds => match y with
    | .tup ks => (keysD ks).bind fun k => (ds.find? fun kv => decide (kv.1 = k)).map (·.2)
    | _ => none
  | .dK ds => (keyD y).bind fun k => (ds.find? fun kv => decide (kv.1 = k)).map (·.2)
  | _ => none
theorem find_repP {κ : Type} [DecidableEq κ] {K : PySem.W.Frag} {F : Hp} {vs : List (κ × V)} {ds : List (κ × D)} (r : RepP K F vs ds) (k : κ) {d : D} (h : (ds.find? fun kv => decide (kv.1 = k)).map (·.2) = some d) : ∃ v, valV vs k = some v ∧ Rep K F v d := by
  induction r with
  | nil => cases h
  | @cons p q _ _ hh _ ih =>
    by_cases e : q.1 = k
    · rw [List.find?_cons_of_pos (by simpa using e)] at h
      cases h
      exact ⟨_, valV_pos (hh.1.trans e), hh.2⟩
    · rw [List.find?_cons_of_neg (by simpa using e)] at h
      obtain ⟨v, ev, r⟩ := ih h
      exact ⟨v, by rw [valV_neg (by rw [hh.1]; exact e)]; exact ev, r⟩
theorem se_dget {ma mb : ME} (h : PE X o (tDGet (eB G ma) (eB G mb))) : PE X o (eE G (mOp2 getD' ma mb)) := pe_imp h fun σ H Q ⟨F, M, ρ, S, hk, sl, d, S', e, q⟩ => by
  obtain ⟨d1, S1, d2, e1, e2, e3⟩ := mOp2_some e
  refine two_bb hk sl e1 e2 fun x y H' F' hk' le r1 r2 => ?_
  unfold getD' at e3
  split at e3
  · split at e3
    · rename_i ks
      obtain ⟨k, ek, e3⟩ := Option.bind_eq_some_iff.mp e3
      obtain ⟨a, us, rfl, eo, r⟩ := r1.undT hk'
      obtain ⟨ka, kvs, rfl, eka, rk⟩ := (r2.rep hk' (fun z => nomatch z)).untup'
      have hkv := repL_keys rk ek
      subst hkv
      obtain ⟨v, ev, rv⟩ := find_repP r k e3
      exact ⟨a, v, rfl, by rw [← ev]; exact DGet.t eo (hk'.sub _ _ eka), q v H' F' hk' le rv⟩
    · cases e3
  · obtain ⟨k, ek, e3⟩ := Option.bind_eq_some_iff.mp e3
    obtain ⟨a, us, rfl, eo, r⟩ := r1.undK hk'
    have rr : Rep G.K F' y d2 := by
      unfold keyD at ek
      split at ek
      · exact r2.flat hk' rfl
      · exact r2.flat hk' rfl
      · cases ek
    have hkv := rep_key rr ek
    subst hkv
    obtain ⟨v, ev, rv⟩ := find_repP r k e3
    exact ⟨a, v, rfl, by rw [← ev]; exact DGet.k eo, q v H' F' hk' le rv⟩
  · cases e3
end
end Dv
namespace Dv
open PySem PySem.Spec
open PyProof.Rows L2

/-! ### zip of lists and tuples, in any mix -/
/-- the sequence at a: a list (true), a tuple (false) -/
def SqK (K : PySem.W.Frag) (H : Hp) (k : Bool) (a : Addr) (xs : List V) : Prop := match k with
  | true => SqL K H a xs
  | false => SqT K H a xs
def SeqIs (h : Heap) (k : Bool) (a : Addr) (its : Array Value) : Prop := match k with
  | true => h.IsList a its
  | false => h.IsTuple a its
def ItQ (h : Heap) (k : Bool) (it a : Addr) (i : Nat) : Prop := match k with
  | true => h.IsListIter it a i
  | false => h.IsTupleIter it a i
def itO (k : Bool) (a : Addr) : Obj := match k with
  | true => { cls := .type "list_iterator", data := .fields #[.ref a, .int 0 0] }
  | false => { cls := .type "tuple_iterator", data := .fields #[.ref a, .int 0 0] }
theorem seqIs_of {X : Cx} {pins : List (Addr × Obj)} {σ : L2.St} {H : Hp} {s : Shared} {k : Bool} {a : Addr} {xs : List V} (I : Inv X pins σ H s) (h : SqK X.K H k a xs) : ∃ its : List Value, Vals xs its ∧ SeqIs s.heap k a its.toArray := by
  cases k with
  | true => obtain ⟨its, r, p, _⟩ := I.list h; exact ⟨its, r, p.isList⟩
  | false => obtain ⟨its, r, p, _⟩ := I.tuple h; exact ⟨its, r, p⟩
theorem sqk_inj {X : Cx} {pins : List (Addr × Obj)} {σ : L2.St} {H : Hp} {s : Shared} {k : Bool} {a : Addr} {xs ys : List V} (I : Inv X pins σ H s) (h : SqK X.K H k a xs) (h' : SqK X.K H k a ys) : xs = ys := by
  cases k with
  | true => exact I.list_inj h h'
  | false => exact I.tuple_inj h h'
theorem drawsQ {P : Program} {w : World} {A : Around} (hh : A.handled = none) (k : Bool) (it a : Addr) (hne : a ≠ it) (its : Array Value) : Draws P w A it [it, a] its.size (fun i v => its[i]? = some v) (fun i h => ItQ h k it a i ∧ SeqIs h k a its) := by
  cases k with
  | true => exact Draws.list hh it a hne its
  | false => exact Draws.tuple hh it a hne its
theorem beginsQ (k : Bool) (a : Addr) (its : Array Value) : Begins (.ref a) (itO k a) fun h => SeqIs h k a its := by
  cases k with
  | true => exact begins_list a its
  | false => exact begins_tuple a its
theorem ItQ.obj {h : Heap} {k : Bool} {it a : Addr} {i : Nat} (x : ItQ h k it a i) : ∃ o, h.get? it = some o ∧ ∀ v, o.data ≠ .cell v := by
  cases k with
  | true => obtain ⟨o, e, c, d⟩ := x; exact ⟨o, e, fun v z => by rw [d] at z; cases z⟩
  | false => obtain ⟨o, e, c, d⟩ := x; exact ⟨o, e, fun v z => by rw [d] at z; cases z⟩
theorem ItQ.at {h h' : Heap} {k : Bool} {it a : Addr} {i : Nat} (x : ItQ h k it a i) (hk : ∀ o, h.get? it = some o → h'.get? it = some o) : ItQ h' k it a i := by
  cases k with
  | true => exact (show h.IsListIter it a i from x).at hk
  | false => exact (show h.IsTupleIter it a i from x).at hk
theorem ItQ.new {h' : Heap} {k : Bool} {it a : Addr} (e : h'.get? it = some (itO k a)) : ItQ h' k it a 0 := by
  cases k with
  | true => exact ⟨_, e, rfl, rfl⟩
  | false => exact ⟨_, e, rfl, rfl⟩
theorem SeqIs.lt {h : Heap} {k : Bool} {a : Addr} {its : Array Value} (x : SeqIs h k a its) : a < h.objs.size := by
  cases k with
  | true => obtain ⟨o, e, _⟩ := (show h.IsList a its from x); exact Heap.lt_size e
  | false => obtain ⟨o, e, _⟩ := (show h.IsTuple a its from x); exact Heap.lt_size e
theorem seq_ne {h : Heap} {k k' : Bool} {a b it : Addr} {its : Array Value} {i : Nat} (x : SeqIs h k a its) (y : ItQ h k' it b i) : a ≠ it := fun e => by
  subst e
  have h1 : ∃ o, h.get? a = some o ∧ (o.cls = .type "list" ∨ o.cls = .type "tuple") := by
    cases k with
    | true => obtain ⟨o, e, c, _⟩ := (show h.IsList a its from x); exact ⟨o, e, .inl c⟩
    | false => obtain ⟨o, e, c, _⟩ := (show h.IsTuple a its from x); exact ⟨o, e, .inr c⟩
  have h2 : ∃ o, h.get? a = some o ∧ (o.cls = .type "list_iterator" ∨ o.cls = .type "tuple_iterator") := by
    cases k' with
    | true => obtain ⟨o, e, c, _⟩ := (show h.IsListIter a b i from y); exact ⟨o, e, .inl c⟩
    | false => obtain ⟨o, e, c, _⟩ := (show h.IsTupleIter a b i from y); exact ⟨o, e, .inr c⟩
  obtain ⟨o, e1, c1⟩ := h1
  obtain ⟨o2, e2, c2⟩ := h2
  rw [e1] at e2
  cases e2
  rcases c1 with c1 | c1 <;> rcases c2 with c2 | c2 <;> rw [c1] at c2 <;> simp at c2
def ItzQ (K : PySem.W.Frag) (k1 k2 : Bool) (a b : Addr) : It :=
  ⟨fun i H => ∃ (xs ys : List V) (x y : V), SqK K H k1 a xs ∧ SqK K H k2 b ys ∧ xs[i]? = some x ∧ ys[i]? = some y,
    fun i H v H' => ∃ T x y, v = .ref T ∧ H T = none ∧ H' = upd H T (.tup [x, y]) ∧ (∀ xs, SqK K H k1 a xs → xs[i]? = some x) ∧ ∀ ys, SqK K H k2 b ys → ys[i]? = some y,
    fun i H => ∃ xs ys : List V, SqK K H k1 a xs ∧ SqK K H k2 b ys ∧ i = min xs.length ys.length⟩
theorem sub5 {z TI TO i1 i2 c : Addr} (m : c ∈ [z, TO, i1, i2]) : c ∈ [z, TI, TO, i1, i2] := by
  simp only [List.mem_cons, List.not_mem_nil, or_false] at m ⊢
  rcases m with m | m | m | m
  · exact .inl m
  · exact .inr (.inr (.inl m))
  · exact .inr (.inr (.inr (.inl m)))
  · exact .inr (.inr (.inr (.inr m)))
theorem turn_zipQ {P : Program} {w : World} {K : PySem.W.Frag} {elts : List Expr} {kk : Nat} {tpos : Pos} {k1 k2 : Bool} {a b z TI TO i1 i2 : Addr} (D : ZipSep2 z TI TO i1 i2 [i1, a] [i2, b]) :
    Turn P w K (.Tuple elts kk tpos) (ItzQ K k1 k2 a b) [z, TI, TO, i1, i2] z (fun i h => IsZip h z TI TO .none ∧ IsTupOf2 h TI (.ref i1) (.ref i2) ∧ (∃ a1 a2, IsTupOf2 h TO a1 a2) ∧ ItQ h k1 i1 a i ∧ ItQ h k2 i2 b i) where
  mem := by simp
  obj := fun i h st c hc => by
    ((obtain ⟨hz, hTI, ⟨x, y, hTO⟩, h1, h2⟩ := st); have e' : c = z ∨ c = TI ∨ c = TO ∨ c = i1 ∨ c = i2 := by simpa using hc); rcases e' with q | q | q | q | q
    · subst q; exact ⟨_, hz, fun v e => by cases e⟩
    · subst q; exact ⟨_, hTI, fun v e => by cases e⟩
    · subst q; exact ⟨_, hTO, fun v e => by cases e⟩
    · subst q; exact h1.obj
    · subst q; exact h2.obj
  keep := fun i h h' st k => by
    (obtain ⟨hz, hTI, ⟨x, y, hTO⟩, h1, h2⟩ := st); exact ⟨k z (by simp) _ hz, k TI (by simp) _ hTI, ⟨x, y, k TO (by simp) _ hTO⟩, h1.at fun o q => k i1 (by simp) o q, h2.at fun o q => k i2 (by simp) o q⟩
  item := by
    (intro X hP hw hK hc i pins s σ H E I hf st hg); subst hP hw hK
    (obtain ⟨hz, hTI, ⟨x0, y0, hTO⟩, h1, h2⟩ := st); obtain ⟨xs, ys, x, y, hqx, hqy, hx, hy⟩ := hg
    obtain ⟨its, rv, p⟩ := seqIs_of I hqx
    obtain ⟨its2, rv2, p2⟩ := seqIs_of I hqy
    (obtain ⟨u, hu, ru⟩ := rv.get hx); obtain ⟨u2, hu2, ru2⟩ := rv2.get hy
    have hd := I.ok.hd hc
    have ha1 : a ≠ i1 := seq_ne p h1
    have hb2 : b ≠ i2 := seq_ne p2 h2
    have hi1 : i < its.toArray.size := by simpa using (List.getElem?_eq_some_iff.mp hu).1
    have hi2 : i < its2.toArray.size := by simpa using (List.getElem?_eq_some_iff.mp hu2).1
    have W := WalksT.zipD2 (A := X.A) D (drawsQ (P := X.prog) (w := X.w) (A := X.A.in1) hd k1 i1 a ha1 its.toArray) (drawsQ (A := X.A.in1) hd k2 i2 b hb2 its2.toArray)
    refine W.item i s _ E (by omega) ⟨hz, hTI, ⟨x0, y0, hTO⟩, ⟨h1, p⟩, h2, p2⟩ fun T vals h' tk hP hT htup hMid hk => ⟨.ref T, rfl, ?_⟩
    refine W.go elts kk tpos i T { s with heap := h', toks := tk } _ E hMid fun h'' hSt hk2 => ?_
    obtain ⟨x1, x2, e1, e2, rfl⟩ := hP
    have e1' : u = x1 := by rw [List.getElem?_toArray] at e1; rw [hu] at e1; exact Option.some.inj e1
    have e2' : u2 = x2 := by rw [List.getElem?_toArray] at e2; rw [hu2] at e2; exact Option.some.inj e2
    subst e1' e2'
    obtain ⟨hz', hTI', hTO', ⟨h1', _⟩, h2', _⟩ := hSt
    have apT := W.apart i T h' hMid
    have hT2 : h''.IsTuple T #[u, u2] := htup.at fun o e => hk2 T o apT e
    have new : ObjOk X.prog X.w (upd H T (.tup [x, y])) h'' T (.tup [x, y]) := ⟨by show 2 ≤ sizeLine; decide, [u, u2], .cons ru (.cons ru2 .nil), hT2⟩
    have I1 : Inv X pins σ (upd H T (.tup [x, y])) { s with heap := h'', toks := tk } :=
      I.turnedNew (t' := tk) (h' := h'') (ch := [z, TI, TO, i1, i2]) (fun c o hb q => hk2 c o (fun m => hb (sub5 m)) (hk c o (fun m => hb (sub5 m)) q)) hf hT new
    exact ⟨.ref T, _, I1, rfl, ⟨T, x, y, rfl, I.hok.fresh hT, rfl, fun l hl => by rw [sqk_inj I hl hqx]; exact hx, fun l hl => by rw [sqk_inj I hl hqy]; exact hy⟩, ⟨hz', hTI', hTO', h1', h2'⟩, fun c hcm => by
      have hlt : c < s.heap.objs.size := by
        (have e' : c = z ∨ c = TI ∨ c = TO ∨ c = i1 ∨ c = i2 := by simpa using hcm); rcases e' with q | q | q | q | q
        · rw [q]; exact Heap.lt_size hz
        · (rw [q]; exact Heap.lt_size hTI)
        · (rw [q]; exact Heap.lt_size hTO)
        · rw [q]; obtain ⟨_, e1, _⟩ := h1.obj; exact Heap.lt_size e1
        · rw [q]; obtain ⟨_, e2, _⟩ := h2.obj; exact Heap.lt_size e2
      rw [upd_ne (Nat.ne_of_lt (Nat.lt_of_lt_of_le hlt hT))]
      exact (hf c hcm).1⟩
  done := by
    (intro X hP hw hK hc i pins s σ H E I hf st hg); subst hP hw hK
    obtain ⟨hz, hTI, hTO, h1, h2⟩ := st
    obtain ⟨xs, ys, hqx, hqy, hx⟩ := hg
    obtain ⟨its, rv, p⟩ := seqIs_of I hqx
    obtain ⟨its2, rv2, p2⟩ := seqIs_of I hqy
    have hd := I.ok.hd hc
    have W := WalksT.zipD2 (A := X.A) D (drawsQ (P := X.prog) (w := X.w) (A := X.A.in1) hd k1 i1 a (seq_ne p h1) its.toArray) (drawsQ (A := X.A.in1) hd k2 i2 b (seq_ne p2 h2) its2.toArray)
    have l1 := rv.length
    have l2 := rv2.length
    have hi : i = min its.toArray.size its2.toArray.size := by simp only [List.size_toArray]; omega
    subst hi
    exact W.done s _ E ⟨hz, hTI, hTO, ⟨h1, p⟩, h2, p2⟩ fun h' tk hk => ⟨rfl, I.turnedL (t' := tk) (ch := [z, TI, TO, i1, i2]) (fun c o hb q => hk c o (fun m => hb (sub5 m)) q) hf⟩
  self := fun B i s Q E st hh => wpAny_pyIter_zip st.1 hh
def iZipQ (K : PySem.W.Frag) (ta : TA) : TI := fun σ H R => ta σ H fun vs H1 => ∃ k1 k2 a b xs ys, vs = [.ref a, .ref b] ∧ SqK K H1 k1 a xs ∧ SqK K H1 k2 b ys ∧ R (ItzQ K k1 k2 a b) H1
theorem pi_zip2 {X : Cx} {e e2 : Expr} {ta : TA} {p pos tpos : Pos} {elts : List Expr} {kk : Nat} (hg : Gl X "zip") (hm : X.mg "zip" = none) (ha : PA X [e, e2] ta)
    (hs : starEach [e, e2] X.env = (false, eval e X.env) :: starEach [e2] X.env := by rfl)
    (hpl : (backTo pos (starEach [e2] X.env)).any (·.1) = false := by rfl) :
    PI X (.Tuple elts kk tpos) (.Call (.Name "zip" p) [e, e2] [] pos) (iZipQ X.K ta) := by
  (refine ⟨fun pins s σ H R I h => ?_⟩); refine Call_ (ld_blt I hg hm PyProof.Rows.boot_zip (PyProof.Rows.callWith_type1 (thn (ha.run pos pins s σ H _ I h) fun us s1 ⟨vs, H1, I1, r1, q1⟩ => ?_) hs hpl))
  obtain ⟨k1, k2, a, b, xs, ys, ex, hqx, hqy, q⟩ := q1
  subst ex
  cases r1 with
  | cons r rr =>
    cases rr with
    | cons r' rr =>
      cases rr
      cases r
      cases r'
      obtain ⟨its, rv, p1⟩ := seqIs_of I1 hqx
      obtain ⟨its2, rv2, p2⟩ := seqIs_of I1 hqy
      (have la : a < s1.heap.objs.size := p1.lt); have lb : b < s1.heap.objs.size := p2.lt
      refine zip_begins2 (beginsQ k1 a its.toArray) (beginsQ k2 b its2.toArray) p1 p2 fun h' hz hTI hTO h1 h2 hsz hk => wpAny_pyIter_zip hz ?_
      (have I2 : Inv X pins σ H1 { s1 with heap := h' } := I1.kept (t' := s1.toks) hk); have D := zip_sep2 (N := s1.heap.objs.size) (fp1 := [a]) (fp2 := [b]) (fun c hc => by rw [List.mem_singleton.mp hc]; exact la) (fun c hc => by rw [List.mem_singleton.mp hc]; exact lb)
      refine ⟨s1.heap.objs.size + 4, [s1.heap.objs.size + 4, s1.heap.objs.size + 2, s1.heap.objs.size + 3, s1.heap.objs.size, s1.heap.objs.size + 1], _, _, H1, rfl, I2, turn_zipQ D, ⟨hz, hTI, ⟨_, _, hTO⟩, ItQ.new h1, ItQ.new h2⟩, fun c hcm => ?_, q⟩
      (have e' : c = s1.heap.objs.size + 4 ∨ c = s1.heap.objs.size + 2 ∨ c = s1.heap.objs.size + 3 ∨ c = s1.heap.objs.size ∨ c = s1.heap.objs.size + 1 := by simpa using hcm); have hle : s1.heap.objs.size ≤ c := by
        (rcases e' with z | z | z | z | z)
        · (rw [z]; exact Nat.le_add_right _ _)
        · (rw [z]; exact Nat.le_add_right _ _)
        · (rw [z]; exact Nat.le_add_right _ _)
        · rw [z]; exact Nat.le_refl _
        · (rw [z]; exact Nat.le_add_right _ _)
      (exact I1.fpOk hle (I1.hok.fresh hle))
section
variable {G : Gh} {X : Cx} {e a b c o : Expr} {es : List Expr} {pos p2 : Pos} {st : Stmt}
theorem rep_sqk {H F : Hp} {v : V} {d : D} {ds : List D} (le : Le F H) (r : Rep G.K F v d) (e : itemsD d = some ds) : ∃ k a vs, v = .ref a ∧ (∀ H', Le F H' → SqK G.K H' k a vs) ∧ RepL G.K F vs ds ∧ ds.length ≤ sizeLine := by
  unfold itemsD at e
  split at e
  · cases e
    have hz := r.size (.inl rfl)
    obtain ⟨a, vs, rfl, q, r⟩ := r.untup (d := .tup _) rfl
    exact ⟨false, a, vs, rfl, fun H' l => SqT_mono l q, r, hz⟩
  · cases e
    have hz := r.size (.inl rfl)
    obtain ⟨a, vs, rfl, q, r⟩ := r.untup (d := .kt _) rfl
    exact ⟨false, a, vs, rfl, fun H' l => SqT_mono l q, r, hz⟩
  · cases e
    have hz := r.size (.inr rfl)
    obtain ⟨a, vs, rfl, q, r⟩ := r.unlst
    exact ⟨true, a, vs, rfl, fun H' l => .of (l _ _ q), r, hz⟩
  · cases e
def mZip2 (m : MA) : MA := fun ρ S => (m ρ S).bind fun p => match p.1 with
  | [x, y] => (itemsD x).bind fun xs => (itemsD y).map fun ys => (List.zipWith (fun a b => .tup [a, b]) xs ys, p.2)
  | _ => none
theorem zipWith_get {α β γ : Type} {f : α → β → γ} {xs : List α} {ys : List β} {i : Nat} {x : α} {y : β} (h : xs[i]? = some x) (h' : ys[i]? = some y) : (List.zipWith f xs ys)[i]? = some (f x y) := by
  rw [List.getElem?_zipWith, h, h']
theorem si_zip2 {tg : Expr} {m : MA} (hK : G.K = X.K) (h : PI X tg e (iZipQ G.K (eA G m))) : PI X tg e (iI G (mZip2 m)) := pi_imp h fun σ H R ⟨F, M, ρ, S, hk, sl, ds, S', e, q⟩ => by
  obtain ⟨⟨d1, S1⟩, e1, e2⟩ := Option.bind_eq_some_iff.mp e
  split at e2
  · rename_i x y ed
    obtain ⟨xs, ex, e2⟩ := Option.bind_eq_some_iff.mp e2
    obtain ⟨ys, ey, e2⟩ := Option.map_eq_some_iff.mp e2
    cases e2
    have ed : d1 = [x, y] := ed
    subst ed
    refine ⟨F, M, ρ, S, hk, sl, _, _, e1, fun vs H' F' hk' le r => ?_⟩
    cases r with
    | cons r1 r =>
      cases r with
      | cons r2 r =>
        cases r
        obtain ⟨k1, a, us, rfl, s1, rl1, z1⟩ := rep_sqk hk'.sub r1 ex
        obtain ⟨k2, b, us', rfl, s2, rl2, z2⟩ := rep_sqk hk'.sub r2 ey
        have l1 := Paired.length rl1
        have l2 := Paired.length rl2
        refine ⟨k1, k2, a, b, us, us', rfl, s1 _ hk'.sub, s2 _ hk'.sub, q _ _ _ hk' le ⟨?_, fun i H hi l => ?_, fun H l => ?_, fun i H v H' F2 M2 S2 hi hk2 l2' y => ?_⟩⟩
        · rw [List.length_zipWith]; omega
        · rw [List.length_zipWith] at hi
          exact ⟨us, us', us[i]'(by omega), us'[i]'(by omega), s1 _ l, s2 _ l, List.getElem?_eq_getElem _, List.getElem?_eq_getElem _⟩
        · exact ⟨us, us', s1 _ l, s2 _ l, by rw [List.length_zipWith]; omega⟩
        · obtain ⟨T, x, y, rfl, hT, rfl, hx, hy⟩ := y
          have gx := hx _ (s1 _ (l2'.trans hk2.sub))
          have gy := hy _ (s2 _ (l2'.trans hk2.sub))
          obtain ⟨dx, edx, rx⟩ := paired_get'' rl1 gx
          obtain ⟨dy, edy, ry⟩ := paired_get'' rl2 gy
          have lu := le_upd (o := .tup [x, y]) (hk2.fnone hT)
          exact ⟨_, _, hk2.laid hT, lu, zipWith_get edx edy, .mkTup upd_same (show 2 ≤ sizeLine by decide) (.cons (rx.mono (l2'.trans lu)) (.cons (ry.mono (l2'.trans lu)) .nil))⟩
  · cases e2
/-- enumerate(a list) -/
def mEnum (m : MA) : MA := fun ρ S => (m ρ S).bind fun p => match p.1 with
  | [.lst xs] => some (xs.mapIdx fun i d => .tup [.int (i : Nat), d], p.2)
  | _ => none
theorem si_enum {tg : Expr} {m : MA} (h : PI X tg e (iEnum G.K (eA G m))) : PI X tg e (iI G (mEnum m)) := pi_imp h fun σ H R ⟨F, M, ρ, S, hk, sl, ds, S', e, q⟩ => by
  obtain ⟨⟨d1, S1⟩, e1, e2⟩ := Option.bind_eq_some_iff.mp e
  split at e2
  · rename_i xs ed
    cases e2
    have ed : d1 = [.lst xs] := ed
    subst ed
    refine ⟨F, M, ρ, S, hk, sl, _, _, e1, fun vs H' F' hk' le r => ?_⟩
    cases r with
    | cons r1 r =>
      cases r
      have z1 := r1.size (.inr rfl)
      obtain ⟨a, us, rfl, ea, rl⟩ := r1.unlst
      have l1 := Paired.length rl
      refine ⟨a, us, rfl, .of (hk'.sub _ _ ea), q _ _ _ hk' le (walkD_of walk_enum (by rw [List.length_mapIdx]; exact z1) (by rw [List.length_mapIdx]; exact l1) (fun H l => .of (l _ _ ea)) fun i H v H' F2 M2 S2 hi hk2 l2 y => ?_)⟩
      obtain ⟨T, x, y, rfl, hT, rfl, hx, hy⟩ := y
      cases hx
      obtain ⟨dy, edy, ry⟩ := paired_get'' rl hy
      have lu := le_upd (o := .tup [.int (i : Nat), y]) (hk2.fnone hT)
      exact ⟨_, .tup [.int (i : Nat), dy], hk2.laid hT, lu, by rw [List.getElem?_mapIdx, edy]; rfl, .mkTup upd_same (Nat.le_trans (Nat.le_refl 2) (by decide)) (.cons (.int _) (.cons (ry.mono (l2.trans lu)) .nil))⟩
  · cases e2
end
end Dv
namespace Dv
open PySem PySem.Spec
open PyProof.Rows L2
section
variable {G : Gh} {X : Cx} {e a b c o : Expr} {es : List Expr} {pos p2 : Pos} {st : Stmt}
/-! ### a statement of an expression alone; a comprehension stored -/
def sExpr (m : ME) : MS := fun ρ S => (m ρ S).map fun p => (.nx, ρ, p.2)
theorem ss_expr {m : ME} (h : PS X st (tDrop (eE G m))) : PS X st (sS G (sExpr m)) := ps_imp h fun D σ H ⟨F, M, ρ, S, hk, sl, fl, ρ', S', e, q⟩ => by
  obtain ⟨⟨d, S1⟩, e1, e⟩ := Option.map_eq_some_iff.mp e
  cases e
  exact ⟨F, M, ρ, S, hk, sl, d, S1, e1, fun v H' F' hk' le r => q H' F' M hk' le σ (sl.mono le)⟩
section
variable {i : Nat} {y : Str} {py spos : Pos} {tg elt iter : Expr} {ifs : List Expr} {scope : Scope} {own : List (Str × Nat)} {mi : MA} {is : List Nat} {g : MG} {t : MT} {m : ME}
theorem ss_setLcF (hc : X.calm = true) (hN : X.N.Nodup) (hi : PI X tg iter (iI G mi)) (ok : BlkOk X.N X.env.scope scope own)
    (hg : ∀ (s : Shared) (H : Hp) (C : Addr) (cl : List (Str × Addr)) (fp : List Addr), PG (X.blk s H scope (compEnvC scope cl C X.env) fp) tg (eG G is g)) (ht : ∀ (s : Shared) (H : Hp) (C : Addr) (cl : List (Str × Addr)) (fp : List Addr), PTs (X.blk s H scope (compEnvC scope cl C X.env) fp) ifs (eT G t))
    (he : ∀ (s : Shared) (H : Hp) (C : Addr) (cl : List (Str × Addr)) (fp : List Addr), PE (X.blk s H scope (compEnvC scope cl C X.env) fp) elt (eE G m)) (hs : ∀ i ∈ is, i ∈ own.map (·.2)) (hy : X.N[i]? = some y := by rfl) (hyl : X.env.scope.names.lookup y = some .local := by rfl)
    (hsw : swapsWith (.ListComp elt [⟨tg, iter, ifs, 0⟩] scope pos) (some (.Name y py)) spos.line X.env = pure true := by exact sw_true rfl rfl rfl (by decide +kernel)) (hf : ∀ x, foldedSetIterable iter X.env x = pure x := by intro _; rfl) :
    PS X (.Assign [.Name y py] (.ListComp elt [⟨tg, iter, ifs, 0⟩] scope pos) spos) (sS G (sSetF i (mLc mi (own.map (·.2)) g t m))) :=
  ps_imp (ps_setLc hc hN hy hyl hsw (sc_of hi) ok hg ht he hf) fun D σ H h => lc_imp hs σ H _ (setF_imp D σ H h)
theorem ss_setLc (hc : X.calm = true) (hN : X.N.Nodup) (hi : PI X tg iter (iI G mi)) (ok : BlkOk X.N X.env.scope scope own)
    (hg : ∀ (s : Shared) (H : Hp) (C : Addr) (cl : List (Str × Addr)) (fp : List Addr), PG (X.blk s H scope (compEnvC scope cl C X.env) fp) tg (eG G is g)) (ht : ∀ (s : Shared) (H : Hp) (C : Addr) (cl : List (Str × Addr)) (fp : List Addr), PTs (X.blk s H scope (compEnvC scope cl C X.env) fp) ifs (eT G t))
    (he : ∀ (s : Shared) (H : Hp) (C : Addr) (cl : List (Str × Addr)) (fp : List Addr), PE (X.blk s H scope (compEnvC scope cl C X.env) fp) elt (eE G m)) (hs : ∀ i ∈ is, i ∈ own.map (·.2)) (hy : X.N[i]? = some y := by rfl) (hyl : X.env.scope.names.lookup y = some .local := by rfl)
    (hsw : swapsWith (.ListComp elt [⟨tg, iter, ifs, 0⟩] scope pos) (some (.Name y py)) spos.line X.env = pure true := by exact sw_true rfl rfl rfl (by decide +kernel)) (hf : ∀ x, foldedSetIterable iter X.env x = pure x := by intro _; rfl) :
    PS X (.Assign [.Name y py] (.ListComp elt [⟨tg, iter, ifs, 0⟩] scope pos) spos) (sS G (sSet i (mLc mi (own.map (·.2)) g t m))) :=
  ps_imp (ps_setLc hc hN hy hyl hsw (sc_of hi) ok hg ht he hf) fun D σ H h => lc_imp hs σ H _ (by
    obtain ⟨F, M, ρ, S, hk, sl, d, S', e, q⟩ := set_imp D σ H h
    exact ⟨F, M, ρ, S, hk, sl, d, S', e, fun a H' F' hk' n le => by
      obtain ⟨o, eo, nf, ro, hk2⟩ := hk'.freeze updO_same
      exact q _ H' _ (heap_unown hk2 n) (le.trans (le_upd nf)) ((ro.mono (le_upd nf)).rep upd_same)⟩)
end
/-- xs[::-1] of a list -/
def revL : D → Option D
  | .lst ds => some (.lst ds.reverse)
  | _ => none
theorem sf_revL {m : ME} (h : PE X o (tRevL G.K (eB G m))) : PE X o (eF G (mOp1 revL m)) := pe_imp h fun σ H Q ⟨F, M, ρ, S, hk, sl, d, S', e, q⟩ => by
  obtain ⟨d1, e1, e2⟩ := mOp1_some e
  refine ⟨F, M, ρ, S, hk, sl, d1, S', e1, fun v H' F' hk' le r => ?_⟩
  unfold revL at e2
  split at e2
  · cases e2
    have r0 := r
    obtain ⟨a, us, rfl, ea, rl⟩ := r.unlst hk'
    exact ⟨a, us, rfl, .of ea, fun p hp => q p _ F' (hk'.laidO hp (.lst (by rw [List.length_reverse]; exact r0.size hk' (.inr rfl)) (paired_rev rl))) (hk'.mnone hp) le⟩
  · cases e2

/-! ### targets that change an owned list -/
abbrev MH := D → Lo → Sg → Option (Lo × Sg)
abbrev MHs := List D → Lo → Sg → Option (Lo × Sg)
def eH (G : Gh) (h : MH) : TG := fun v σ H Q => ∃ F M ρ S d, HeapOk G H F M S ∧ Slots G.K σ ρ F M ∧ Rep G.K F v d ∧ ∃ ρ' S', h d ρ S = some (ρ', S') ∧
  ∀ σ' H' F' M', HeapOk G H' F' M' S' → Le F F' → Slots G.K σ' ρ' F' M' → Q σ' H'
def eHs (G : Gh) (h : MHs) : TGs := fun vs σ H Q => ∃ F M ρ S ds, HeapOk G H F M S ∧ Slots G.K σ ρ F M ∧ RepL G.K F vs ds ∧ ∃ ρ' S', h ds ρ S = some (ρ', S') ∧
  ∀ σ' H' F' M', HeapOk G H' F' M' S' → Le F F' → Slots G.K σ' ρ' F' M' → Q σ' H'
def hOf (g : MG) : MH := fun d ρ S => (g d ρ).map fun ρ' => (ρ', S)
theorem sh_of {is : List Nat} {g : MG} (h : PG X e (eG G is g)) : PG X e (eH G (hOf g)) := pg_imp h fun v σ H Q ⟨F, M, ρ, S, d, hk, sl, r, ρ', S', e, q⟩ => by
  obtain ⟨ρ1, e1, e⟩ := Option.map_eq_some_iff.mp e
  cases e
  exact ⟨F, M, ρ, S, d, hk, sl, r, _, e1, fun σ' sl' _ _ => q σ' H F M hk (Same.refl F) sl'⟩
def hIx (i : Nat) (mk : ME) : MH := fun d ρ S => match ρ[i]? with
  | some (some (.own (.lst ds))) => (mk ρ S).bind fun q => match q.1 with
    | .int k => (ixN ds.length k).map fun j => (ρ.set i (some (.own (.lst (ds.set j d)))), q.2)
    | _ => none
  | _ => none
theorem sh_ix {i : Nat} {mk : ME} (h : PG X e (gSub (tVar i) (eE G mk) rSetL)) : PG X e (eH G (hIx i mk)) := pg_imp h fun v σ H Q ⟨F, M, ρ, S, d, hk, sl, r, ρ', S', e, q⟩ => by
  unfold hIx at e
  split at e
  · rename_i ds hi
    obtain ⟨⟨dk, S2⟩, e2, e⟩ := Option.bind_eq_some_iff.mp e
    cases dk with
    | int k =>
      obtain ⟨j, ej, e⟩ := Option.map_eq_some_iff.mp e
      cases e
      obtain ⟨u, ev, x, rfl, em⟩ := sl.at_ _ _ hi
      refine ⟨_, ev, F, M, ρ, S, hk, sl, _, S2, e2, fun w H2 F2 hk2 le2 rw' => ?_⟩
      cases rw'
      obtain ⟨_, _, oo, eo, ro⟩ := hk2.own _ _ _ em
      cases ro with
      | @lst us _ hz rl =>
        have hl := Paired.length rl
        exact ⟨x, us, k, j, rfl, rfl, eo, by rw [hl]; exact ej, q σ _ F2 _ (hk2.write (w' := some i) (o := .lst (us.set j v)) (d' := .lst (ds.set j d)) em (.lst (by rw [List.length_set]; exact hz) (paired_set (r.mono le2) j rl))) le2 (slots_write (sl.mono le2) hi ev em)⟩
    | _ => cases e
  · cases e
def hNl : MHs := fun ds ρ S => match ds with | [] => some (ρ, S) | _ => none
def hCns (g : MH) (gs : MHs) : MHs := fun ds ρ S => match ds with | d :: r => (g d ρ S).bind fun p => gs r p.1 p.2 | [] => none
def hTp (n : Nat) (gs : MHs) : MH := fun d ρ S => match d.asT with | some ds => if ds.length = n then gs ds ρ S else none | none => none
theorem shs_nil : PGs X [] (eHs G hNl) := pgs_imp pgs_nil fun v σ H Q ⟨F, M, ρ, S, ds, hk, sl, r, ρ', S', e, q⟩ => by
  cases r with
  | nil => cases e; exact ⟨rfl, q σ H F M hk (Same.refl F) sl⟩
  | cons _ _ => cases e
theorem shs_cons {g : MH} {gs : MHs} (h1 : PG X e (eH G g)) (h2 : PGs X es (eHs G gs)) (hs : (assignEach (e :: es) X.env).map (·.2) = assign e X.env :: (assignEach es X.env).map (·.2) := by rfl) : PGs X (e :: es) (eHs G (hCns g gs)) :=
  pgs_imp (pgs_cons h1 h2 hs) fun v σ H Q ⟨F, M, ρ, S, ds, hk, sl, r, ρ', S', e, q⟩ => by
    cases r with
    | nil => cases e
    | cons r rs =>
      obtain ⟨⟨ρ1, S1⟩, e1, e2⟩ := Option.bind_eq_some_iff.mp e
      exact ⟨_, _, rfl, F, M, ρ, S, _, hk, sl, r, ρ1, S1, e1, fun σ1 H1 F1 M1 hk1 le1 sl1 => ⟨F1, M1, ρ1, S1, _, hk1, sl1, RepL.mono le1 rs, ρ', S', e2, fun σ2 H2 F2 M2 hk2 le2 sl2 => q σ2 H2 F2 M2 hk2 (le1.trans le2) sl2⟩⟩
theorem sh_tup {gs : MHs} {k n : Nat} (hK : G.K = X.K) (hc : X.calm = true) (h : PGs X es (eHs G gs)) (hn : (assignEach es X.env).length = n := by rfl) (hst : (assignEach es X.env).findIdx? (·.1) = none := by rfl) : PG X (.Tuple es k pos) (eH G (hTp n gs)) :=
  pg_imp (hK ▸ pg_tup hc h hn hst : PG X (.Tuple es k pos) (gTup G.K n (eHs G gs))) fun v σ H Q ⟨F, M, ρ, S, d, hk, sl, r, ρ', S', e, q⟩ => by
    unfold hTp at e
    split at e
    · rename_i ds ed
      split at e
      · rename_i hz
        obtain ⟨a, vs, rfl, hq, rl⟩ := r.untup ed
        exact ⟨a, vs, rfl, SqT_mono hk.sub hq, by rw [Paired.length rl]; exact hz, F, M, ρ, S, ds, hk, sl, rl, ρ', S', e, q⟩
      · cases e
    · cases e
def sAsgH (m : ME) (g : MH) : MS := fun ρ S => (m ρ S).bind fun p => (g p.1 ρ p.2).map fun q => (.nx, q.1, q.2)
theorem ss_asgH {g : MH} {m : ME} (h : PS X st (tAsg (eE G m) (eH G g))) : PS X st (sS G (sAsgH m g)) := ps_imp h fun D σ H ⟨F, M, ρ, S, hk, sl, fl, ρ', S', e, q⟩ => by
  obtain ⟨⟨d, S1⟩, e1, e⟩ := Option.bind_eq_some_iff.mp e
  obtain ⟨⟨ρ1, S2⟩, e2, e⟩ := Option.map_eq_some_iff.mp e
  cases e
  exact ⟨F, M, ρ, S, hk, sl, d, S1, e1, fun v H' F' hk' le r => ⟨F', M, ρ, S1, d, hk', sl.mono le, r, _, _, e2, fun σ' H2 F2 M2 hk2 le2 sl' => q H2 F2 M2 hk2 (le.trans le2) σ' sl'⟩⟩

/-! ### defs as values -/
theorem se_fnv {x : Str} {f : Addr} (hg : Gl X x) (hm : X.mg x = some (.ref f)) (hd : (x == ("__debug__" : Str)) = false := by decide) : PE X (.Name x pos) (eE G (mPure (.fn f))) := se_const (v := .ref f) (pe_glob hg hm rfl hd) fun _ => .fn f
def mCallL (i : Nat) (f : Addr) (fn : List D → Option D) (m : MA) : ME := fun ρ S => match ρ[i]? with
  | some (some (.imm (.fn a))) => if a = f then mCall fn m ρ S else none
  | _ => none
theorem se_callL {i : Nat} {f : Addr} {fn : List D → Option D} {m : MA} {E : XK} (h : PE X o (tCallL i f (spP G.K fn) [] E (eA G m))) : PE X o (eE G (mCallL i f fn m)) := pe_imp h fun σ H Q ⟨F, M, ρ, S, hk, sl, d, S', e, q⟩ => by
  unfold mCallL at e
  split at e
  · rename_i a hi
    split at e
    · rename_i ha
      subst ha
      obtain ⟨v, ev, r⟩ := sl.at_ _ _ hi
      cases r
      exact ⟨ev, call_imp (E := E) σ H Q ⟨F, M, ρ, S, hk, sl, d, S', e, q⟩⟩
    · cases e
  · cases e

/-! ### the draws' stores -/
def sStrest (i : Nat) (m : ME) : MS := fun ρ S => (m ρ S).bind fun p => match p.1, ρ[i]?, p.2 with
  | .int n, some (some (.imm (.rng x))), some r => if x = r.at_ then some (.nx, ρ, some { r with rest := n }) else none
  | _, _, _ => none
def sStturn (i : Nat) (m : ME) : MS := fun ρ S => (m ρ S).bind fun p => match p.1, ρ[i]?, p.2 with
  | .int n, some (some (.imm (.rng x))), some r => if x = r.at_ then some (.nx, ρ, some { r with turn := n }) else none
  | _, _, _ => none
theorem heap_rng {H F : Hp} {M : OMap} {r r' : Rng} (hk : HeapOk G H F M (some r)) (e1 : r'.at_ = r.at_) (e2 : r'.gA = r.gA) (e3 : r'.cA = r.cA) (e4 : r'.great = r.great) (e5 : r'.cells = r.cells) : HeapOk G (upd H r.at_ (.dK (rngDict r'))) F M (some r') := by
  obtain ⟨ra, m1, m2, o1, o2⟩ := hk.rng r rfl
  have hne : r.gA ≠ r.at_ := ne_of ra.hg ra.hat (fun z => nomatch z)
  refine ⟨fun a o e => ?_, fun a w d m => ?_, fun a o e nr => ?_, fun a e => ?_, hk.f0, hk.new, fun r2 e => ?_⟩
  · rw [upd_ne (ne_of_none e ra.fa)]; exact hk.sub _ _ e
  · obtain ⟨f1, f2, o, e, ro⟩ := hk.own _ _ _ m
    exact ⟨f1, f2, o, by rw [upd_ne (fun z => by rw [z, m1] at m; cases m)]; exact e, ro⟩
  · rw [upd_ne (fun z => by
      subst z
      rcases o1 with o1 | o1
      · exact nr o1
      · rw [o1] at e; cases e)]
    exact hk.ent _ _ e nr
  · by_cases hb : a = r.at_
    · subst hb; rw [upd_same] at e; cases e
    · rw [upd_ne hb] at e; exact hk.trk _ e
  · cases e
    refine ⟨⟨by rw [e1]; exact upd_same, by rw [e2, upd_ne hne, e4]; exact ra.hg, by rw [e3, e5]; exact ra.hc, by rw [e5]; exact ra.hz, by rw [e1]; exact ra.fa, by rw [e2]; exact ra.fg⟩, by rw [e1]; exact m1, by rw [e2]; exact m2, by rw [e1]; exact o1, by rw [e2]; exact o2⟩
theorem ss_strest {i : Nat} {m : ME} (h : PS X st (sDPut (tVar i) (tC (.str "rest")) (eE G m))) : PS X st (sS G (sStrest i m)) := ps_imp h fun D σ H ⟨F, M, ρ, S, hk, sl, fl, ρ', S', e, q⟩ => by
  obtain ⟨⟨d, S1⟩, e1, e⟩ := Option.bind_eq_some_iff.mp e
  split at e
  · rename_i n x r ed hi es
    split at e
    · rename_i hx
      cases e
      have ed : d = .int n := ed
      have es : S1 = some r := es
      subst ed es hx
      refine ⟨F, M, ρ, S, hk, sl, _, _, e1, fun v H1 F1 hk1 le1 rv => ?_⟩
      cases rv
      obtain ⟨ra, _⟩ := hk1.rng r rfl
      refine ⟨_, rng_slot (r := r) hk sl hi, r.at_, _, rfl, DPut.k (k := Sum.inr "rest") ra.hat (show 4 < sizeLine by decide), ?_⟩
      exact q _ F1 M (heap_rng (r' := { r with rest := n }) hk1 rfl rfl rfl rfl rfl) le1 σ (sl.mono le1)
    · cases e
  · cases e
theorem ss_stturn {i : Nat} {m : ME} (h : PS X st (sDPut (tVar i) (tC (.str "turn")) (eE G m))) : PS X st (sS G (sStturn i m)) := ps_imp h fun D σ H ⟨F, M, ρ, S, hk, sl, fl, ρ', S', e, q⟩ => by
  obtain ⟨⟨d, S1⟩, e1, e⟩ := Option.bind_eq_some_iff.mp e
  split at e
  · rename_i n x r ed hi es
    split at e
    · rename_i hx
      cases e
      have ed : d = .int n := ed
      have es : S1 = some r := es
      subst ed es hx
      refine ⟨F, M, ρ, S, hk, sl, _, _, e1, fun v H1 F1 hk1 le1 rv => ?_⟩
      cases rv
      obtain ⟨ra, _⟩ := hk1.rng r rfl
      refine ⟨_, rng_slot (r := r) hk sl hi, r.at_, _, rfl, DPut.k (k := Sum.inr "turn") ra.hat (show 4 < sizeLine by decide), ?_⟩
      exact q _ F1 M (heap_rng (r' := { r with turn := n }) hk1 rfl rfl rfl rfl rfl) le1 σ (sl.mono le1)
    · cases e
  · cases e
/-- state["great"].pop(0) -/
def mStP (i : Nat) : ME := fun ρ S => match ρ[i]?, S with
  | some (some (.imm (.rng x))), some r => if x = r.at_ then (match r.great with
    | g :: rest => some (.int g, some { r with great := rest })
    | [] => none) else none
  | _, _ => none
theorem se_stP {i : Nat} (h : PE X o (tBM G.K "list" rPopAt (tDGet (tVar i) (tC (.str "great"))) (tCons (tC (.int 0)) tNil))) : PE X o (eE G (mStP i)) := pe_imp h fun σ H Q ⟨F, M, ρ, S, hk, sl, d, S', e, q⟩ => by
  unfold mStP at e
  split at e
  · rename_i x r hi
    split at e
    · rename_i hx
      split at e
      · rename_i g rest eg
        cases e
        subst hx
        obtain ⟨ra, m1, m2, o1, o2⟩ := hk.rng r rfl
        have hne : r.at_ ≠ r.gA := ne_of ra.hat ra.hg (fun z => nomatch z)
        refine ⟨_, rng_slot (r := r) hk sl hi, r.at_, .ref r.gA, rfl, DGet.k (k := Sum.inr "great") ra.hat, .inl ⟨rfl, _, .of ra.hg⟩, r.gA, _, 0, 0, .int g, rfl, rfl, ra.hg, by decide, by decide, ?_, ?_, ?_⟩
        · rw [eg]; exact (ixN_seq (n := _) (i := 0) (j := 0) (by simp [ixN])).1
        · rw [eg]; rfl
        · refine q _ _ F ?_ (Same.refl F) (.int _)
          have he : (r.great.map V.int).eraseIdx 0 = rest.map V.int := by rw [eg]; rfl
          rw [he]
          refine ⟨fun a o e => ?_, fun a w d m => ?_, fun a o e nr => ?_, fun a e => ?_, hk.f0, hk.new, fun r2 e => ?_⟩
          · rw [upd_ne (ne_of_none e ra.fg)]; exact hk.sub _ _ e
          · obtain ⟨f1, f2, o, e, ro⟩ := hk.own _ _ _ m
            exact ⟨f1, f2, o, by rw [upd_ne (fun z => by rw [z, m2] at m; cases m)]; exact e, ro⟩
          · rw [upd_ne (fun z => by
              subst z
              rcases o2 with o2 | o2
              · exact nr o2
              · rw [o2] at e; cases e)]
            exact hk.ent _ _ e nr
          · by_cases hb : a = r.gA
            · subst hb; rw [upd_same] at e; cases e
            · rw [upd_ne hb] at e; exact hk.trk _ e
          · cases e
            exact ⟨⟨by rw [upd_ne hne]; exact ra.hat, upd_same, ra.hc, ra.hz, ra.fa, ra.fg⟩, m1, m2, o1, o2⟩
      · cases e
    · cases e
  · cases e
end
end Dv
namespace Dv
open PySem PySem.Spec
open PyProof.Rows L2

/-! ### list(zip(a, b)) -/
section
variable {prog : Program}
variable {w : World} {A : Around}
variable {E : Value → Shared → Prop} {s : Shared} {z TI TO i1 i2 : Addr} {fp1 fp2 : List Addr} {n1 n2 i : Nat} {P1 P2 : Nat → Value → Prop} {St1 St2 : Nat → Heap → Prop} {a1 a2 : Value}
theorem zipD2_item_held {T : Addr} {f : Bool} {oT : Obj} {Q : Value → Shared → Prop} (S : ZipSep2 z TI TO i1 i2 fp1 fp2) (D1 : Draws prog w A i1 fp1 n1 P1 St1) (D2 : Draws prog w A i2 fp2 n2 P2 St2)
    (hz : IsZipHeld s.heap z TI TO T f) (hT : s.heap.get? T = some oT) (hTI : IsTupOf2 s.heap TI (.ref i1) (.ref i2)) (st1 : St1 i s.heap) (st2 : St2 i s.heap) (hlt1 : i < n1) (hlt2 : i < n2)
    (hQ : ∀ x1 x2 h' tk, P1 i x1 → P2 i x2 → IsZipHeld h' z TI TO T true → St1 (i + 1) h' → St2 (i + 1) h' → IsTupOf2 h' s.heap.objs.size x1 x2 → h'.objs.size = s.heap.objs.size + 1 →
      (∀ c o, c ≠ z → c ≠ i1 → c ≠ i2 → s.heap.get? c = some o → h'.get? c = some o) → Q (.ref s.heap.objs.size) { s with heap := h', toks := tk }) :
    (wpAny (model prog w) A (Builtin.«zip.__next__» ⟨[.ref z], []⟩) (fun fin s' => ∃ v, fin = .done (.ret v) ∧ Q v s') E s) := by
  (obtain ⟨hp, g, d, tk0, os⟩ := s); show wpAny _ _ (field (.ref z) 2 >>= _) _ _ _
  (refine wpAny_bind (wpAny_field hz rfl (x := .bool false) rfl ?_)); show wpAny _ _ (field (.ref z) 3 >>= _) _ _ _
  (refine wpAny_bind (wpAny_field hz rfl (x := .ref TI) rfl ?_)); refine wpAny_bind (wpAny_seqItems hTI rfl ?_)
  (show wpAny _ _ (Builtin.SmallTypes.ownedTupleIsFree (.ref z) >>= _) _ _ _); refine wpAny_bind (wpAny_tupleHeld_zip hz hT fun g0 hz0 hs0 => ?_)
  (replace hs0 : Heap.SameBut z hp g0 := hs0); simp only [Bool.false_eq_true, if_false]
  refine wpAny_bind ?_
  rw [← Array.forIn_toList]
  (simp only [List.forIn_cons, List.forIn_nil]); refine wpAny_bind (wpAny_bind (wpAny_holding ?_))
  (show wpAny _ _ (Builtin.SmallTypes.nextOf (.ref i1) >>= _) _ _ ⟨g0, g, d, tk0, os⟩); refine wpAny_bind (D1.item i _ _ _ hlt1 (D1.over st1 hs0 S.zf1) fun x1 p1 tk1 hx1 sn1 hp1 => wpAny_pure ?_)
  (replace hp1 : Heap.SameBut i1 g0 p1 := hp1); refine wpAny_pure ?_
  (refine wpAny_bind (wpAny_bind (wpAny_holding ?_))); show wpAny _ _ (Builtin.SmallTypes.nextOf (.ref i2) >>= _) _ _ ⟨p1, g, d, tk1, os⟩
  refine wpAny_bind (D2.item i _ _ _ hlt2 (D2.over (D2.over st2 hs0 S.zf2) hp1 S.sep1_2) fun x2 p2 tk2 hx2 sn2 hp2 => wpAny_pure ?_)
  replace hp2 : Heap.SameBut i2 p1 p2 := hp2
  (refine wpAny_pure (wpAny_pure ?_)); show wpAny _ _ (newTuple [x1, x2] >>= _) _ _ _
  (refine wpAny_bind (wpAny_newTuple ?_)); have hsz : p2.objs.size = hp.objs.size := by rw [hp2.1, hp1.1, hs0.1]
  have hz₃ : IsZipHeld p2 z TI TO T true := hp2.extBut _ _ S.zi2 (hp1.extBut _ _ S.zi1 hz0)
  have hk : ∀ c o, c ≠ z → c ≠ i1 → c ≠ i2 → hp.get? c = some o → p2.get? c = some o := fun c o c1 c2 c3 e => hp2.extBut _ _ c3 (hp1.extBut _ _ c2 (hs0.extBut _ _ c1 e))
  have hj1 : St1 (i + 1) p2 := D1.over sn1 hp2 S.sep2_1
  (refine wpAny_pure ⟨_, rfl, ?_⟩); show Q (.ref p2.objs.size) ⟨p2.push { cls := .type "tuple", data := .seq #[x1, x2] }, g, d, tk2, os⟩
  have hpp : IsTupOf2 (p2.push { cls := .type "tuple", data := .seq #[x1, x2] }) p2.objs.size x1 x2 := Heap.get?_push_size _ rfl
  have hz4 : (p2.push { cls := .type "tuple", data := .seq #[x1, x2] }).objs.size = p2.objs.size + 1 := Heap.size_push ..
  rw [hsz] at hpp hz4 ⊢
  exact hQ x1 x2 _ tk2 hx1 hx2 (Heap.get?_push_of_some _ hz₃) (D1.frame _ _ _ hj1 fun b _ o e => Heap.get?_push_of_some _ e) (D2.frame _ _ _ sn2 fun b _ o e => Heap.get?_push_of_some _ e) hpp hz4 fun c o c1 c2 c3 e => Heap.get?_push_of_some _ (hk c o c1 c2 c3 e)

theorem zipD2_end_held {T : Addr} {f : Bool} {oT : Obj} {Q : Fin → Shared → Prop} (S : ZipSep2 z TI TO i1 i2 fp1 fp2) (D1 : Draws prog w A i1 fp1 n1 P1 St1) (D2 : Draws prog w A i2 fp2 n2 P2 St2)
    (hz : IsZipHeld s.heap z TI TO T f) (hT : s.heap.get? T = some oT) (hTI : IsTupOf2 s.heap TI (.ref i1) (.ref i2)) (st1 : St1 i s.heap) (st2 : St2 i s.heap) (hle1 : i ≤ n1) (hle2 : i ≤ n2) (hend : i = n1 ∨ i = n2)
    (hE : ∀ h' tk e, (∀ c o, c ≠ z → c ≠ i1 → c ≠ i2 → s.heap.get? c = some o → h'.get? c = some o) → (∃ o, h'.get? e = some o ∧ o.cls = .type "StopIteration") → E (.ref e) { s with heap := h', toks := tk }) :
    (wpAny (model prog w) A (Builtin.«zip.__next__» ⟨[.ref z], []⟩) Q E s) := by
  (obtain ⟨hp, g, d, tk0, os⟩ := s); show wpAny _ _ (field (.ref z) 2 >>= _) _ _ _
  (refine wpAny_bind (wpAny_field hz rfl (x := .bool false) rfl ?_)); show wpAny _ _ (field (.ref z) 3 >>= _) _ _ _
  (refine wpAny_bind (wpAny_field hz rfl (x := .ref TI) rfl ?_)); refine wpAny_bind (wpAny_seqItems hTI rfl ?_)
  (show wpAny _ _ (Builtin.SmallTypes.ownedTupleIsFree (.ref z) >>= _) _ _ _); refine wpAny_bind (wpAny_tupleHeld_zip hz hT fun g0 hz0 hs0 => ?_)
  (replace hs0 : Heap.SameBut z hp g0 := hs0); simp only [Bool.false_eq_true, if_false]
  refine wpAny_bind ?_
  rw [← Array.forIn_toList]
  (simp only [List.forIn_cons, List.forIn_nil]); refine wpAny_bind (wpAny_bind (wpAny_holding ?_))
  (show wpAny _ _ (Builtin.SmallTypes.nextOf (.ref i1) >>= _) _ _ ⟨g0, g, d, tk0, os⟩); by_cases hlt1 : i < n1
  · (refine wpAny_bind (D1.item i _ _ _ hlt1 (D1.over st1 hs0 S.zf1) fun x1 p1 tk1 hx1 sn1 hp1 => wpAny_pure ?_)); replace hp1 : Heap.SameBut i1 g0 p1 := hp1
    have hi2 : i = n2 := by omega
    refine wpAny_pure ?_
    (refine wpAny_bind (wpAny_bind (wpAny_holding ?_))); show wpAny _ _ (Builtin.SmallTypes.nextOf (.ref i2) >>= _) _ _ ⟨p1, g, d, tk1, os⟩
    refine wpAny_bind (D2.done ⟨p1, g, d, tk1, os⟩ _ _ (by rw [← hi2]; exact (D2.over (D2.over st2 hs0 S.zf2) hp1 S.sep1_2)) fun q e hq he => ?_)
    exact hE q tk1 e (fun c o cz c1 c2 x => hq _ _ c2 (hp1.extBut _ _ c1 (hs0.extBut _ _ cz x))) he
  · (have hi1 : i = n1 := by omega); refine wpAny_bind (D1.done ⟨g0, g, d, tk0, os⟩ _ _ (by rw [← hi1]; exact (D1.over st1 hs0 S.zf1)) fun q e hq he => ?_)
    exact hE q tk0 e (fun c o cz c1 c2 x => hq _ _ c1 (hs0.extBut _ _ cz x)) he

theorem ne_le {L b c : Addr} (h : L ≤ c) (h' : b < L) : c ≠ b := fun e => Nat.lt_irrefl c (Nat.lt_of_lt_of_le (e ▸ h') h)
/-- the zip between two items, the one before held -/
def ZSt (z TI TO i1 i2 S : Addr) (St1 St2 : Nat → Heap → Prop) (i : Nat) (h : Heap) : Prop :=
  IsTupOf2 h TI (.ref i1) (.ref i2) ∧ St1 i h ∧ St2 i h ∧ ((IsZip h z TI TO .none ∧ ∃ a1 a2, IsTupOf2 h TO a1 a2) ∨ ∃ T f oT, IsZipHeld h z TI TO T f ∧ h.get? T = some oT ∧ S < T)
theorem ZSt.keep {S : Addr} {h h' : Heap} (D1 : Draws prog w A i1 fp1 n1 P1 St1) (D2 : Draws prog w A i2 fp2 n2 P2 St2) (x : ZSt z TI TO i1 i2 S St1 St2 i h) (hS : ∀ b ∈ z :: TI :: TO :: (fp1 ++ fp2), b ≠ S)
    (k : ∀ b o, b ≠ S → h.get? b = some o → h'.get? b = some o) : ZSt z TI TO i1 i2 S St1 St2 i h' := by
  obtain ⟨t, s1, s2, r⟩ := x
  refine ⟨k _ _ (hS TI (by simp)) t, D1.frame _ _ _ s1 fun b hb o e => k b o (hS b (by simp [hb])) e, D2.frame _ _ _ s2 fun b hb o e => k b o (hS b (by simp [hb])) e, ?_⟩
  rcases r with ⟨hz, u1, u2, u⟩ | ⟨T, f, oT, hz, hT, lt⟩
  · exact .inl ⟨k _ _ (hS z (by simp)) hz, u1, u2, k _ _ (hS TO (by simp)) u⟩
  · exact .inr ⟨T, f, oT, k _ _ (hS z (by simp)) hz, k _ _ (Nat.ne_of_gt lt) hT, lt⟩
theorem zst_item {L : Addr} {Q : Option Value → Shared → Prop} (S : ZipSep2 z TI TO i1 i2 fp1 fp2) (D1 : Draws prog w A.in1 i1 fp1 n1 P1 St1) (D2 : Draws prog w A.in1 i2 fp2 n2 P2 St2) (x : ZSt z TI TO i1 i2 L St1 St2 i s.heap) (hL : L < s.heap.objs.size)
    (hl : ∀ b ∈ z :: TI :: TO :: (fp1 ++ fp2), b < L) (hlt1 : i < n1) (hlt2 : i < n2)
    (hQ : ∀ x1 x2 h' tk, P1 i x1 → P2 i x2 → ZSt z TI TO i1 i2 L St1 St2 (i + 1) h' → IsTupOf2 h' s.heap.objs.size x1 x2 → h'.objs.size = s.heap.objs.size + 1 →
      (∀ c o, L ≤ c → s.heap.get? c = some o → h'.get? c = some o) → (∀ c o, c ≠ z → c ≠ TO → c ≠ i1 → c ≠ i2 → s.heap.get? c = some o → h'.get? c = some o) → Q (some (.ref s.heap.objs.size)) { s with heap := h', toks := tk }) :
    (wpAny (model prog w) A (pyNext (.ref z)) Q E s) := by
  obtain ⟨t, s1, s2, r⟩ := x
  have lz := hl z (by simp)
  have lTO := hl TO (by simp)
  have lTI := hl TI (by simp)
  have l1 := hl i1 (by simp [S.mem1])
  have l2 := hl i2 (by simp [S.mem2])
  rcases r with ⟨hz, u1, u2, u⟩ | ⟨T, f, oT, hz, hT, lt⟩
  · refine wpAny_pyNext_zipD2_item S D1 D2 hz t u s1 s2 hlt1 hlt2 fun x1 x2 h' tk p1 p2 hz' hTO' s1' s2' ht hsz hk => ?_
    exact hQ x1 x2 h' tk p1 p2 ⟨hk _ _ S.TIz S.TITO S.TIi1 S.TIi2 t, s1', s2', .inr ⟨_, false, _, hz', ht, hL⟩⟩ ht hsz (fun c o hc e => hk c o (ne_le hc lz) (ne_le hc lTO) (ne_le hc l1) (ne_le hc l2) e) hk
  · have hTt : s.TypeIs (.ref z) "zip" := ⟨_, hz, rfl⟩
    unfold pyNext
    refine wpAny_bind (wpAny_attempt (wpAny_callSpecial?_slot (name := Str.ofString "__next__") hTt F.slot_zip_next
      (wpAny_call_entry F.slot_zip_next hTt F.entry_zip_next
        (zipD2_item_held S D1 D2 hz hT t s1 s2 hlt1 hlt2 fun x1 x2 h' tk p1 p2 hz' s1' s2' ht hsz hk => wpAny_pure ?_) (F.args_zip_next_1 _))))
    exact hQ x1 x2 h' tk p1 p2 ⟨hk _ _ S.TIz S.TIi1 S.TIi2 t, s1', s2', .inr ⟨_, true, _, hz', hk _ _ (ne_le (Nat.le_of_lt lt) lz) (ne_le (Nat.le_of_lt lt) l1) (ne_le (Nat.le_of_lt lt) l2) hT, lt⟩⟩ ht hsz (fun c o hc e => hk c o (ne_le hc lz) (ne_le hc l1) (ne_le hc l2) e) (fun c o c1 _ c2 c3 e => hk c o c1 c2 c3 e)
theorem zst_done {L : Addr} {Q : Option Value → Shared → Prop} (S : ZipSep2 z TI TO i1 i2 fp1 fp2) (D1 : Draws prog w A.in1 i1 fp1 n1 P1 St1) (D2 : Draws prog w A.in1 i2 fp2 n2 P2 St2) (x : ZSt z TI TO i1 i2 L St1 St2 i s.heap)
    (hle1 : i ≤ n1) (hle2 : i ≤ n2) (hend : i = n1 ∨ i = n2)
    (hQ : ∀ h' tk, (∀ c o, c ≠ z → c ≠ TO → c ≠ i1 → c ≠ i2 → s.heap.get? c = some o → h'.get? c = some o)
    → Q none { s with heap := h', toks := tk }) : wpAny (model prog w) A (pyNext (.ref z)) Q E s := by
  obtain ⟨t, s1, s2, r⟩ := x
  rcases r with ⟨hz, u1, u2, u⟩ | ⟨T, f, oT, hz, hT, lt⟩
  · exact wpAny_pyNext_zipD2_end S D1 D2 hz t u s1 s2 hle1 hle2 hend fun h' tk hk => hQ h' tk hk
  · have hTt : s.TypeIs (.ref z) "zip" := ⟨_, hz, rfl⟩
    unfold pyNext
    refine wpAny_bind (wpAny_attempt (wpAny_callSpecial?_slot (name := Str.ofString "__next__") hTt F.slot_zip_next
      (wpAny_call_entry F.slot_zip_next hTt F.entry_zip_next
        (zipD2_end_held S D1 D2 hz hT t s1 s2 hle1 hle2 hend fun h' tk e hk he => ?_) (F.args_zip_next_1 _))))
    obtain ⟨o, ho, hc⟩ := he
    (refine wpAny_bind (wpAny_isInstance (T := "StopIteration") (b := true) ⟨o, ho, hc⟩ isSubtype_stop ?_)); exact wpAny_pure (hQ _ _ fun c o c1 _ c2 c3 e => hk c o c1 c2 c3 e)
end

/-- the pairs given out -/
structure ZipG (xs ys : List Value) (lo : Addr) (h : Heap) (as : List Addr) : Prop where
  rise : as.Pairwise (· < ·)
  above : ∀ a ∈ as, lo < a
  pairs : ∀ (j : Nat) (a : Addr), as[j]? = some a → ∃ x y, xs[j]? = some x ∧ ys[j]? = some y ∧ IsTupOf2 h a x y
theorem ZipG.there {xs ys : List Value} {lo : Addr} {h : Heap} {as : List Addr} (g : ZipG xs ys lo h as) {a : Addr} (ha : a ∈ as) : a < h.objs.size := by
  (obtain ⟨j, hj⟩ := List.mem_iff_getElem?.mp ha); obtain ⟨_, _, _, _, e⟩ := g.pairs j a hj
  exact Heap.lt_size e
theorem ZipG.keep {xs ys : List Value} {lo : Addr} {h h' : Heap} {as : List Addr} (g : ZipG xs ys lo h as) (k : ∀ b o, lo < b → h.get? b = some o → h'.get? b = some o) : ZipG xs ys lo h' as :=
  ⟨g.rise, g.above, fun j a e => let ⟨x, y, e1, e2, e3⟩ := g.pairs j a e; ⟨x, y, e1, e2, k _ _ (g.above a (List.mem_of_getElem? e)) e3⟩⟩
section
variable {prog : Program} {w : World} {A : Around} {E : Value → Shared → Prop} {s : Shared} {R : Result → Shared → Prop} {z TI TO i1 i2 : Addr} {fp1 fp2 : List Addr} {St1 St2 : Nat → Heap → Prop} {xs ys : List Value}
abbrev Zk (z TO i1 i2 : Addr) (h h' : Heap) : Prop := ∀ b o, b ≠ z → b ≠ TO → b ≠ i1 → b ≠ i2 → h.get? b = some o → h'.get? b = some o
theorem zp_loop {L : Addr} (S : ZipSep2 z TI TO i1 i2 fp1 fp2) (D1 : Draws prog w A.in1.in1 i1 fp1 xs.length (fun i v => xs[i]? = some v) St1) (D2 : Draws prog w A.in1.in1 i2 fp2 ys.length (fun i v => ys[i]? = some v) St2)
    (hl : ∀ b ∈ z :: TI :: TO :: (fp1 ++ fp2), b < L) (hn : min xs.length ys.length ≤ sizeLine) (res : Value) {h₁ : Heap}
    (hR : ∀ h' tk acc c as, (∀ b o, b ≠ L → b ≠ z → b ≠ TO → b ≠ i1 → b ≠ i2 → h₁.get? b = some o → h'.get? b = some o) → h'.get? L = some { cls := .type "list", dict := none, data := .seq acc c, slots := #[] } → as.length = min xs.length ys.length → ZipG xs ys L h' as →
      acc.toList = as.map Value.ref
        → R (.ok (.ret res)) { s with heap := h', toks := tk }) :
    ∀ (k i : Nat) (h : Heap) (tk c : Nat) (acc : Array Value) (as : List Addr), min xs.length ys.length - i = k → i ≤ min xs.length ys.length → ZSt z TI TO i1 i2 L St1 St2 i h → (∀ b o, b ≠ L → b ≠ z → b ≠ TO → b ≠ i1 → b ≠ i2 → h₁.get? b = some o → h.get? b = some o) →
      h.get? L = some { cls := .type "list", dict := none, data := .seq acc c, slots := #[] } → acc.toList = as.map Value.ref → as.length = i → ZipG xs ys L h as →
      codeAny (model prog w) A (.builtin "list.extend.loop" ⟨[.ref L, .ref z, res], []⟩) R { s with heap := h, toks := tk } := by
  have lz := hl z (by simp)
  have lTO := hl TO (by simp)
  have l1 := hl i1 (by simp [S.mem1])
  have l2 := hl i2 (by simp [S.mem2])
  intro k
  induction k with
  | zero =>
    intro i h tk c acc as hk hi hst hkeep hS hacc hal hG
    have hin : i = min xs.length ys.length := by omega
    (refine codeAny_builtin PySem.F.entry_extend_loop ?_); rw [Around.under_plainId PySem.F.plain_extend_loop _]
    show wpAny _ A.in1 (pyNext (.ref z) >>= _) _ _ _
    refine wpAny_bind (zst_done (s := { s with heap := h, toks := tk }) (A := A.in1) (L := L) S D1 D2 hst (by omega) (by omega) (by omega) fun h' tk' he => ?_)
    refine wpAny_pure (hR h' tk' acc c as (fun b o h0 h1 h2 h3 h4 e => he b o h1 h2 h3 h4 (hkeep b o h0 h1 h2 h3 h4 e)) (he L _ (Nat.ne_of_gt lz) (Nat.ne_of_gt lTO) (Nat.ne_of_gt l1) (Nat.ne_of_gt l2) hS) (by omega) (hG.keep fun b o hb e => he b o (ne_le (Nat.le_of_lt hb) lz) (ne_le (Nat.le_of_lt hb) lTO) (ne_le (Nat.le_of_lt hb) l1) (ne_le (Nat.le_of_lt hb) l2) e) hacc)
  | succ k ih =>
    intro i h tk c acc as hk hi hst hkeep hS hacc hal hG
    have hlt : i < min xs.length ys.length := by omega
    (have hsz : acc.size = i := by rw [← Array.length_toList, hacc, List.length_map, hal]); have hLs : L < h.objs.size := Heap.lt_size hS
    (refine codeAny_builtin PySem.F.entry_extend_loop ?_); rw [Around.under_plainId PySem.F.plain_extend_loop _]
    show wpAny _ A.in1 (pyNext (.ref z) >>= _) _ _ _
    refine wpAny_bind (zst_item (s := { s with heap := h, toks := tk }) (L := L) S D1 D2 hst hLs hl (by omega) (by omega) fun x1 x2 h' tk' p1 p2 hst' ht hz hkL hkp => ?_)
    dsimp only at ht hz hkp hkL ⊢
    have hS' := hkL L _ (Nat.le_refl _) hS
    have up : ∀ b o, b ≠ L → h'.get? b = some o → (h'.update L (Obj.mapSeq (·.push (Value.ref h.objs.size)))).get? b = some o := fun b o hb e => (Heap.get?_update_other _ _ (Ne.symm hb)).trans e
    show wpAny _ A.in1 (updateSeq L (·.push (Value.ref h.objs.size)) >>= _) _ _ _
    refine wpAny_bind ?_
    refine wpAny_updateSeq hS' rfl (wpAny_pure ⟨plainId_quiet PySem.F.plain_extend_loop _, ih (i + 1) _ tk' _ (acc.push (Value.ref h.objs.size)) (as ++ [h.objs.size]) (by omega) hlt (hst'.keep D1 D2 (fun b hb => Nat.ne_of_lt (hl b hb)) up)
      (fun b o h0 h1 h2 h3 h4 e => up b o h0 (hkp b o h1 h2 h3 h4 (hkeep b o h0 h1 h2 h3 h4 e))) (Heap.get?_update_self _ hS' rfl) (by rw [Array.toList_push, hacc, List.map_append]; rfl) (by rw [List.length_append, hal]; rfl) ⟨?_, ?_, ?_⟩⟩) (by rw [hsz]; omega) (by show (acc.push (Value.ref h.objs.size)).size ≤ sizeLine + 1; rw [Array.size_push, hsz]; omega)
    · (refine List.pairwise_append.mpr ⟨hG.rise, List.pairwise_singleton _ _, fun a ha b hb => ?_⟩); rw [List.mem_singleton.mp hb]
      exact hG.there ha
    · (intro a ha); rcases List.mem_append.mp ha with ha | ha
      · exact hG.above a ha
      · rw [List.mem_singleton.mp ha]; exact hLs
    · (intro j b hj); rcases Nat.lt_trichotomy j as.length with h1 | h1 | h1
      · (rw [List.getElem?_append_left h1] at hj); obtain ⟨x, y, e1, e2, e3⟩ := hG.pairs j b hj
        (have hb := hG.above b (List.mem_of_getElem? hj)); exact ⟨x, y, e1, e2, up b _ (Nat.ne_of_gt hb) (hkL b _ (Nat.le_of_lt hb) e3)⟩
      · subst h1
        (have hb : h.objs.size = b := by simpa using hj); subst hb
        exact ⟨x1, x2, by rw [hal]; exact p1, by rw [hal]; exact p2, up _ _ (Nat.ne_of_gt hLs) ht⟩
      · (have hnone : (as ++ [h.objs.size])[j]? = none := List.getElem?_eq_none (by rw [List.length_append, List.length_singleton]; omega)); rw [hnone] at hj; cases hj
theorem zp_no_len : typeLookup (.type "zip") "__len__" = pure none := am_miss_of_fast (by decide +kernel)
theorem zp_no_hint : typeLookup (.type "zip") "__length_hint__" = pure none := am_miss_of_fast (by decide +kernel)
theorem zp_extend {L : Addr} (S : ZipSep2 z TI TO i1 i2 fp1 fp2) (D1 : Draws prog w A.in1.in1 i1 fp1 xs.length (fun i v => xs[i]? = some v) St1) (D2 : Draws prog w A.in1.in1 i2 fp2 ys.length (fun i v => ys[i]? = some v) St2)
    (hl : ∀ b ∈ z :: TI :: TO :: (fp1 ++ fp2), b < L) (hn : min xs.length ys.length ≤ sizeLine) (res : Value) (c₀ : Nat)
    (hz : IsZip s.heap z TI TO .none) (hTI : IsTupOf2 s.heap TI (.ref i1) (.ref i2)) {a1 a2 : Value} (hTO : IsTupOf2 s.heap TO a1 a2) (s1 : St1 0 s.heap) (s2 : St2 0 s.heap) (hS : s.heap.get? L = some { cls := .type "list", data := .seq #[] c₀ })
    (hR : ∀ h' tk acc c as, (∀ b o, b ≠ L → b ≠ z → b ≠ TO → b ≠ i1 → b ≠ i2 → s.heap.get? b = some o → h'.get? b = some o) → h'.get? L = some { cls := .type "list", dict := none, data := .seq acc c, slots := #[] } → as.length = min xs.length ys.length → ZipG xs ys L h' as →
      acc.toList = as.map Value.ref
        → R (.ok (.ret res)) { s with heap := h', toks := tk }) :
    wpAny (model prog w) A.in1 (Builtin.List.listExtendWith (.ref L) (.ref z) res)
      (fun fin s' =>
        match fin with | .done f => R (.ok f) s' | .again c' => c'.quiet = true ∧ codeAny (model prog w) A c' R s') (fun e s' => R (.error e) s') s := by
  have hLz : L ≠ z := Nat.ne_of_gt (hl z (by simp))
  (have hT : s.TypeIs (.ref z) "zip" := ⟨_, hz, rfl⟩); have hlS : ∀ b ∈ z :: TI :: TO :: (fp1 ++ fp2), b ≠ L := fun b hb => Nat.ne_of_lt (hl b hb)
  (unfold Builtin.List.listExtendWith); refine wpAny_bind (wpAny_typeOf hT ?_)
  have h1 : Builtin.List.listSameRef (.ref L) (.ref z) = false := by simp [Builtin.List.listSameRef, hLz]
  have h2 : (Value.type "zip" == Value.type "list") = false := by decide
  have h3 : (Value.type "zip" == Value.type "tuple") = false := by decide
  (simp only [h1, h2, h3, Bool.or_false, Bool.false_eq_true, if_false]); refine wpAny_bind (wpAny_pyIter_zip hz ?_)
  (refine wpAny_bind (wpAny_holding ?_)); unfold Builtin.List.listLengthHint
  refine wpAny_bind (wpAny_specialOf hT zp_no_len ?_)
  show wpAny _ A.in1 (specialOf (Value.ref z) (Str.ofString "__length_hint__") >>= _) _ _ _
  refine wpAny_bind (wpAny_specialOf hT zp_no_hint ?_)
  refine wpAny_pure ?_
  show wpAny _ A.in1 (rule "list.extend.makes-room" >>= fun _ => Builtin.List.listTouch (.ref L) >>= fun _ =>
    again (.builtin "list.extend.loop" ⟨[.ref L, .ref z, res], []⟩)) _ _ _
  (refine wpAny_bind (wpAny_rule ?_)); refine wpAny_bind ?_
  show wpAny _ A.in1 (updateSeq L (·.push .none) >>= fun _ => updateSeq L (·.pop)) _ _ _
  (refine wpAny_bind (wpAny_updateSeq hS rfl ?_)); have hS₂ := Heap.get?_update_self (Obj.mapSeq (·.push Value.none)) hS rfl
  (refine wpAny_updateSeq (hz := by seq_fits) hS₂ rfl ?_); have hS₃ := Heap.get?_update_self (Obj.mapSeq (·.pop)) hS₂ rfl
  have oth : ∀ b o, b ≠ L → s.heap.get? b = some o → ((s.heap.update L (Obj.mapSeq (·.push Value.none))).update L (Obj.mapSeq (·.pop))).get? b = some o :=
    fun b o hb e => (Heap.get?_update_other _ _ (Ne.symm hb)).trans
      ((Heap.get?_update_other _ _ (Ne.symm hb)).trans e)
  have st0 : ZSt z TI TO i1 i2 L St1 St2 0 s.heap := ⟨hTI, s1, s2, .inl ⟨hz, _, _, hTO⟩⟩
  refine wpAny_pure ⟨plainId_quiet PySem.F.plain_extend_loop _, zp_loop (h₁ := s.heap) (L := L) S D1 D2 hl hn res hR (min xs.length ys.length) 0 _ _ _ #[] [] (Nat.sub_zero _) (Nat.zero_le _) (st0.keep D1 D2 hlS oth) (fun b o h0 _ _ _ _ e => oth b o h0 e) hS₃ rfl rfl
    ⟨List.Pairwise.nil, (fun _ ha => nomatch ha), (fun j a hj => by simp at hj)⟩⟩
theorem zp_call {Q : Value → Shared → Prop} (S : ZipSep2 z TI TO i1 i2 fp1 fp2) (D1 : ∀ A : Around, A.handled = none → Draws prog w A i1 fp1 xs.length (fun i v => xs[i]? = some v) St1) (D2 : ∀ A : Around, A.handled = none → Draws prog w A i2 fp2 ys.length (fun i v => ys[i]? = some v) St2)
    (hh : A.handled = none) (hl : ∀ b ∈ z :: TI :: TO :: (fp1 ++ fp2), b < s.heap.objs.size) (hn : min xs.length ys.length ≤ sizeLine)
    (hz : IsZip s.heap z TI TO .none) (hTI : IsTupOf2 s.heap TI (.ref i1) (.ref i2)) {a1 a2 : Value} (hTO : IsTupOf2 s.heap TO a1 a2) (s1 : St1 0 s.heap) (s2 : St2 0 s.heap)
    (hQ : ∀ h' tk acc c as, (∀ b o, b ≠ z → b ≠ TO → b ≠ i1 → b ≠ i2 → s.heap.get? b = some o → h'.get? b = some o) → h'.get? s.heap.objs.size = some { cls := .type "list", dict := none, data := .seq acc c, slots := #[] } → as.length = min xs.length ys.length → ZipG xs ys s.heap.objs.size h' as →
      acc.toList = as.map Value.ref
        → Q (.ref s.heap.objs.size) { s with heap := h', toks := tk }) :
    wpAny (model prog w) A (call (.type "list") [.ref z]) Q E s := by
  refine callType_codes (Q₁ := fun obj s₁ =>
      obj = .ref s.heap.objs.size ∧ s₁ = { s with heap := s.heap.push { cls := .type "list", data := .seq #[] } }) PySem.F.called_list (PySem.F.typeCall_list_1 _) PySem.F.entry_list_init
    (code_list_new _ ⟨rfl, rfl⟩)
      fun obj s₁ h₁ => ?_
  obtain ⟨rfl, rfl⟩ := h₁
  (have hS : (s.heap.push { cls := .type "list", data := .seq #[] }).get? s.heap.objs.size = some { cls := .type "list", data := .seq #[] } := Heap.get?_push_size _ rfl); refine ⟨⟨_, hS, rfl⟩, PySem.F.args_list_init_2 _ _, ?_⟩
  have hsN : ∀ b o, b ≠ s.heap.objs.size → s.heap.get? b = some o → ((s.heap.push { cls := .type "list", data := .seq #[] }).update s.heap.objs.size (Obj.mapSeq (fun _ => (#[] : Array Value)))).get? b = some o := fun b o hb e =>
    (Heap.get?_update_other _ _ (Ne.symm hb)).trans (Heap.get?_push_of_some _ e)
  have ne : ∀ b ∈ z :: TI :: TO :: (fp1 ++ fp2), b ≠ s.heap.objs.size := fun b hb => Nat.ne_of_lt (hl b hb)
  show wpAny _ _ (do let old ← Builtin.List.listItems (.ref s.heap.objs.size); Builtin.List.listUpdate (.ref s.heap.objs.size) (fun _ => #[]); letGo old.toList.reverse; Builtin.List.listExtendWith (.ref s.heap.objs.size) (.ref z) .none) _ _ _
  refine wpAny_bind ?_
  unfold Builtin.List.listItems
  (refine wpAny_bind (wpAny_seqItems hS rfl (wpAny_pure ?_))); show wpAny _ _ (updateSeq s.heap.objs.size (fun _ => #[]) >>= fun _ => letGo (#[] : Array Value).toList.reverse >>= fun _ => Builtin.List.listExtendWith (.ref s.heap.objs.size) (.ref z) .none) _ _ _
  (refine wpAny_bind (wpAny_updateSeq hS rfl ?_)); have hS₂ := Heap.get?_update_self (Obj.mapSeq (fun _ => (#[] : Array Value))) hS rfl
  (refine wpAny_bind (wpAny_letGo ?_)); refine zp_extend S (D1 _ (by simp [hh])) (D2 _ (by simp [hh])) hl hn .none _ (hsN _ _ (ne z (by simp)) hz) (hsN _ _ (ne TI (by simp)) hTI) (hsN _ _ (ne TO (by simp)) hTO)
    ((D1 A hh).frame _ _ _ s1 fun b hb o e => hsN b o (ne b (by simp [hb])) e) ((D2 A hh).frame _ _ _ s2 fun b hb o e => hsN b o (ne b (by simp [hb])) e) hS₂ fun h' tk acc c as hk hS' hlen hG hacc => ?_
  exact ⟨rfl, hQ h' tk acc c as (fun b o h1 h2 h3 h4 e => hk b o (Nat.ne_of_lt (Heap.lt_size e)) h1 h2 h3 h4 (hsN b o (Nat.ne_of_lt (Heap.lt_size e)) e)) hS' hlen hG hacc⟩
end
end Dv
namespace Dv
open PySem PySem.Spec
open PyProof.Rows L2

/-! ### many new objects at once -/
def lays (H : Hp) : List (Addr × HO) → Hp
  | [] => H
  | (a, o) :: r => upd (lays H r) a o
theorem lays_in {H : Hp} : ∀ {ls : List (Addr × HO)} {b : Addr} {u : HO}, lays H ls b = some u → (b, u) ∈ ls ∨ H b = some u
  | [], _, _, h => .inr h
  | (a, o) :: r, b, u, h => by
    unfold lays at h
    by_cases hb : b = a
    · subst hb; rw [upd_same] at h; cases h; exact .inl List.mem_cons_self
    · rw [upd_ne hb] at h
      rcases lays_in h with h | h
      · exact .inl (List.mem_cons_of_mem _ h)
      · exact .inr h
theorem lays_out {H : Hp} : ∀ {ls : List (Addr × HO)} {b : Addr}, (∀ p ∈ ls, p.1 ≠ b) → lays H ls b = H b
  | [], _, _ => rfl
  | (a, o) :: r, b, h => by
    unfold lays
    rw [upd_ne (Ne.symm (h (a, o) List.mem_cons_self)), lays_out fun p hp => h p (List.mem_cons_of_mem _ hp)]
section
variable {P : Program} {w : World} {H : Hp} {h h' : Heap} {ls : List (Addr × HO)}
theorem HOk.lays (x : HOk P w H h) (k : ∀ b u, h.get? b = some u → h'.get? b = some u) (hp : ∀ p ∈ ls, h.objs.size ≤ p.1) (new : ∀ p ∈ ls, ObjOk P w (lays H ls) h' p.1 p.2) : HOk P w (lays H ls) h' := fun b u e => by
  rcases lays_in e with m | e'
  · exact new _ m
  · have hb : ∀ c u, H c = some u → Dv.lays H ls c = H c := fun c u q => lays_out fun p hm z => by
      have h1 := x.lt q
      have h2 := hp p hm
      (rw [z] at h2); exact Nat.lt_irrefl _ (Nat.lt_of_lt_of_le h1 h2)
    exact (x b u e').stay (fun c v _ q => k c v q) (fun c q => by rw [hb _ _ q]; exact q) fun c xs q => by rw [hb _ _ q]; exact q
theorem Un.lays {fs ex : List Addr} (hf : ∀ b, h.objs.size ≤ b → H b = none) (k : ∀ b u, h.get? b = some u → h'.get? b = some u) (hp : ∀ p ∈ ls, h.objs.size ≤ p.1) : Un fs ex H (lays H ls) h h' := by
  have hlt : ∀ b u, h.get? b = some u → Dv.lays H ls b = H b := fun b u q => lays_out fun p hm z => by
    have h1 := Heap.lt_size q
    have h2 := hp p hm
    (rw [z] at h2); exact Nat.lt_irrefl _ (Nat.lt_of_lt_of_le h1 h2)
  have hH : ∀ b u, H b = some u → Dv.lays H ls b = some u := fun b u q => by
    rw [lays_out fun p hm z => ?_]; exact q
    have h2 := hp p hm
    rw [z] at h2
    rw [hf _ h2] at q; cases q
  exact ⟨fun b u q _ _ _ => k b u q, fun b u q _ _ _ => ⟨u.slots, k b u q⟩, fun b u q n _ => by rw [hlt _ _ q]; exact n, fun b u q _ => ⟨u, k b u q⟩, fun b xs q => hH _ _ q, fun b u xs q => hH _ _ q, fun b ps q => ⟨#[], by rw [hH _ _ q]; simp⟩⟩
theorem Inv.lays {X : Cx} {pins : List (Addr × Obj)} {σ : L2.St} {s : Shared} {t' : Nat} (I : Inv X pins σ H s) (k : ∀ b u, s.heap.get? b = some u → h'.get? b = some u) (hp : ∀ p ∈ ls, s.heap.objs.size ≤ p.1) (new : ∀ p ∈ ls, ObjOk X.prog X.w (lays H ls) h' p.1 p.2) :
    Inv X pins σ (Dv.lays H ls) { s with heap := h', toks := t' } := I.un (Un.lays (fun b hb => I.hok.fresh hb) k hp) (HOk.lays I.hok k hp new)
end

/-! ### list(zip(a, b)) -/
def pairO (as : List Addr) (xs ys : List V) : List (Addr × HO) := as.zip (List.zipWith (fun x y => HO.tup [x, y]) xs ys)
def tListZip (K : PySem.W.Frag) (ta : TA) : TE := fun σ H Q => ta σ H fun vs H1 => ∃ k1 k2 a b xs ys, vs = [.ref a, .ref b] ∧ SqK K H1 k1 a xs ∧ SqK K H1 k2 b ys ∧ min xs.length ys.length ≤ sizeLine ∧
  ∀ (as : List Addr) (p : Addr), as.length = min xs.length ys.length → as.Nodup → p ∉ as → (∀ a ∈ as, H1 a = none) → H1 p = none → Q (.ref p) (upd (lays H1 (pairO as xs ys)) p (.lst (as.map V.ref)))
theorem vals_refs' : ∀ bs : List Addr, Vals (bs.map V.ref) (bs.map Value.ref)
  | [] => .nil
  | _ :: r => .cons rfl (vals_refs' r)
theorem pe_listzip {X : Cx} {e e2 : Expr} {ta : TA} {p p2 pos q : Pos} (hc : X.calm = true) (hg : Gl X "list") (hm : X.mg "list" = none) (hg2 : Gl X "zip") (hm2 : X.mg "zip" = none) (ha : PA X [e, e2] ta)
    (na : starEach [.Call (.Name "zip" p2) [e, e2] [] q] X.env = (false, eval (.Call (.Name "zip" p2) [e, e2] [] q) X.env) :: starEach [] X.env := by rfl)
    (hs : starEach [e, e2] X.env = (false, eval e X.env) :: starEach [e2] X.env := by rfl) (hpl : (backTo q (starEach [e2] X.env)).any (·.1) = false := by rfl) :
    PE X (.Call (.Name "list" p) [.Call (.Name "zip" p2) [e, e2] [] q] [] pos) (tListZip X.K ta) := by
  (refine ⟨fun pins s σ H Q I h => ?_⟩); refine Call_ (ld_blt I hg hm boot_list (PyProof.Rows.callWith_type1 (args_cons ?_ na) na))
  refine Call_ (ld_blt I hg2 hm2 PyProof.Rows.boot_zip (PyProof.Rows.callWith_type1 (thn (ha.run q pins s σ H _ I h) fun us s1 ⟨vs, H1, I1, r1, q1⟩ => ?_) hs hpl))
  obtain ⟨k1, k2, a, b, xs, ys, ex, hqx, hqy, hzl, q1⟩ := q1
  subst ex
  cases r1 with
  | cons r rr =>
    cases rr with
    | cons r' rr =>
      cases rr
      cases r
      cases r'
      obtain ⟨its, rv, p1⟩ := seqIs_of I1 hqx
      obtain ⟨its2, rv2, p2⟩ := seqIs_of I1 hqy
      (have la : a < s1.heap.objs.size := p1.lt); have lb : b < s1.heap.objs.size := p2.lt
      have hd := I1.ok.hd hc
      refine zip_begins2 (beginsQ k1 a its.toArray) (beginsQ k2 b its2.toArray) p1 p2 fun h' hz hTI hTO h1 h2 hsz hk => ?_
      have D := zip_sep2 (N := s1.heap.objs.size) (fp1 := [a]) (fp2 := [b]) (fun c hc => by rw [List.mem_singleton.mp hc]; exact la) (fun c hc => by rw [List.mem_singleton.mp hc]; exact lb)
      refine args_nil ?_
      have l1 : its.length = xs.length := rv.length.symm
      have l2 : its2.length = ys.length := rv2.length.symm
      have pk1 : SeqIs h' k1 a its.toArray := by
        cases k1 with
        | true => exact (show s1.heap.IsList a its.toArray from p1).at fun o e => hk _ _ e
        | false => exact (show s1.heap.IsTuple a its.toArray from p1).at fun o e => hk _ _ e
      have pk2 : SeqIs h' k2 b its2.toArray := by
        cases k2 with
        | true => exact (show s1.heap.IsList b its2.toArray from p2).at fun o e => hk _ _ e
        | false => exact (show s1.heap.IsTuple b its2.toArray from p2).at fun o e => hk _ _ e
      have na' : a ≠ s1.heap.objs.size := Nat.ne_of_lt la
      have nb' : b ≠ s1.heap.objs.size + 1 := Nat.ne_of_lt (Nat.lt_succ_of_lt lb)
      refine zp_call (s := { s1 with heap := h' }) (xs := its) (ys := its2) (St1 := fun i h => ItQ h k1 s1.heap.objs.size a i ∧ SeqIs h k1 a its.toArray) (St2 := fun i h => ItQ h k2 (s1.heap.objs.size + 1) b i ∧ SeqIs h k2 b its2.toArray) D
        (fun A hA => by have z := drawsQ (P := X.prog) (w := X.w) (A := A) hA k1 s1.heap.objs.size a na' its.toArray; simpa using z)
        (fun A hA => by have z := drawsQ (P := X.prog) (w := X.w) (A := A) hA k2 (s1.heap.objs.size + 1) b nb' its2.toArray; simpa using z)
        hd (fun c hc => ?_) (by rw [l1, l2]; exact hzl) hz hTI hTO ⟨ItQ.new h1, pk1⟩ ⟨ItQ.new h2, pk2⟩ fun h'' tk acc c as hk2 hL hlen hG hacc => ?_
      · show c < h'.objs.size
        rw [hsz]
        have e' : c = s1.heap.objs.size + 4 ∨ c = s1.heap.objs.size + 2 ∨ c = s1.heap.objs.size + 3 ∨ c = s1.heap.objs.size ∨ c = a ∨ c = s1.heap.objs.size + 1 ∨ c = b := by simpa using hc
        rcases e' with z | z | z | z | z | z | z <;> rw [z]
        · exact Nat.lt_succ_self _
        · exact Nat.add_lt_add_left (by decide) _
        · exact Nat.add_lt_add_left (by decide) _
        · exact Nat.lt_add_of_pos_right (by decide)
        · exact Nat.lt_of_lt_of_le la (Nat.le_add_right _ _)
        · exact Nat.add_lt_add_left (by decide) _
        · exact Nat.lt_of_lt_of_le lb (Nat.le_add_right _ _)
      · have hsz' : ({ s1 with heap := h' } : Shared).heap.objs.size = s1.heap.objs.size + 5 := hsz
        have keep : ∀ b o, s1.heap.get? b = some o → h''.get? b = some o := fun c o e => by
          have lc := Heap.lt_size e
          exact hk2 c o (Nat.ne_of_lt (Nat.lt_of_lt_of_le lc (Nat.le_add_right _ _))) (Nat.ne_of_lt (Nat.lt_of_lt_of_le lc (Nat.le_add_right _ _))) (Nat.ne_of_lt lc) (Nat.ne_of_lt (Nat.lt_of_lt_of_le lc (Nat.le_add_right _ _))) (hk c o e)
        have hlen' : as.length = min xs.length ys.length := by rw [hlen, l1, l2]
        have hle : s1.heap.objs.size ≤ h'.objs.size := by rw [hsz]; exact Nat.le_add_right _ _
        have habove : ∀ c ∈ as, s1.heap.objs.size ≤ c := fun c hc => Nat.le_of_lt (Nat.lt_of_le_of_lt hle (hG.above c hc))
        have hnd : as.Nodup := hG.rise.imp fun h => Nat.ne_of_lt h
        have hpn : h'.objs.size ∉ as := fun z => Nat.lt_irrefl _ (hG.above _ z)
        have mem : ∀ x ∈ pairO as xs ys, ∃ j a x1 y1, as[j]? = some a ∧ xs[j]? = some x1 ∧ ys[j]? = some y1 ∧ x = (a, HO.tup [x1, y1]) := fun x hx => by
          (obtain ⟨j, hj⟩ := List.mem_iff_getElem?.mp hx); unfold pairO at hj
          rw [List.getElem?_zip_eq_some] at hj
          obtain ⟨e1, e2⟩ := hj
          rw [List.getElem?_zipWith] at e2
          cases ex : xs[j]? with
          | none => rw [ex] at e2; cases e2
          | some x1 =>
            cases ey : ys[j]? with
            | none => rw [ex, ey] at e2; cases e2
            | some y1 =>
              rw [ex, ey] at e2
              have e3 : HO.tup [x1, y1] = x.2 := Option.some.inj e2
              exact ⟨j, x.1, x1, y1, e1, ex, ey, by rw [e3]⟩
        refine ⟨.ref h'.objs.size, _, Dv.Inv.lays (s := s1) (ls := (h'.objs.size, .lst (as.map V.ref)) :: pairO as xs ys) I1 keep (fun x hx => ?_) (fun x hx => ?_), rfl, q1 as h'.objs.size hlen' hnd hpn (fun c hc => I1.hok.fresh (habove c hc)) (I1.hok.fresh hle)⟩
        · rcases List.mem_cons.mp hx with z | z
          · rw [z]; exact hle
          · obtain ⟨j, a, x1, y1, e1, _, _, rfl⟩ := mem x z
            exact habove _ (List.mem_of_getElem? e1)
        · rcases List.mem_cons.mp hx with z | z
          · rw [z]
            exact (show ObjOk X.prog X.w _ _ _ (.lst (as.map V.ref)) from ⟨by rw [List.length_map, hlen']; exact hzl, acc.toList, c, by rw [hacc]; exact vals_refs' _, by rw [Array.toArray_toList]; exact hL⟩)
          · obtain ⟨j, a, x1, y1, e1, ex, ey, rfl⟩ := mem x z
            obtain ⟨u, v, eu, ev, et⟩ := hG.pairs j a e1
            obtain ⟨u', eu', ru⟩ := rv.get ex
            obtain ⟨v', ev', rv'⟩ := rv2.get ey
            rw [eu] at eu'; cases eu'
            rw [ev] at ev'; cases ev'
            exact (show ObjOk X.prog X.w _ _ _ (.tup [x1, y1]) from ⟨by show 2 ≤ sizeLine; decide, [u, v], .cons ru (.cons rv' .nil), (show h''.IsTuple a #[u, v] from ⟨_, et, rfl, _, rfl⟩)⟩)
section
variable {G : Gh} {X : Cx} {e a b c o : Expr} {es : List Expr} {pos p2 : Pos} {st : Stmt}
theorem HeapOk.laidPairs {H F : Hp} {M : OMap} {S : Sg} (hk : HeapOk G H F M S) : ∀ {as : List Addr} {us vs : List V} {ds es : List D}, as.length = min us.length vs.length → as.Nodup → (∀ a ∈ as, H a = none) → RepL G.K F us ds → RepL G.K F vs es →
    ∃ F', HeapOk G (lays H (pairO as us vs)) F' M S ∧ Le F F' ∧ RepL G.K F' (as.map V.ref) (List.zipWith (fun x y => D.tup [x, y]) ds es)
  | [], us, vs, ds, es, hl, _, _, r1, r2 => by
    refine ⟨F, hk, Same.refl F, ?_⟩
    cases r1 with
    | nil => exact .nil
    | cons _ _ =>
      cases r2 with
      | nil => exact .nil
      | cons _ _ => simp only [List.length_nil, List.length_cons] at hl; omega
  | a :: as, us, vs, ds, es, hl, hn, hf, r1, r2 => by
    cases r1 with
    | nil => simp at hl
    | @cons u1 _ us1 _ x1 t1 =>
      cases r2 with
      | nil => simp at hl
      | @cons u2 _ us2 _ x2 t2 =>
        obtain ⟨F', hk', le, rl⟩ := HeapOk.laidPairs hk (as := as) (by simp only [List.length_cons] at hl; omega) (List.nodup_cons.mp hn).2 (fun c hc => hf c (List.mem_cons_of_mem _ hc)) t1 t2
        have hna : lays H (pairO as us1 us2) a = none := (lays_out fun p hp z => by
          unfold pairO at hp
          have : p.1 ∈ as := (List.of_mem_zip hp).1
          rw [z] at this
          exact (List.nodup_cons.mp hn).1 this).trans (hf a List.mem_cons_self)
        have lu := le_upd (o := HO.tup [u1, u2]) (hk'.fnone hna)
        exact ⟨_, hk'.laid hna, le.trans lu, .cons (.mkTup upd_same (show 2 ≤ sizeLine by decide) (.cons (x1.mono (le.trans lu)) (.cons (x2.mono (le.trans lu)) .nil))) (rl.mono lu)⟩
def mLz (m : MA) : ME := fun ρ S => (m ρ S).bind fun p => match p.1 with
  | [x, y] => (itemsD x).bind fun xs => (itemsD y).map fun ys => (.lst (List.zipWith (fun a b => D.tup [a, b]) xs ys), p.2)
  | _ => none
theorem sf_listzip {m : MA} (hK : G.K = X.K) (h : PE X o (tListZip X.K (eA G m))) : PE X o (eF G (mLz m)) := pe_imp h fun σ H Q ⟨F, M, ρ, S, hk, sl, d, S', e, q⟩ => by
  obtain ⟨⟨d1, S1⟩, e1, e2⟩ := Option.bind_eq_some_iff.mp e
  dsimp only at e2
  split at e2
  · rename_i x y
    obtain ⟨xs, ex, e2⟩ := Option.bind_eq_some_iff.mp e2
    obtain ⟨ys, ey, e2⟩ := Option.map_eq_some_iff.mp e2
    cases e2
    refine ⟨F, M, ρ, S, hk, sl, _, _, e1, fun vs H' F' hk' le r => ?_⟩
    cases r with
    | cons r1 r =>
      cases r with
      | cons r2 r =>
        cases r
        obtain ⟨k1, a, us, rfl, s1, rl1, z1⟩ := rep_sqk hk'.sub r1 ex
        obtain ⟨k2, b, us', rfl, s2, rl2, z2⟩ := rep_sqk hk'.sub r2 ey
        have l1 := Paired.length rl1
        have l2 := Paired.length rl2
        rw [← hK]
        refine ⟨k1, k2, a, b, us, us', rfl, s1 _ hk'.sub, s2 _ hk'.sub, by omega, fun as p hlen hnd hp hfr hpf => ?_⟩
        obtain ⟨F2, hk2, le2, rl⟩ := hk'.laidPairs hlen hnd hfr rl1 rl2
        have hpn : lays H' (pairO as us us') p = none := (lays_out fun x hx z => by
          unfold pairO at hx
          have : x.1 ∈ as := (List.of_mem_zip hx).1
          rw [z] at this
          exact hp this).trans hpf
        exact q p _ _ (hk2.laidO hpn (.lst (by rw [List.length_zipWith]; omega) rl)) (hk2.mnone hpn) (le.trans le2)
  · cases e2

/-! ### len(set(t)) of a tuple of different ints -/
def tLenSetT (K : PySem.W.Frag) (ta : TE) : TE := fun σ H Q => ta σ H fun x H1 => ∃ (l : Addr) (ns : List Int), x = .ref l ∧ SqT K H1 l (ns.map V.int) ∧ ns.Nodup ∧ ns.length ≤ 1000 ∧ Q (.int (ns.length : Nat)) H1
theorem pe_lensetT {X : Cx} {a : Expr} {ta : TE} {p p2 q pos : Pos} (hg : Gl X "len") (hm : X.mg "len" = none) (hg2 : Gl X "set") (hm2 : X.mg "set" = none) (ha : PE X a ta) (hc : X.calm = true := by rfl)
    (na : starEach [a] X.env = (false, eval a X.env) :: starEach [] X.env := by rfl) : PE X (.Call (.Name "len" p) [.Call (.Name "set" p2) [a] [] q] [] pos) (tLenSetT X.K ta) := by
  (refine ⟨fun pins s σ H Q I h => ?_⟩); refine Call_ (ld_blt I hg hm boot_len ?_)
  (refine PyProof.Rows.callWith_builtin1 (PyProof.Rows.args_cons ?_ rfl) rfl rfl); refine Call_ (ld_blt I hg2 hm2 boot_set ?_)
  (refine PyProof.Rows.callWith_type1 (PyProof.Rows.args_cons (thn (ha.run pins s σ H _ I h) fun v s1 ⟨x, H1, I1, r1, q1⟩ => PyProof.Rows.args_nil ?_) na) na rfl); obtain ⟨l, ns, rfl, hq, hnd, hl, q1⟩ := q1
  cases r1
  obtain ⟨its, r, pl, hz⟩ := I1.tuple hq
  have hi : IntsAre its.toArray.toList ns := ints_of_vals r
  refine call_set_tupI ns (I1.ok.hd hc) (show s1.heap.IsTuple l its.toArray from pl) hi (by unfold scanBound; omega) fun h' tk c R1 hcn hk => PyProof.Rows.args_nil ?_
  (obtain ⟨o, es, ep, t, ho, hex, hdt, g, nd, hm2, hb, hf, hn, hr, hl2⟩ := R1); have hcc : c = ns.length := by
    have hp : (es.toList.map keyOf).Perm ns := (List.perm_ext_iff_of_nodup nd hnd).mpr fun k => by rw [← hm2 k, decide_eq_true_eq]
    have := hp.length_eq
    rw [List.length_map, Array.length_toList, hn] at this
    exact this
  (have I2 : Inv X pins σ H1 { s1 with heap := h', toks := tk } := I1.kept hk); exact call_len_set ho hex hdt hf (by rw [hn] <;> omega) ⟨.int ns.length, H1, I2.tok _, ⟨_, by rw [hn, hcc]⟩, q1⟩
theorem intsD_map : ∀ {ds : List D} {ns : List Int}, intsD ds = some ns → ds = ns.map D.int
  | [], ns, h => by cases h; rfl
  | d :: r, ns, h => by
    cases d with
    | int i =>
      obtain ⟨m, h1, h2⟩ := Option.map_eq_some_iff.mp h
      subst h2
      rw [intsD_map h1]; rfl
    | _ => cases h
theorem intsD_of (ns : List Int) : intsD (ns.map D.int) = some ns := by
  induction ns with
  | nil => rfl
  | cons n r ih => show (intsD (r.map D.int)).map (n :: ·) = _; rw [ih]; rfl
theorem repl_ints {K : PySem.W.Frag} {F : Hp} : ∀ {ns : List Int} {vs : List V}, RepL K F vs (ns.map D.int) → vs = ns.map V.int
  | [], _, .nil => rfl
  | n :: r, _, .cons h t => by cases h; rw [repl_ints t]; rfl
def lenSetD (d : D) : Option D := d.asT.bind fun ds => (intsD ds).bind fun ns => if ns.Nodup ∧ ns.length ≤ 1000 then some (.int (ns.length : Nat)) else none
theorem se_lenset {m : ME} (hK : G.K = X.K) (h : PE X o (tLenSetT X.K (eB G m))) : PE X o (eE G (mOp1 lenSetD m)) := pe_imp h fun σ H Q ⟨F, M, ρ, S, hk, sl, d, S', e, q⟩ => by
  obtain ⟨d1, e1, e2⟩ := mOp1_some e
  refine ⟨F, M, ρ, S, hk, sl, d1, S', e1, fun v H' F' hk' le r => ?_⟩
  obtain ⟨ds, e3, e2⟩ := Option.bind_eq_some_iff.mp e2
  obtain ⟨ns, e4, e2⟩ := Option.bind_eq_some_iff.mp e2
  split at e2
  · rename_i hc
    cases e2
    obtain ⟨a, vs, rfl, hq, rl⟩ := BRep.untup hk' e3 r
    rw [intsD_map e4] at rl
    rw [repl_ints rl, hK] at hq
    exact ⟨a, ns, rfl, hq, hc.1, hc.2, q _ _ _ hk' le (.int _)⟩
  · cases e2
end
end Dv
namespace Dv
open PySem PySem.Spec
open PyProof.Rows L2

/-! ### sorted(d), d a dict whose keys are pairs of ints -/
theorem isPair_inj {h : Heap} {v : Value} {x y x' y' : Int} (a : Srt.IsPair h v x y) (b : Srt.IsPair h v x' y') : (x, y) = (x', y') := by
  obtain ⟨a1, o1, t1, u1, n1, e1, h1, c1, d1⟩ := a
  obtain ⟨a2, o2, t2, u2, n2, e2, h2, c2, d2⟩ := b
  rw [e1] at e2; cases e2
  rw [h1] at h2; cases h2
  rw [d1] at d2
  simp at d2
  rw [d2.1.1.1, d2.1.2.1]
open Classical in
noncomputable def pairAt (h : Heap) (v : Value) : Int × Int := if e : ∃ p : Int × Int, Srt.IsPair h v p.1 p.2 then Classical.choose e else (0, 0)
theorem pairAt_is {h : Heap} {v : Value} {p : Int × Int} (e : Srt.IsPair h v p.1 p.2) : pairAt h v = p := by
  have e' : ∃ p : Int × Int, Srt.IsPair h v p.1 p.2 := ⟨p, e⟩
  unfold pairAt
  rw [dif_pos e']
  exact isPair_inj (Classical.choose_spec e') e
def aOf : Value → Addr
  | .ref a => a
  | _ => 0
theorem call_sortedDT {X : Cx} (hcalm : X.calm = true) : CallR X (.builtin "sorted") (fun xs H Q => ∃ (d : Addr) (kvs : List (List Key × V)) (ps : List (Int × Int)), xs = [V.ref d] ∧ Rd H d (.dT kvs) ∧ kvs.map (·.1) = (ps.map fun p => [Sum.inl p.1, Sum.inl p.2]) ∧ kvs.length ≤ sizeLine ∧
    ∀ (qs : List (Int × Int)) (bs : List Addr) (p : Addr), qs.Perm ps → qs.Pairwise (fun x y => SrtO.lexB y x = false) → bs.length = qs.length → (∀ (j : Nat) b q, bs[j]? = some b → qs[j]? = some q → H b = some (.tup [.int q.1, .int q.2])) → H p = none → Q (.ref p) (upd H p (.lst (bs.map V.ref)))) := by
  (intro pins s σ H xs us Q I r h); obtain ⟨d, kvs, ps, rfl, hd, hks, hzl, q⟩ := h
  obtain ⟨u, rfl, rx⟩ := r.one
  cases rx
  (obtain ⟨z, hs, ks, pr, o, es, ep, ho, hx, hdt, he, hn⟩ := (show ObjOk X.prog X.w H s.heap d (.dT kvs) from hd.ok I.hok)); have l1 : es.size = ks.length := size_of_entries he
  (have l2 : kvs.length = ks.length := Paired.length pr); have l3 : ps.length = ks.length := by
    have e := congrArg List.length hks
    (rw [List.length_map, List.length_map] at e); omega
  (refine Calls.call_function_entry PyProof.Rows.kind_sorted PyProof.Rows.plain_sorted PyProof.Rows.entry_sorted (PyProof.Rows.args_sorted1 _) ?_); unfold Builtin.«sorted»
  ((refine wpAny_bind (m := checkCount "sorted" 1 1 _) (wpAny_pure ?_)); refine wpAny_bind (PySem.W.kdu_collect (A := X.A.in1) (kdl_raw hs hx hdt) (I.ok.hd hcalm) ho (by omega) fun h' tk acc' kp it => ?_)); have ea : acc'.toList = ks.map fun x => Value.ref x.2.1 := by
    (have hl : acc'.toList.length = ks.length := by rw [Array.length_toList, it.1]; exact l1); apply List.ext_getElem?
    intro j
    (rw [List.getElem?_map]); cases hj : acc'.toList[j]? with
    | none =>
      (have h1 := List.getElem?_eq_none_iff.mp hj); rw [List.getElem?_eq_none (by omega)]
      all_goals rfl
    | some v =>
      (obtain ⟨en, hen, hv⟩ := it.2 j v (by rw [← Array.getElem?_toList]; exact hj)); have qe := entry_at he j
      rw [hen] at qe
      cases hb : ks[j]? with
      | none =>
        (rw [hb] at qe); exact nomatch (show some en = none from qe)
      | some b =>
        rw [hb] at qe
        (have e2 : en = entryOfKey (tupleKind (mixKind X.prog X.w)) b := Option.some.inj qe); rw [hv, e2]
        all_goals rfl
  have I1 : Inv X pins σ H { s with heap := h', toks := tk } := I.kept kp
  -- what stands at each key
  have at_ : ∀ (j : Nat) (v : Value) (p : Int × Int), acc'.toList[j]? = some v → ps[j]? = some p → ∃ b, v = .ref b ∧ H b = some (.tup [.int p.1, .int p.2]) ∧ Srt.IsPair h' v p.1 p.2 := fun j v p e1 e2 => by
    rw [ea, List.getElem?_map] at e1
    obtain ⟨x, ex, e1⟩ := Option.map_eq_some_iff.mp e1
    obtain ⟨kv, ekv, rk⟩ := paired_get' pr ex
    have ek : (kvs.map (·.1))[j]? = some kv.1 := by rw [List.getElem?_map, ekv]; rfl
    rw [hks, List.getElem?_map, e2] at ek
    have ek : [Sum.inl p.1, Sum.inl p.2] = kv.1 := Option.some.inj ek
    have hb : H x.2.1 = some (.tup [.int p.1, .int p.2]) := by rw [rk.2.1, ← ek]; rfl
    refine ⟨x.2.1, e1.symm, hb, ?_⟩
    obtain ⟨its, rv, ⟨ob, hob, hc, n, hdd⟩, _⟩ := I1.tuple (SqT.of hb)
    cases rv with
    | cons r1 rv =>
      cases rv with
      | cons r2 rv =>
        cases rv
        obtain ⟨t, rfl⟩ := r1
        obtain ⟨u, rfl⟩ := r2
        exact ⟨x.2.1, ob, t, u, n, e1.symm, hob, hc, hdd⟩
  have hla : acc'.toList.length = ps.length := by rw [Array.length_toList, it.1]; omega
  have hkey : acc'.toList.map (pairAt h') = ps := by
    apply List.ext_getElem?
    intro j
    (rw [List.getElem?_map]); cases hj : acc'.toList[j]? with
    | none => rw [List.getElem?_eq_none (by have := List.getElem?_eq_none_iff.mp hj; omega)]; rfl
    | some v =>
      have hjl := (List.getElem?_eq_some_iff.mp hj).1
      have e2 : ps[j]? = some (ps[j]'(by omega)) := List.getElem?_eq_getElem _
      obtain ⟨b, _, _, hp⟩ := at_ j v _ hj e2
      rw [e2]
      show some (pairAt h' v) = _
      rw [pairAt_is hp]
  have hall : ∀ v ∈ acc'.toList, ∃ (b : Addr) (p : Int × Int), v = .ref b ∧ H b = some (.tup [.int p.1, .int p.2]) ∧ Srt.IsPair h' v p.1 p.2 := fun v hv => by
    obtain ⟨j, hj⟩ := List.mem_iff_getElem?.mp hv
    have hjl := (List.getElem?_eq_some_iff.mp hj).1
    obtain ⟨b, e⟩ := at_ j v _ hj (List.getElem?_eq_getElem (by omega : j < ps.length))
    exact ⟨b, ps[j], e⟩
  have hpair : ∀ v ∈ acc'.toList, Srt.IsPair h' v (pairAt h' v).1 (pairAt h' v).2 := fun v hv => by
    obtain ⟨b, p, _, _, hp⟩ := hall v hv
    rw [pairAt_is hp]; exact hp
  refine wpAny_bind (wpAny_newList ?_ (by rw [hla]; omega))
  have hoL : (h'.push (seqObj "list" acc'.toList.toArray 0)).get? h'.objs.size = some (seqObj "list" acc'.toList.toArray 0) := Heap.get?_push_size _ rfl
  have hpair' : ∀ v ∈ acc'.toList, Srt.IsPair (h'.push (seqObj "list" acc'.toList.toArray 0)) v (pairAt h' v).1 (pairAt h' v).2 := fun v hv => (hpair v hv).keeps fun b o e _ => Heap.get?_push_of_some _ e
  (show wpAny _ _ _ _ _ { s with heap := h'.push (seqObj "list" acc'.toList.toArray 0), toks := tk }); refine wpAny_bind (wpAny_holding (wpAny_call_entry PyProof.Rows.slot_list_sort ⟨_, hoL, rfl⟩ PyProof.Rows.entry_list_sort
    (SrtO.list_sort_ord (s := { s with heap := h'.push (seqObj "list" acc'.toList.toArray 0), toks := tk }) (SrtO.swo_lex (pairAt h')) hoL (by rw [hla]; omega) (fun h2 => SrtO.pairs_sortableO (by omega) hpair' fun o e => by rw [hoL] at e; cases e; intro c; exact absurd (Value.type.inj c) (by decide)) fun out hs hb => ⟨_, rfl, ?_⟩) (PyProof.Rows.args_list_sort _)))
  obtain ⟨e', he'⟩ := PyProof.Rows.sortedHeap_at (vs := acc'.toList) (out := out.toArray) hoL
  have hmem : ∀ v ∈ out, v ∈ acc'.toList := fun v hv => hb.perm.mem_iff.mp hv
  have hout : out = (out.map aOf).map Value.ref := by
    rw [List.map_map]
    conv => lhs; rw [← List.map_id out]
    apply List.map_congr_left
    intro v hv
    obtain ⟨b, p, rfl, _⟩ := hall v (hmem v hv)
    rfl
  have rv : Vals ((out.map aOf).map V.ref) out := by
    have z := vals_refs' (out.map aOf)
    rw [← hout] at z; exact z
  have hlo : out.length = acc'.toList.length := hb.perm.length_eq
  refine wpAny_pure ⟨_, rfl, .ref h'.objs.size, upd H h'.objs.size (.lst ((out.map aOf).map V.ref)), I1.laid (t' := tk) (fun b u e => ?_) (Nat.le_refl _)
    (show ObjOk X.prog X.w _ _ _ (.lst ((out.map aOf).map V.ref)) from ⟨by rw [List.length_map, List.length_map, hlo, hla]; omega, out, e', rv, he'⟩), rfl,
      q (out.map (pairAt h')) (out.map aOf) _ (by have z := hb.perm.map (pairAt h'); rw [hkey] at z; exact z) (List.pairwise_map.mpr hs) (by rw [List.length_map, List.length_map]) (fun j b p e1 e2 => ?_) (I1.hok.fresh (Nat.le_refl _))⟩
  · have hbl : b < h'.objs.size := Heap.lt_size e
    (rw [PyProof.Rows.sortedHeap_old (Nat.ne_of_lt hbl) (by rw [size_push']; exact Nat.lt_succ_of_lt hbl)]); exact Heap.get?_push_of_some _ e
  · rw [List.getElem?_map] at e1 e2
    obtain ⟨v, hv, rfl⟩ := Option.map_eq_some_iff.mp e1
    rw [hv] at e2
    have e2 : pairAt h' v = p := Option.some.inj e2
    obtain ⟨b, p', rfl, hH, hp⟩ := hall v (hmem v (List.mem_of_getElem? hv))
    rw [pairAt_is hp] at e2
    subst e2
    exact hH

def keyPs : List (List Key × D) → Option (List (Int × Int))
  | [] => some []
  | ([.inl i, .inl j], _) :: r => (keyPs r).map ((i, j) :: ·)
  | _ => none
theorem keyPs_map : ∀ {l : List (List Key × D)} {ps : List (Int × Int)}, keyPs l = some ps → l.map (·.1) = ps.map fun p => [Sum.inl p.1, Sum.inl p.2]
  | [], _, h => by cases h; rfl
  | (k, d) :: r, ps, h => by
    unfold keyPs at h
    split at h
    · rename_i e; cases e
    · rename_i i j _ _ e
      cases e
      obtain ⟨qs, h1, rfl⟩ := Option.map_eq_some_iff.mp h
      show _ :: _ = _ :: _
      rw [keyPs_map h1]
    · cases h
def lexLe (p q : Int × Int) : Bool := !SrtO.lexB q p
theorem lexLe_iff {p q : Int × Int} : lexLe p q = true ↔ ¬ (q.1 < p.1 ∨ (q.1 = p.1 ∧ q.2 < p.2)) := by
  unfold lexLe
  rw [← SrtO.lexB_iff]
  simp
def sortPs (ps : List (Int × Int)) : List (Int × Int) := ps.mergeSort lexLe
theorem sortPs_perm (ps : List (Int × Int)) : (sortPs ps).Perm ps := List.mergeSort_perm _ _
theorem sortPs_eq {qs ps : List (Int × Int)} (h : qs.Perm ps) (s : qs.Pairwise fun x y => SrtO.lexB y x = false) : qs = sortPs ps := by
  refine List.Perm.eq_of_pairwise (le := fun x y => lexLe x y = true) (fun a b _ _ h1 h2 => ?_) (s.imp fun {a b} e => by unfold lexLe; rw [e]; rfl) ?_ (h.trans (sortPs_perm ps).symm)
  · have h1 := lexLe_iff.mp h1
    have h2 := lexLe_iff.mp h2
    have e1 : a.1 = b.1 := by omega
    have e2 : a.2 = b.2 := by omega
    exact Prod.ext e1 e2
  · refine List.pairwise_mergeSort (fun a b c h1 h2 => ?_) (fun a b => ?_) ps
    · have h1 := lexLe_iff.mp h1
      have h2 := lexLe_iff.mp h2
      exact lexLe_iff.mpr (by omega)
    · rw [Bool.or_eq_true]
      by_cases e : lexLe a b = true
      · exact .inl e
      · refine .inr (lexLe_iff.mpr ?_)
        rw [lexLe_iff] at e
        omega
section
variable {G : Gh}
theorem HeapOk.adopts {H : Hp} {M : OMap} {S : Sg} : ∀ {bs : List Addr} {qs : List (Int × Int)} {F : Hp}, HeapOk G H F M S → bs.length = qs.length → (∀ (j : Nat) b q, bs[j]? = some b → qs[j]? = some q → H b = some (.tup [.int q.1, .int q.2])) →
    ∃ F', HeapOk G H F' M S ∧ Le F F' ∧ RepL G.K F' (bs.map V.ref) (qs.map fun q => D.tup [.int q.1, .int q.2])
  | [], [], F, hk, _, _ => ⟨F, hk, Same.refl F, .nil⟩
  | [], _ :: _, _, _, h, _ => by simp at h
  | _ :: _, [], _, _, h, _ => by simp at h
  | b :: bs, q :: qs, F, hk, hl, h => by
    obtain ⟨F1, hk1, le1, rl⟩ := HeapOk.adopts (bs := bs) (qs := qs) hk (by simpa using hl) fun j c r e1 e2 => h (j + 1) c r (by simpa using e1) (by simpa using e2)
    obtain ⟨hk2, le2⟩ := hk1.adopt (h 0 b q rfl rfl)
    exact ⟨_, hk2, le1.trans le2, .cons (.mkTup upd_same (show 2 ≤ sizeLine by decide) (.cons (.int _) (.cons (.int _) .nil))) (rl.mono le2)⟩
/-- sorted(d), d's keys pairs of ints -/
def sortDT : List D → Option D
  | [.dT kvs] => (keyPs kvs).bind fun ps => if kvs.length ≤ 1000000 then some (.lst ((sortPs ps).map fun q => .tup [.int q.1, .int q.2])) else none
  | _ => none
theorem c_sortDT : CBF G (fun xs H Q => ∃ (d : Addr) (kvs : List (List Key × V)) (ps : List (Int × Int)), xs = [V.ref d] ∧ Rd H d (.dT kvs) ∧ kvs.map (·.1) = (ps.map fun p => [Sum.inl p.1, Sum.inl p.2]) ∧ kvs.length ≤ sizeLine ∧
    ∀ (qs : List (Int × Int)) (bs : List Addr) (p : Addr), qs.Perm ps → qs.Pairwise (fun x y => SrtO.lexB y x = false) → bs.length = qs.length → (∀ (j : Nat) b q, bs[j]? = some b → qs[j]? = some q → H b = some (.tup [.int q.1, .int q.2])) → H p = none → Q (.ref p) (upd H p (.lst (bs.map V.ref)))) sortDT := fun vs ds d H F M S Q hk rl e q => by
  unfold sortDT at e
  split at e
  · rename_i kvs
    obtain ⟨ps, e1, e⟩ := Option.bind_eq_some_iff.mp e
    split at e
    · rename_i hz
      cases e
      obtain ⟨v, rfl, r⟩ := brl1 rl
      obtain ⟨a, us, rfl, hq, rp⟩ := r.undT hk
      have hkeys := (RepP.keys rp).trans (keyPs_map e1)
      have hul : us.length = kvs.length := Paired.length rp
      have hpl : ps.length = kvs.length := by have := congrArg List.length (keyPs_map e1); simpa using this.symm
      refine ⟨a, us, ps, rfl, Rd.of hq, hkeys, by rw [hul, sizeLine_eq]; omega, fun qs bs p hp hs hl hb hpn => ?_⟩
      obtain ⟨F1, hk1, le1, rl⟩ := hk.adopts hl hb
      have eq := sortPs_eq hp hs
      rw [← eq] at q
      refine q p _ _ (hk1.laidO hpn (.lst (by rw [List.length_map, hp.length_eq, hpl, sizeLine_eq]; omega) rl)) (hk1.mnone hpn) le1
    · cases e
  · cases e
end

end Dv
namespace Dv
open PySem PySem.Spec
open PyProof.Rows L2

/-! ### calls with keywords alone -/
/-- the values in the parameters' order: ix tells of each parameter which keyword it is -/
def pick {α : Type} (ix : List Nat) (l : List α) : List α := if l.length = ix.length then ix.filterMap (l[·]?) else []
def only0 {α : Type} (f : List α → List α) : List α → List α → List α
  | [], ws => f ws
  | _ :: _, _ => []
theorem paired_pick {α β : Type} {R : α → β → Prop} {xs : List α} {ys : List β} (ix : List Nat) (h : Paired R xs ys) : Paired R (pick ix xs) (pick ix ys) := by
  have hl := Paired.length h
  unfold pick
  rw [hl]
  split
  · clear hl; rename_i hxx; clear hxx
    induction ix with
    | nil => exact .nil
    | cons i r ih =>
      rw [List.filterMap_cons, List.filterMap_cons]
      cases e : xs[i]? with
      | none =>
        have e' : ys[i]? = none := List.getElem?_eq_none (by rw [← Paired.length h]; exact List.getElem?_eq_none_iff.mp e)
        rw [e']; exact ih
      | some x =>
        obtain ⟨y, e', r⟩ := paired_get'' h e
        rw [e']; exact .cons r ih
  · exact .nil
theorem vals_pick {xs : List V} {us : List Value} (ix : List Nat) (h : Vals xs us) : Vals (pick ix xs) (pick ix us) := paired_pick ix h
/-- a def that is called with keywords alone -/
structure CalK (P : Program) (w : World) (K : PySem.W.Frag) (mg : Str → Option Value) (base : Heap) (k : Nat) (x : Str) (sp : Sp) (ks : List Str) (ix : List Nat) : Prop where
  ex : ∃ (f : Addr) (fd : FuncData) (ps : List Str), FnOk P w K mg base CX0 k f fd ps sp ∧ mg x = some (.ref f) ∧ PySem.W.keepIn K (.ref f) = true ∧ KBinds K fd ps ks (only0 (pick ix)) (only0 (pick ix))
theorem fun_kbinds {K : PySem.W.Frag} {x qual : Str} {st : Stmt} {f : Addr} {fd : FuncData} {ps ks : List Str} {ix : List Nat} (F : Fun K x qual st f fd) (h0 : ps ≠ []) (hk : ks.length = ix.length)
    (h : ∀ (kV doc pm : Value) (an : Option Addr) (cdv ct : Value) (ws : List Value), ws.length = ks.length → bindArgs (PySem.W.fnOf x qual (defArgs st) (defBody st) (defScope st) .none kV doc pm an cdv ct) ⟨[], ks.zip ws⟩ = pure (ps.zip (pick ix ws))) :
    KBinds K fd ps ks (only0 (pick ix)) (only0 (pick ix)) := by
  (obtain ⟨oc, od, kV, doc, pm, an, cdv, ct, osl, rfl, lk, hcd⟩ := F.ex); refine ⟨fun s us ws hi hl => ?_, fun {vs us zs ws} r1 r2 => ?_⟩
  · cases us with
    | cons a r =>
      have e : (0 : Nat) = ps.length := hl
      exact absurd (List.eq_nil_of_length_eq_zero e.symm) h0
    | nil =>
      have hl : (pick ix ws).length = ps.length := hl
      refine BindsTo.of_eq (h kV doc pm an cdv ct ws ?_)
      unfold pick at hl
      split at hl
      · rename_i e; rw [hk, e]
      · exact absurd (List.eq_nil_of_length_eq_zero hl.symm) h0
  · cases r1 with
    | nil => exact vals_pick ix r2
    | cons _ _ => exact .nil
def tCallK0 (sp : Sp) (ix : List Nat) (E : XK) (tk : TA) : TE := fun σ H Q => tk σ H fun zs H2 => sp (pick ix zs) H2 Q E
theorem pe_ck {X : Cx} {k j : Nat} {x : Str} {sp : Sp} {ks : List Str} {ix : List Nat} {p pos : Pos} {kws : List Keyword} {tk : TA} (c : CalK X.prog X.w X.K X.mg X.base k x sp ks ix) (hr : Room j X.A) (hkj : k ≤ j) (hg : Gl X x)
    (hkw : PK X kws tk) (hall : (backToKw pos (keywordEach kws X.env)).all (·.1.isSome) = true := by rfl) (hks : (backToKw pos (keywordEach kws X.env)).filterMap (·.1) = ks := by rfl)
    (hpl : ((backTo pos (starEach [] X.env)).any (·.1) || (backToKw pos (keywordEach kws X.env)).any (·.1.isNone)) = false := by rfl) (hdb : (x == ("__debug__" : Str)) = false := by decide) :
    PE X (.Call (.Name x p) [] kws pos) (tCallK0 sp ix E0 tk) := by
  obtain ⟨f, fd, ps, F, hm, kp, hb⟩ := c.ex
  refine ⟨fun pins s σ H Q I h => wpAny_Call_Name_kw (ld_glob I hg hm ?_ hdb)⟩
  refine PySem.W.callWith_KW0 (h₀ := X.base) I.ok.mod.kin kp hall (thn (hkw.run pos pins s σ H _ I h) fun ws s2 ⟨zs, H2, I2, rz, q2⟩ => ⟨I2.kIn, ?_⟩) hpl
  rw [hks]
  exact run_fnk (us := []) (vs := []) F (hr.mono hkj) hb pass0 I2 .nil rz q2
section
variable {G : Gh} {X : Cx} {e a b c o : Expr} {es : List Expr} {pos p2 : Pos} {st : Stmt} {kws : List Keyword} {nm : Option Str}
theorem pk_imp {t t' : TA} (h : PK X kws t) (i : ∀ σ H Q, t' σ H Q → t σ H Q) : PK X kws t' := ⟨fun pos pins s σ H Q I q => h.run pos pins s σ H Q I (i _ _ _ q)⟩
theorem sk_nil : PK X [] (eA G (mPure [])) := pk_imp pk_nil fun σ H Q ⟨F, M, ρ, S, hk, sl, d, S', e, q⟩ => by cases e; exact q [] H F hk (Same.refl F) .nil
theorem sk_cons {m : ME} {n : MA} (ha : PE X e (eE G m)) (hr : PK X kws (eA G n)) : PK X (⟨nm, e, p2⟩ :: kws) (eA G (mCons m n)) := pk_imp (pk_cons ha hr) fun σ H Q ⟨F, M, ρ, S, hk, sl, ds, S', e, q⟩ => by
  obtain ⟨d, S1, r, e1, e2, rfl⟩ := mCons_some e
  exact ⟨F, M, ρ, S, hk, sl, d, S1, e1, fun v H1 F1 hk1 le1 r1 => ⟨F1, M, ρ, S1, hk1, sl.mono le1, r, S', e2, fun vs H2 F2 hk2 le2 r2 => q _ H2 F2 hk2 (le1.trans le2) (.cons (r1.mono le2) r2)⟩⟩
def mCallK0 (f : List D → Option D) (ix : List Nat) (m : MA) : ME := fun ρ S => (m ρ S).bind fun p => (f (pick ix p.1)).map fun d => (d, p.2)
theorem se_callK0 {f : List D → Option D} {ix : List Nat} {m : MA} {E : XK} (h : PE X o (tCallK0 (spP G.K f) ix E (eA G m))) : PE X o (eE G (mCallK0 f ix m)) := pe_imp h fun σ H Q ⟨F, M, ρ, S, hk, sl, d, S', e, q⟩ => by
  obtain ⟨⟨ds, S1⟩, e1, e⟩ := Option.bind_eq_some_iff.mp e
  obtain ⟨d', e2, e⟩ := Option.map_eq_some_iff.mp e
  cases e
  exact ⟨F, M, ρ, S, hk, sl, ds, _, e1, fun vs H1 F1 hk1 le1 rl => ⟨F1, _, d, hk1.sub, paired_pick ix rl, e2, fun v H' F' sm tr le sub nw r => q v H' F' (heap_called hk1 sm tr le sub nw) (le1.trans le) r⟩⟩

/-! ### the draws begin -/
def mScr (i : Nat) : MA := fun ρ S => (mVar i ρ S).bind fun p => match p.1 with | .scr ns => if ns.length ≤ sizeLine then some (ns.map D.int, p.2) else none | _ => none
theorem si_scr' {tg : Expr} {i : Nat} (hK : G.K = X.K) (h : PE X e (eE G (mVar i))) : PI X tg e (iI G (mScr i)) := si_scr hK h
end
def iabs (i : Int) : Int := if i < 0 then -i else i
def bigOf (ns : List Int) : List Int := (ns.filter fun z => decide ((1000000000000000000 : Int) ≤ iabs z)).map fun z => iabs z - 1000000000000000000
def absOf (ns : List Int) : List Int := ns.map iabs
def mAbs : ME := mCall absD (mCons (mVarB 2) (mPure []))
def mTen : ME := mOp2 powD (mPure (.int 10)) (mPure (.int 18))
def mBig : ME := mLc (mScr 0) [2] (gNm 2) (mTst (mOp2 geD mAbs mTen)) (mOp2 subD mAbs mTen)
def mCel : ME := mLc (mScr 0) [2] (gNm 2) (mPure true) mAbs
theorem mAbs_at {ρ : Lo} {z : Int} {S : Sg} (h : ρ[2]? = some (some (.imm (.int z)))) : mAbs ρ S = some (.int (iabs z), S) := by
  simp [mAbs, mCall, mCons, mVarB, mPure, h, absD, iabs]
theorem mTen_at {ρ : Lo} {S : Sg} : mTen ρ S = some (.int 1000000000000000000, S) := by
  have : powD (.int 10) (.int 18) = some (.int 1000000000000000000) := by simp [powD, liftI2]
  simp [mTen, mOp2, mPure, this]
theorem lc_big {ρ : Lo} {S : Sg} (h : 2 < ρ.length) : ∀ ns : List Int, lcGo ρ (gNm 2) (mTst (mOp2 geD mAbs mTen)) (mOp2 subD mAbs mTen) (ns.map D.int) S = some ((bigOf ns).map D.int, S)
  | [] => rfl
  | z :: r => by
    have h2 : (ρ.set 2 (some (.imm (.int z))))[2]? = some (some (.imm (.int z))) := List.getElem?_set_self h
    have et : mTst (mOp2 geD mAbs mTen) (ρ.set 2 (some (.imm (.int z)))) S = some (decide ((1000000000000000000 : Int) ≤ iabs z), S) := by
      simp [mTst, mOp2, mAbs_at h2, mTen_at, geD, liftI2, asB]
    have em : mOp2 subD mAbs mTen (ρ.set 2 (some (.imm (.int z)))) S = some (.int (iabs z - 1000000000000000000), S) := by
      simp [mOp2, mAbs_at h2, mTen_at, subD, liftI2]
    show Option.bind (gNm 2 (.int z) ρ) _ = _
    simp only [gNm, Option.bind_some, et, em, lc_big h r, Option.map_some]
    by_cases hz : (1000000000000000000 : Int) ≤ iabs z
    · simp [bigOf, hz]
    · simp [bigOf, hz]
theorem lc_cel {ρ : Lo} {S : Sg} (h : 2 < ρ.length) : ∀ ns : List Int, lcGo ρ (gNm 2) (mPure true) mAbs (ns.map D.int) S = some ((absOf ns).map D.int, S)
  | [] => rfl
  | z :: r => by
    have h2 : (ρ.set 2 (some (.imm (.int z))))[2]? = some (some (.imm (.int z))) := List.getElem?_set_self h
    show Option.bind (gNm 2 (.int z) ρ) _ = _
    simp only [gNm, Option.bind_some, mAbs_at h2, lc_cel h r, Option.map_some, mPure, if_true]
    simp [absOf]
theorem repl_ints' {K : PySem.W.Frag} {F : Hp} {ns : List Int} {vs : List V} (h : RepL K F vs (ns.map D.int)) : vs = ns.map V.int := repl_ints h
/-- the promise of _law_begun -/
def spBegun (K : PySem.W.Frag) : Sp := fun vs H Q E => ∃ (a : Addr) (ns : List Int), vs = [.ref a] ∧ SqL K H a (ns.map V.int) ∧ ns.length ≤ 1000 ∧
  ∀ (r : Rng) (H' : Hp), r.great = bigOf ns → r.cells = absOf ns → r.rest = 0 → r.turn = 0 → Same H H' → (∀ x, H' x = none → H x = none) → H' r.at_ = some (.dK (rngDict r)) → H' r.gA = some (.lst (r.great.map V.int)) → H' r.cA = some (.lst (r.cells.map V.int)) →
    H r.at_ = none → H r.gA = none → H r.cA = none → r.cA ≠ r.gA → Q (.ref r.at_) H'
section
variable {P : Program} {w : World} {K : PySem.W.Frag}
variable {mg : Str → Option Value} {base : Heap}
theorem begun_ok {x qual : Str} {st : Stmt} {f : Addr} {fd : FuncData} (F : Fun K x qual st f fd) (Sc : FnScope ["script", "great", "cell"] ["script"] (defScope st))
    (h1 : ∀ (H0 F0 : Hp) (R : Addr → Prop) (cdv : Value) (A : Around) (outer : List Env) (s : Shared) (H : Hp) (E : XK), Room 0 (A.deeper (envOfC qual (defScope st) s.heap.objs.size f cdv)) → PSs (cxOf CX0 P w K mg base ["script", "great", "cell"] qual (defScope st) f cdv A outer s H E).nox (defBody st)
      (tSeq (sS ⟨K, H0, F0, R⟩ (sSetF 1 mBig)) (tRet (tDisp [(tC (.str "great"), tVar 1), (tC (.str "cells"), eF ⟨K, H0, F0, R⟩ mCel), (tC (.str "rest"), tC (.int 0)), (tC (.str "turn"), tC (.int 0))])))) :
    FnOk P w K mg base CX0 1 f fd ["script"] (spBegun K) := by
  refine F.ok Sc (fun vs H Q E h => ?_) fun cdv A outer s H vs Q E hr h => ?_
  · obtain ⟨a, ns, rfl, _⟩ := h; rfl
  · obtain ⟨a, ns, rfl, hq, hz, q⟩ := h
    refine ⟨_, h1 H H (fun _ => False) cdv A outer s H E hr, ?_⟩
    have hzl : ns.length ≤ sizeLine := Nat.le_trans hz (by decide)
    have hb : (bigOf ns).length ≤ sizeLine := by
      unfold bigOf; rw [List.length_map]; exact Nat.le_trans (List.length_filter_le _ _) hzl
    have hk : HeapOk ⟨K, H, H, fun _ => False⟩ H H (fun _ => none) none := ⟨fun _ _ e => e, (fun _ _ _ h => nomatch h), fun _ _ h _ => h, fun _ h => h, fun _ _ h => h, fun _ _ h => .inl h, fun _ h => nomatch h⟩
    have sl : Slots K (L2.start ["script", "great", "cell"] [V.ref a]) (startL 3 [.scr ns]) H (fun _ => none) := startL_slots (N := ["script", "great", "cell"]) (ds := [.scr ns]) (.cons (.scr hq) .nil)
    have e1 : sSetF 1 mBig (startL 3 [.scr ns]) none = some (.nx, [some (.imm (.scr ns)), some (.own (.lst ((bigOf ns).map D.int))), none], none) := by
      have em : mBig (startL 3 [.scr ns]) none = some (.lst ((bigOf ns).map D.int), none) := by
        show Option.bind (mScr 0 [some (LV.imm (.scr ns)), none, none] none) _ = _
        simp only [mScr, mVar, List.getElem?_cons_zero, Option.bind_some, if_pos hzl]
        show Option.map _ (lcGo [some (LV.imm (.scr ns)), none, none] _ _ _ _ _) = _
        rw [lc_big (by simp)]
        rfl
      unfold sSetF
      rw [em]; rfl
    refine ⟨H, fun _ => none, _, none, hk, sl, _, _, _, e1, fun H1 F1 M1 hk1 le1 => fun σ1 sl1 => fun p hp => ?_⟩
    have hkp := hk1.laidO (w := none) (d := .dK []) hp (.dK .nil)
    obtain ⟨v1, ev1, g, rfl, em1⟩ := sl1.at_ 1 _ rfl
    have hpn := hk1.mnone hp
    have hgp : g ≠ p := fun z => by rw [z, hpn] at em1; cases em1
    have slp : Slots K σ1 [some (.imm (.scr ns)), some (.own (.lst ((bigOf ns).map D.int))), none] F1 (updO M1 p (none, .dK [])) := ⟨sl1.len, fun i l h => by
      obtain ⟨v, ev, lr⟩ := sl1.at_ i l h
      refine ⟨v, ev, ?_⟩
      cases l with
      | imm d => exact lr
      | own d => obtain ⟨b, rfl, eb⟩ := lr; exact ⟨b, rfl, by rw [updO_ne fun z => by rw [z, hpn] at eb; cases eb]; exact eb⟩⟩
    have ec : mCel [some (.imm (.scr ns)), some (.own (.lst ((bigOf ns).map D.int))), none] none = some (.lst ((absOf ns).map D.int), none) := by
      show Option.bind (mScr 0 [some (LV.imm (.scr ns)), _, none] none) _ = _
      simp only [mScr, mVar, List.getElem?_cons_zero, Option.bind_some, if_pos hzl]
      show Option.map _ (lcGo [some (LV.imm (.scr ns)), _, none] _ _ _ _ _) = _
      rw [lc_cel (by simp)]
      rfl
    refine ⟨_, ev1, F1, _, _, none, hkp, slp, _, none, ec, fun c H2 F2 hk2 nc le2 => ?_⟩
    have hcp : c ≠ p := fun z => by rw [z, updO_same] at nc; cases nc
    have hM : ∀ {b x}, b ≠ c → b ≠ p → updO (updO M1 p (none, D.dK [])) c (none, D.lst ((absOf ns).map D.int)) b = x → M1 b = x := fun h1 h2 e => by rw [updO_ne h1, updO_ne h2] at e; exact e
    have hgc : g ≠ c := fun z => by rw [← z, updO_ne hgp] at nc; rw [nc] at em1; cases em1
    obtain ⟨_, g0, og, eg, rg⟩ := hk2.own g _ _ (by rw [updO_ne hgc, updO_ne hgp]; exact em1)
    obtain ⟨_, c0, oc, ecc, rc⟩ := hk2.own c _ _ updO_same
    obtain ⟨_, p0, op, epp, rp⟩ := hk2.own p (none) (.dK []) (by rw [updO_ne hcp.symm, updO_same])
    cases rg with
    | lst _ rlg =>
      cases rc with
      | lst _ rlc =>
        cases rp with
        | dK rpp =>
          cases rpp
          rw [repl_ints rlg] at eg
          rw [repl_ints rlc] at ecc
          refine ⟨epp, [(Sum.inr "great", .ref g), (Sum.inr "cells", .ref c), (Sum.inr "rest", .int 0), (Sum.inr "turn", .int 0)], rfl, (show 4 ≤ 15 by decide), ?_⟩
          refine q ⟨p, g, c, bigOf ns, absOf ns, 0, 0⟩ _ rfl rfl rfl rfl (fun b o e => ?_) (fun b e => ?_) upd_same (by rw [upd_ne hgp]; exact eg) (by rw [upd_ne hcp]; exact ecc) p0 g0 c0 hgc.symm
          · have e' := hk2.ent b o e (fun z => z)
            rw [upd_ne (ne_of_none e p0)]; exact e'
          · by_cases hb : b = p
            · subst hb; rw [upd_same] at e; cases e
            · rw [upd_ne hb] at e; exact hk2.trk _ e
/-- the promise of the law's def: whatever the draws' addresses, its rest answers True -/
def spLawD (K : PySem.W.Frag) (n i : Nat) (m : MS) : Sp := fun vs H Q E => ∃ (a : Addr) (ns : List Int), vs = [.ref a] ∧ SqL K H a (ns.map V.int) ∧ ns.length ≤ 1000 ∧
  (∀ r : Rng, r.great = bigOf ns → r.cells = absOf ns → r.rest = 0 → r.turn = 0 → ∃ ρ' S', m ((startL n [.scr ns]).set i (some (.imm (.rng r.at_)))) (some r) = some (.rt (.bl true), ρ', S')) ∧ ∀ H', Q (.bl true) H'
theorem law_ok {x qual : Str} {st : Stmt} {f : Addr} {fd : FuncData} {N : List Str} {k i : Nat} {m : MS} (F : Fun K x qual st f fd) (Sc : FnScope N ["script"] (defScope st)) (hi : i < N.length) (hi0 : 0 < i)
    (h1 : ∀ (H0 F0 : Hp) (R : Addr → Prop) (cdv : Value) (A : Around) (outer : List Env) (s : Shared) (H : Hp) (E : XK), Room k (A.deeper (envOfC qual (defScope st) s.heap.objs.size f cdv)) → PSs (cxOf CX0 P w K mg base N qual (defScope st) f cdv A outer s H E).nox (defBody st)
      (tSeq (tAsg (tCall (spBegun K) [] E0 (tCons (tVar 0) tNil)) (gName i)) (sS ⟨K, H0, F0, R⟩ m))) :
    FnOk P w K mg base CX0 (k + 1) f fd ["script"] (spLawD K N.length i m) := by
  refine F.ok Sc (fun vs H Q E h => ?_) fun cdv A outer s H vs Q E hr h => ?_
  · obtain ⟨a, ns, rfl, _⟩ := h; rfl
  · obtain ⟨a, ns, rfl, hq, hz, hm, q⟩ := h
    refine ⟨_, h1 H H (fun _ => False) cdv A outer s H E hr, ?_⟩
    have sl : Slots K (L2.start N [V.ref a]) (startL N.length [.scr ns]) H (fun _ => none) := startL_slots (N := N) (ds := [.scr ns]) (.cons (.scr hq) .nil)
    obtain ⟨v0, ev0, r0⟩ := sl.at_ 0 (.imm (.scr ns)) rfl
    have ev1 : v0 = V.ref a := by
      have e : (L2.start N [V.ref a])[0]? = some (some (V.ref a)) := rfl
      rw [e] at ev0; cases ev0; rfl
    subst ev1
    refine ⟨_, ev0, a, ns, rfl, hq, hz, fun r H' eg ec er et sm tr hat hg hcc n1 n2 n3 hne => ?_⟩
    obtain ⟨ρ', S', em⟩ := hm r eg ec er et
    have lu : Le H (upd H r.cA (.lst (r.cells.map V.int))) := le_upd n3
    have hac : r.at_ ≠ r.cA := fun z => by rw [z, hcc] at hat; cases hat
    refine ⟨upd H r.cA (.lst (r.cells.map V.int)), fun _ => none, _, some r, ⟨fun b o e => ?_, (fun _ _ _ h => nomatch h), fun b o e _ => sm b o e, tr, fun b o e => lu b o e, fun b o e => ?_, fun r2 e => ?_⟩, (sl.mono lu).set (l := .imm (.rng r.at_)) (Rep.rng r.at_), _, _, _, em, fun H2 F2 M2 hk2 le2 => ?_⟩
    · by_cases hb : b = r.cA
      · subst hb; rw [upd_same] at e; cases e; exact hcc
      · rw [upd_ne hb] at e; exact sm b o e
    · by_cases hb : b = r.cA
      · subst hb; exact .inr (.inl n3)
      · rw [upd_ne hb] at e; exact .inl e
    · cases e
      exact ⟨⟨hat, hg, upd_same, by rw [ec]; unfold absOf; rw [List.length_map]; exact hz, by rw [upd_ne hac]; exact n1, by rw [upd_ne hne.symm]; exact n2⟩, rfl, rfl, .inr n1, .inr n2⟩
    · exact fun v rv => by cases rv; exact q _
end
end Dv
namespace Dv
open PySem PySem.Spec
open PyProof.Rows L2
section
variable {G : Gh} {X : Cx} {e a b c o : Expr} {es : List Expr} {pos p2 : Pos} {st : Stmt}
/-! ### a if t else b, as a test -/
def tIfT (t ta tb : TT) : TT := fun σ H Q => t σ H fun d H1 => if d = true then ta σ H1 Q else tb σ H1 Q
theorem pt_ifExp {t ta tb : TT} (hc : PT X c t) (ha : PT X a ta) (hb : PT X b tb) : PT X (.IfExp c a b pos) (tIfT t ta tb) := by
  refine ⟨fun pins s σ H Q I h => isTrue_IfExp (thn (hc.run pins s σ H _ I h) fun d s1 ⟨H1, I1, q1⟩ => ?_)⟩
  cases d with
  | true => (exact ha.run pins s1 σ H1 Q I1 q1)
  | false => (exact hb.run pins s1 σ H1 Q I1 q1)
theorem st_ite {t m n : MT} (hc : PT X c (eT G t)) (ha : PT X a (eT G m)) (hb : PT X b (eT G n)) : PT X (.IfExp c a b pos) (eT G (mIte t m n)) := pt_imp (pt_ifExp hc ha hb) fun σ H Q ⟨F, M, ρ, S, hk, sl, d, S', e, q⟩ => by
  obtain ⟨⟨k, S1⟩, e1, e⟩ := Option.bind_eq_some_iff.mp e
  refine ⟨F, M, ρ, S, hk, sl, k, S1, e1, fun H' F' hk' le => ?_⟩
  cases k with
  | true => exact ⟨F', M, ρ, S1, hk', sl.mono le, d, S', e, fun H2 F2 hk2 le2 => q H2 F2 hk2 (le.trans le2)⟩
  | false => exact ⟨F', M, ρ, S1, hk', sl.mono le, d, S', e, fun H2 F2 hk2 le2 => q H2 F2 hk2 (le.trans le2)⟩

/-! ### a, b = x, y where the tuple is made (a name is a cell) -/
theorem HeapOk.laidU {H F : Hp} {M : OMap} {S : Sg} {p : Addr} {u : HO} (h : HeapOk G H F M S) (n : H p = none) : HeapOk G (upd H p u) F M S := by
  refine ⟨fun b o e => ?_, fun b w' d' e => ?_, fun b o e r => ?_, fun b e => ?_, h.f0, h.new, fun r e => ?_⟩
  · rw [upd_ne (ne_of_none (h.sub _ _ e) n)]; exact h.sub _ _ e
  · obtain ⟨f1, f2, o', e', r⟩ := h.own _ _ _ e
    exact ⟨f1, f2, o', by rw [upd_ne (ne_of_none e' n)]; exact e', r⟩
  · rw [upd_ne (ne_of_none (h.ent _ _ e r) n)]; exact h.ent _ _ e r
  · by_cases hb : b = p
    · subst hb; rw [upd_same] at e; cases e
    · rw [upd_ne hb] at e; exact h.trk _ e
  · obtain ⟨x, m1, m2, q⟩ := h.rng r e
    exact ⟨x.mono (le_upd n) (Same.refl F) x.fa x.fg, m1, m2, q⟩
theorem ex_mono {k : Bool} {m : ME} {σ : L2.St} {H : Hp} {Q Q' : V → Hp → Prop} (h : eX G k m σ H Q) (i : ∀ v H, Q v H → Q' v H) : eX G k m σ H Q' := by
  cases k with
  | false => obtain ⟨F, M, ρ, S, hk, sl, d, S', e, q⟩ := h; exact ⟨F, M, ρ, S, hk, sl, d, S', e, fun v H' F' hk' le r => i _ _ (q v H' F' hk' le r)⟩
  | true => obtain ⟨F, M, ρ, S, hk, sl, d, S', e, q⟩ := h; exact ⟨F, M, ρ, S, hk, sl, d, S', e, fun v H' F' hk' n le => i _ _ (q v H' F' hk' n le)⟩
/-- the statement's ends where a tuple more lies in the heap -/
def tupD (D : Ends) : Ends := { D with nx := fun σ H => ∀ p vs, H p = none → D.nx σ (upd H p (.tup vs)) }
theorem sS_tupD {m : MS} (hm : ∀ ρ S fl ρ' S', m ρ S = some (fl, ρ', S') → fl = .nx) {D : Ends} {σ : L2.St} {H : Hp} (h : sS G m D σ H) : sS G m (tupD D) σ H := by
  obtain ⟨F, M, ρ, S, hk, sl, fl, ρ', S', e, q⟩ := h
  refine ⟨F, M, ρ, S, hk, sl, fl, ρ', S', e, fun H' F' M' hk' le => ?_⟩
  have := hm _ _ _ _ _ e
  subst this
  exact fun σ' sl' p vs hp => q _ F' M' (hk'.laidU hp) le σ' sl'
abbrev gN2 (i j : Nat) : TGs := gCons (gName i) (gCons (gName j) gNil)
abbrev gN3 (i j l : Nat) : TGs := gCons (gName i) (gCons (gName j) (gCons (gName l) gNil))
theorem ss_parT2 {i j : Nat} {k1 k2 : Bool} {m1 m2 : ME} (hK : G.K = X.K) (h : PS X st (tAsg (tTup (tCons (eX G k1 m1) (tCons (eX G k2 m2) tNil))) (gTup X.K 2 (gN2 i j)))) : PS X st (sS G (sPar2 i j k1 m1 k2 m2)) := ps_imp h fun D σ H hs => by
  have h2 := sS_tupD (fun ρ S fl ρ' S' e => by
    obtain ⟨_, _, e⟩ := Option.bind_eq_some_iff.mp e
    obtain ⟨_, _, e⟩ := Option.map_eq_some_iff.mp e
    cases e; rfl) hs
  have h3 := par2_imp (tupD D) σ H h2
  refine ex_mono h3 fun x H1 h4 => ex_mono h4 fun y H2 h5 => ?_
  obtain ⟨x', y', e, h6⟩ := h5
  cases e
  exact ⟨(show 2 ≤ sizeLine by decide), fun p hp => ⟨p, _, rfl, .of upd_same, rfl, _, _, rfl, _, _, rfl, rfl, h6 p _ hp⟩⟩
theorem ss_parT3 {i j l : Nat} {k1 k2 k3 : Bool} {m1 m2 m3 : ME} (hK : G.K = X.K) (h : PS X st (tAsg (tTup (tCons (eX G k1 m1) (tCons (eX G k2 m2) (tCons (eX G k3 m3) tNil)))) (gTup X.K 3 (gN3 i j l)))) : PS X st (sS G (sPar3 i j l k1 m1 k2 m2 k3 m3)) := ps_imp h fun D σ H hs => by
  have h2 := sS_tupD (fun ρ S fl ρ' S' e => by
    obtain ⟨_, _, e⟩ := Option.bind_eq_some_iff.mp e
    obtain ⟨_, _, e⟩ := Option.bind_eq_some_iff.mp e
    obtain ⟨_, _, e⟩ := Option.map_eq_some_iff.mp e
    cases e; rfl) hs
  have h3 := par3_imp (tupD D) σ H h2
  refine ex_mono h3 fun x H1 h4 => ex_mono h4 fun y H2 h5 => ex_mono h5 fun z H3 h6 => ?_
  obtain ⟨x', y', z', e, h7⟩ := h6
  cases e
  exact ⟨(show 3 ≤ sizeLine by decide), fun p hp => ⟨p, _, rfl, .of upd_same, rfl, _, _, rfl, _, _, rfl, _, _, rfl, rfl, h7 p _ hp⟩⟩
end
end Dv
namespace K25
open PySem PySem.Spec PyProof.Rows L2 Dv
structure Ads where
  plus : Addr
variable (A : Ads)
noncomputable def m_law_blended : MS := (sSq (sPar2 2 3 false (mOp2 addD (mStI 0 Rng.turn) (mPure (.int 1))) false (mPure (.int 0)))
  (sSq (sStturn 0 (mVar 2))
  (sSq (sFor (mSeq (mLst (mCons (mPure (.int 2147483579)) (mCons (mPure (.int 2147483629)) (mCons (mPure (.int 2147483563)) (mPure [])))))) (gNm 1) (sSq (sSet 4 (mOp2 addD (mOp2 mulI (mPure (.int 48271)) (mVarB 2)) (mOp2 fdivD (mVarB 1) (mPure (.int 53)))))
  (sSq (sFor (mSeq (mStC 0)) (gNm 5) (sSet 4 (mOp2 modD (mCall intD (mCons (mOp2 addD (mOp2 addD (mOp2 mulI (mVarB 4) (mPure (.int 69621))) (mVarB 5)) (mVarB 2)) (mPure []))) (mVarB 1))))
  (sSet 3 (mOp2 addD (mOp2 mulI (mVarB 3) (mPure (.int 2147483647))) (mOp2 modD (mCall intD (mCons (mOp2 powD (mVarB 4) (mPure (.int 5))) (mPure []))) (mVarB 1)))))))
  (sRet (mVar 3)))))
noncomputable def f_law_blended : List D → Rng → Option (D × Rng) := runR 1 6 m_law_blended
noncomputable def m_law_draw : MS := (sSq (sIf (mTst (mOp2 eqD (mStI 0 Rng.rest) (mPure (.int 0)))) (sStrest 0 (mIte (mStG 0) (mStP 0) (mCallR f_law_blended (mCons (mVar 0) (mPure []))))) sNil)
  (sSq (sSet 2 (mOp2 modD (mCall intD (mCons (mStI 0 Rng.rest) (mPure []))) (mVarB 1)))
  (sSq (sStrest 0 (mOp2 fdivD (mStI 0 Rng.rest) (mVarB 1)))
  (sRet (mVar 2)))))
noncomputable def f_law_draw : List D → Rng → Option (D × Rng) := runR 2 3 m_law_draw
noncomputable def m_law_q : MS := (sSq (sPar2 2 3 false (mCall absD (mCons (mVarB 0) (mPure []))) false (mCall absD (mCons (mVarB 1) (mPure []))))
  (sSq (sWh (mTst (mOp2 gtD (mVarB 3) (mPure (.int 0)))) (sPar2 2 3 false (mVar 3) false (mOp2 modD (mCall intD (mCons (mVarB 2) (mPure []))) (mVarB 3))))
  (sRet (mIte (mTst (mOp2 gtD (mVarB 1) (mPure (.int 0)))) (mTup (mCons (mOp2 fdivD (mVarB 0) (mVarB 2)) (mCons (mOp2 fdivD (mVarB 1) (mVarB 2)) (mPure [])))) (mTup (mCons (mOp2 fdivD (mOp1 negD (mVarB 0)) (mVarB 2)) (mCons (mOp2 fdivD (mOp1 negD (mVarB 1)) (mVarB 2)) (mPure []))))))))
noncomputable def f_law_q : List D → Option D := runP 2 4 m_law_q
noncomputable def m_law_over : MS := (sRet (mCall f_law_q (mCons (mOp2 mulI (mOp2 ixD (mVarB 0) (mPure (.int 0))) (mOp2 ixD (mVarB 1) (mPure (.int 1)))) (mCons (mOp2 mulI (mOp2 ixD (mVarB 0) (mPure (.int 1))) (mOp2 ixD (mVarB 1) (mPure (.int 0)))) (mPure [])))))
noncomputable def f_law_over : List D → Option D := runP 2 2 m_law_over
noncomputable def m_law_plus : MS := (sRet (mCall f_law_q (mCons (mOp2 addD (mOp2 mulI (mOp2 ixD (mVarB 0) (mPure (.int 0))) (mOp2 ixD (mVarB 1) (mPure (.int 1)))) (mOp2 mulI (mOp2 ixD (mVarB 1) (mPure (.int 0))) (mOp2 ixD (mVarB 0) (mPure (.int 1))))) (mCons (mOp2 mulI (mOp2 ixD (mVarB 0) (mPure (.int 1))) (mOp2 ixD (mVarB 1) (mPure (.int 1)))) (mPure [])))))
noncomputable def f_law_plus : List D → Option D := runP 2 2 m_law_plus
noncomputable def m_law_straight_rows : MS := (sSq (sSetF 2 (mLst (mPure [])))
  (sSq (sFor (mSeq (mVar 1)) (gTp 2 (gCns (gNm 3) (gCns (gNm 4) gNl))) (sApp 2 (mTup (mCons (mCall tupleD (mCons (mLc (mSeq (mVar 4)) [5] (gNm 5) (mPure true) (mCall f_law_over (mCons (mTup (mCons (mPure (.int 12)) (mCons (mPure (.int 1)) (mPure [])))) (mCons (mCall f_law_plus (mCons (mTup (mCons (mPure (.int 1)) (mCons (mPure (.int 1)) (mPure [])))) (mCons (mVar 5) (mPure [])))) (mPure []))))) (mPure []))) (mCons (mVar 4) (mPure []))))))
  (sRet (mIte (mTst (mOp2 eqD (mCallR f_law_draw (mCons (mVar 0) (mCons (mPure (.int 2)) (mPure [])))) (mPure (.int 0)))) (mTup (mCons (mPure (.str "budgets")) (mCons (mCall tupleD (mCons (mVarB 2) (mPure []))) (mPure [])))) (mTup (mCons (mPure (.str "budgets")) (mCons (mVar 1) (mPure []))))))))
noncomputable def f_law_straight_rows : List D → Rng → Option (D × Rng) := runR 2 6 m_law_straight_rows
noncomputable def m_is_whole : MS := (sRet (mAndV (mOp1 (isiD "int") (mVarB 0)) (mNotV (mOp1 (isiD "bool") (mVarB 0)))))
noncomputable def f_is_whole : List D → Option D := runP 1 1 m_is_whole
noncomputable def m_is_ratio : MS := (sSq (sIf (mOr (mNot (mTst (mOp1 (isiD "tuple") (mVarB 0)))) (mOr (mTst (mOp2 neD (mCall lenD (mCons (mVarB 0) (mPure []))) (mPure (.int 2)))) (mNot (mTst (mCall allD (mCons (mLc (mSeq (mVar 0)) [1] (gNm 1) (mPure true) (mCall f_is_whole (mCons (mVar 1) (mPure [])))) (mPure []))))))) (sRet (mPure (.bl false))) sNil)
  (sRet (mAndV (mOp2 gtD (mOp2 ixD (mVarB 0) (mPure (.int 1))) (mPure (.int 0))) (mOp2 eqD (mCall gcdD (mCons (mOp2 ixD (mVarB 0) (mPure (.int 0))) (mCons (mOp2 ixD (mVarB 0) (mPure (.int 1))) (mPure [])))) (mPure (.int 1))))))
noncomputable def f_is_ratio : List D → Option D := runP 1 2 m_is_ratio
noncomputable def m_is_vector : MS := (sRet (mAndV (mOp1 (isiD "tuple") (mVarB 0)) (mAndV (mChn leD leD (mPure (.int 1)) (mCall lenD (mCons (mVarB 0) (mPure []))) (mPure (.int 200))) (mCall allD (mCons (mLc (mSeq (mVar 0)) [1] (gNm 1) (mPure true) (mCall f_is_ratio (mCons (mVar 1) (mPure [])))) (mPure []))))))
noncomputable def f_is_vector : List D → Option D := runP 1 2 m_is_vector
noncomputable def m_is_budget : MS := (sSq (sIf (mOr (mNot (mTst (mOp1 (isiD "tuple") (mVarB 0)))) (mOr (mTst (mOp2 neD (mCall lenD (mCons (mVarB 0) (mPure []))) (mPure (.int 2)))) (mNot (mTst (mCall allD (mCons (mLc (mSeq (mVar 0)) [2] (gNm 2) (mPure true) (mCall f_is_vector (mCons (mVar 2) (mPure [])))) (mPure []))))))) (sRet (mPure (.bl false))) sNil)
  (sSq (sIf (mNot (mTst (mCall allD (mCons (mLc (mSeq (mVar 0)) [2] (gNm 2) (mPure true) (mOp2 eqD (mCall lenD (mCons (mVarB 2) (mPure []))) (mVarB 1))) (mPure []))))) (sRet (mPure (.bl false))) sNil)
  (sSq (sIf (mOr (mNot (mTst (mCall allD (mCons (mLc (mSeq (mOp2 ixD (mVarB 0) (mPure (.int 0)))) [2] (gNm 2) (mPure true) (mOp2 gtD (mOp2 ixD (mVarB 2) (mPure (.int 0))) (mPure (.int 0)))) (mPure []))))) (mNot (mTst (mCall allD (mCons (mLc (mSeq (mOp2 ixD (mVarB 0) (mPure (.int 1)))) [2] (gNm 2) (mPure true) (mOp2 geD (mOp2 ixD (mVarB 2) (mPure (.int 0))) (mPure (.int 0)))) (mPure [])))))) (sRet (mPure (.bl false))) sNil)
  (sRet (mCall anyD (mCons (mLc (mSeq (mOp2 ixD (mVarB 0) (mPure (.int 1)))) [2] (gNm 2) (mPure true) (mOp2 gtD (mOp2 ixD (mVarB 2) (mPure (.int 0))) (mPure (.int 0)))) (mPure [])))))))
noncomputable def f_is_budget : List D → Option D := runP 2 3 m_is_budget
noncomputable def m_are_budgets_of : MS := (sSq (sIf (mOr (mNot (mTst (mOp1 (isiD "tuple") (mVarB 0)))) (mOr (mTst (mOp2 neD (mCall lenD (mCons (mVarB 0) (mPure []))) (mPure (.int 2)))) (mOr (mNot (mTst (mOp1 (isiD "str") (mOp2 ixD (mVarB 0) (mPure (.int 0)))))) (mTst (mOp2 neD (mOp2 ixD (mVarB 0) (mPure (.int 0))) (mPure (.str "budgets"))))))) (sRet (mPure (.bl false))) sNil)
  (sSq (sIf (mOr (mNot (mTst (mOp1 (isiD "tuple") (mOp2 ixD (mVarB 0) (mPure (.int 1)))))) (mNot (mTst (mChn leD leD (mPure (.int 1)) (mCall lenD (mCons (mOp2 ixD (mVarB 0) (mPure (.int 1))) (mPure []))) (mPure (.int 8)))))) (sRet (mPure (.bl false))) sNil)
  (sRet (mCall allD (mCons (mLc (mSeq (mOp2 ixD (mVarB 0) (mPure (.int 1)))) [2] (gNm 2) (mPure true) (mCall f_is_budget (mCons (mVar 2) (mCons (mVar 1) (mPure []))))) (mPure []))))))
noncomputable def f_are_budgets_of : List D → Option D := runP 2 3 m_are_budgets_of
noncomputable def m_is_budgets : MS := (sRet (mCall anyD (mCons (mLc (mRg2 (mCons (mPure (.int 2)) (mCons (mOp2 addD (mPure (.int 4)) (mPure (.int 1))) (mPure [])))) [1] (gNm 1) (mPure true) (mCall f_are_budgets_of (mCons (mVar 0) (mCons (mVar 1) (mPure []))))) (mPure []))))
noncomputable def f_is_budgets : List D → Option D := runP 1 2 m_is_budgets
noncomputable def m_need_budgets : MS := (sIf (mNot (mTst (mCall f_is_budgets (mCons (mVar 0) (mPure []))))) sNever sNil)
noncomputable def f_need_budgets : List D → Option D := runP 1 1 m_need_budgets
noncomputable def m_ring_behind : MS := (sSq (sSet 3 (mVar 1))
  (sSq (sFor (mRg1 (mCons (mVarB 2) (mPure []))) (gNm 4) (sSet 3 (mOp2 ixD (mVarB 0) (mVarB 3))))
  (sSq (sPar2 5 6 true (mLst (mCons (mVar 3) (mPure []))) false (mOp2 ixD (mVarB 0) (mVarB 3)))
  (sSq (sWh (mTst (mOp2 neD (mVarB 6) (mVarB 3))) (sSq (sApp 5 (mVar 6))
  (sSet 6 (mOp2 ixD (mVarB 0) (mVarB 6)))))
  (sRet (mCall tupleD (mCons (mOp1 revL (mVarB 5)) (mPure []))))))))
noncomputable def f_ring_behind : List D → Option D := runP 3 7 m_ring_behind
noncomputable def m_is_less : MS := (sRet (mOp2 ltD (mOp2 mulI (mOp2 ixD (mVarB 0) (mPure (.int 0))) (mOp2 ixD (mVarB 1) (mPure (.int 1)))) (mOp2 mulI (mOp2 ixD (mVarB 1) (mPure (.int 0))) (mOp2 ixD (mVarB 0) (mPure (.int 1))))))
noncomputable def f_is_less : List D → Option D := runP 2 2 m_is_less
noncomputable def m_lowest : MS := (sSq (sSet 2 (mIte (mTst (mOp2 gtD (mVarB 1) (mPure (.int 0)))) (mCall gcdD (mCons (mVarB 0) (mCons (mVarB 1) (mPure [])))) (mOp1 negD (mCall gcdD (mCons (mVarB 0) (mCons (mVarB 1) (mPure [])))))))
  (sRet (mTup (mCons (mOp2 fdivD (mVarB 0) (mVarB 2)) (mCons (mOp2 fdivD (mVarB 1) (mVarB 2)) (mPure []))))))
noncomputable def f_lowest : List D → Option D := runP 2 3 m_lowest
noncomputable def m_plus : MS := (sRet (mCall f_lowest (mCons (mOp2 addD (mOp2 mulI (mOp2 ixD (mVarB 0) (mPure (.int 0))) (mOp2 ixD (mVarB 1) (mPure (.int 1)))) (mOp2 mulI (mOp2 ixD (mVarB 1) (mPure (.int 0))) (mOp2 ixD (mVarB 0) (mPure (.int 1))))) (mCons (mOp2 mulI (mOp2 ixD (mVarB 0) (mPure (.int 1))) (mOp2 ixD (mVarB 1) (mPure (.int 1)))) (mPure [])))))
noncomputable def f_plus : List D → Option D := runP 2 2 m_plus
noncomputable def m_kept : MS := (sSq (sSet 3 (mCall lenD (mCons (mVarB 0) (mPure []))))
  (sSq (sPar2 5 6 true (mOp2 mulL (mLst (mCons (mVar 1) (mPure []))) (mVarB 3)) true (mOp2 mulL (mLst (mCons (mPure .non) (mPure []))) (mVarB 3)))
  (sSq (sFor (mRg1 (mCons (mOp2 addD (mVarB 3) (mPure (.int 1))) (mPure []))) (gNm 4) (sSq (sSet 7 (mPure .non))
  (sSq (sFor (mRg1 (mCons (mVarB 3) (mPure []))) (gNm 8) (sFor (mRg1 (mCons (mVarB 3) (mPure []))) (gNm 9) (sIf (mTst (mOp2 isnotD (mOp2 ixD (mOp2 ixD (mVarB 0) (mVarB 8)) (mVarB 9)) (mPure .non))) (sSq (sSet 10 (mCallL 2 A.plus f_plus (mCons (mOp2 ixD (mVarB 5) (mVarB 8)) (mCons (mOp2 ixD (mOp2 ixD (mVarB 0) (mVarB 8)) (mVarB 9)) (mPure [])))))
  (sIf (mTst (mCall f_is_less (mCons (mVar 10) (mCons (mOp2 ixD (mVarB 5) (mVarB 9)) (mPure []))))) (sAsgH (mTup (mCons (mVar 10) (mCons (mVar 8) (mCons (mVar 9) (mPure []))))) (hTp 3 (hCns (hIx 5 (mVar 9)) (hCns (hIx 6 (mVar 9)) (hCns (hOf (gNm 7)) hNl))))) sNil)) sNil)))
  (sIf (mTst (mOp2 isD (mVarB 7) (mPure .non))) (sRet (mTup (mCons (mPure (.str "some")) (mCons (mCall tupleD (mCons (mVarB 5) (mPure []))) (mPure []))))) sNil))))
  (sFrz 6 (sRet (mTup (mCons (mPure (.str "ring")) (mCons (mCall f_ring_behind (mCons (mVar 6) (mCons (mVar 7) (mCons (mVar 3) (mPure []))))) (mPure [])))))))))
noncomputable def f_kept : List D → Option D := runP 3 11 (m_kept A)
noncomputable def m_kept_differences : MS := (sRet (mCall (f_kept A) (mCons (mVar 0) (mCons (mPure (.kt [(.int 0), (.int 1)])) (mCons (mPure (.fn A.plus)) (mPure []))))))
noncomputable def f_kept_differences : List D → Option D := runP 1 1 (m_kept_differences A)
noncomputable def m_total : MS := (sSq (sSet 1 (mPure (.kt [(.int 0), (.int 1)])))
  (sSq (sFor (mSeq (mVar 0)) (gNm 2) (sSet 1 (mCall f_plus (mCons (mVar 1) (mCons (mVar 2) (mPure []))))))
  (sRet (mVar 1))))
noncomputable def f_total : List D → Option D := runP 1 3 m_total
noncomputable def m_times : MS := (sRet (mCall f_lowest (mCons (mOp2 mulI (mOp2 ixD (mVarB 0) (mPure (.int 0))) (mOp2 ixD (mVarB 1) (mPure (.int 0)))) (mCons (mOp2 mulI (mOp2 ixD (mVarB 0) (mPure (.int 1))) (mOp2 ixD (mVarB 1) (mPure (.int 1)))) (mPure [])))))
noncomputable def f_times : List D → Option D := runP 2 2 m_times
noncomputable def m_dot : MS := (sRet (mCall f_total (mCons (mLc (mZip2 (mCons (mVar 0) (mCons (mVar 1) (mPure [])))) [2, 3] (gTp 2 (gCns (gNm 2) (gCns (gNm 3) gNl))) (mPure true) (mCall f_times (mCons (mVar 2) (mCons (mVar 3) (mPure []))))) (mPure []))))
noncomputable def f_dot : List D → Option D := runP 2 4 m_dot
noncomputable def m_costs_of : MS := (sRet (mLc (mSeq (mVar 0)) [1, 2] (gTp 2 (gCns (gNm 1) (gCns (gNm 2) gNl))) (mPure true) (mLc (mSeq (mVar 0)) [3, 4] (gTp 2 (gCns (gNm 3) (gCns (gNm 4) gNl))) (mPure true) (mCall f_dot (mCons (mVar 1) (mCons (mVar 4) (mPure [])))))))
noncomputable def f_costs_of : List D → Option D := runP 1 5 m_costs_of
noncomputable def m_minus : MS := (sRet (mCall f_lowest (mCons (mOp2 subD (mOp2 mulI (mOp2 ixD (mVarB 0) (mPure (.int 0))) (mOp2 ixD (mVarB 1) (mPure (.int 1)))) (mOp2 mulI (mOp2 ixD (mVarB 1) (mPure (.int 0))) (mOp2 ixD (mVarB 0) (mPure (.int 1))))) (mCons (mOp2 mulI (mOp2 ixD (mVarB 0) (mPure (.int 1))) (mOp2 ixD (mVarB 1) (mPure (.int 1)))) (mPure [])))))
noncomputable def f_minus : List D → Option D := runP 2 2 m_minus
noncomputable def m_gaps_of : MS := (sSq (sSet 1 (mCall f_costs_of (mCons (mVar 0) (mPure []))))
  (sRet (mLc (mEnum (mCons (mVar 1) (mPure []))) [3, 4] (gTp 2 (gCns (gNm 3) (gCns (gNm 4) gNl))) (mPure true) (mLc (mSeq (mVar 4)) [2] (gNm 2) (mPure true) (mCall f_minus (mCons (mVar 2) (mCons (mOp2 ixD (mVarB 4) (mVarB 3)) (mPure []))))))))
noncomputable def f_gaps_of : List D → Option D := runP 1 5 m_gaps_of
noncomputable def m_straight_of : MS := (sRet (mCall (f_kept_differences A) (mCons (mCall f_gaps_of (mCons (mVar 0) (mPure []))) (mPure []))))
noncomputable def f_straight_of : List D → Option D := runP 1 1 (m_straight_of A)
noncomputable def m_straight_paper : MS := (sSq (sExpr (mCall f_need_budgets (mCons (mVar 0) (mPure []))))
  (sRet (mCall (f_straight_of A) (mCons (mOp2 ixD (mVarB 0) (mPure (.int 1))) (mPure [])))))
noncomputable def f_straight_paper : List D → Option D := runP 1 1 (m_straight_paper A)
noncomputable def m_law_sum : MS := (sSq (sSet 1 (mTup (mCons (mPure (.int 0)) (mCons (mPure (.int 1)) (mPure [])))))
  (sSq (sFor (mSeq (mVar 0)) (gNm 2) (sSet 1 (mCall f_law_plus (mCons (mVar 1) (mCons (mVar 2) (mPure []))))))
  (sRet (mVar 1))))
noncomputable def f_law_sum : List D → Option D := runP 1 3 m_law_sum
noncomputable def m_law_times : MS := (sRet (mCall f_law_q (mCons (mOp2 mulI (mOp2 ixD (mVarB 0) (mPure (.int 0))) (mOp2 ixD (mVarB 1) (mPure (.int 0)))) (mCons (mOp2 mulI (mOp2 ixD (mVarB 0) (mPure (.int 1))) (mOp2 ixD (mVarB 1) (mPure (.int 1)))) (mPure [])))))
noncomputable def f_law_times : List D → Option D := runP 2 2 m_law_times
noncomputable def m_law_dot : MS := (sRet (mCall f_law_sum (mCons (mLc (mZip2 (mCons (mVar 0) (mCons (mVar 1) (mPure [])))) [2, 3] (gTp 2 (gCns (gNm 2) (gCns (gNm 3) gNl))) (mPure true) (mCall f_law_times (mCons (mVar 2) (mCons (mVar 3) (mPure []))))) (mPure []))))
noncomputable def f_law_dot : List D → Option D := runP 2 4 m_law_dot
noncomputable def m_law_bu_costs : MS := (sRet (mLc (mSeq (mVar 0)) [1, 2] (gTp 2 (gCns (gNm 1) (gCns (gNm 2) gNl))) (mPure true) (mLc (mSeq (mVar 0)) [3, 4] (gTp 2 (gCns (gNm 3) (gCns (gNm 4) gNl))) (mPure true) (mCall f_law_dot (mCons (mVar 1) (mCons (mVar 4) (mPure [])))))))
noncomputable def f_law_bu_costs : List D → Option D := runP 1 5 m_law_bu_costs
noncomputable def m_law_less : MS := (sRet (mOp2 ltD (mOp2 mulI (mOp2 ixD (mVarB 0) (mPure (.int 0))) (mOp2 ixD (mVarB 1) (mPure (.int 1)))) (mOp2 mulI (mOp2 ixD (mVarB 1) (mPure (.int 0))) (mOp2 ixD (mVarB 0) (mPure (.int 1))))))
noncomputable def f_law_less : List D → Option D := runP 2 2 m_law_less
noncomputable def m_law_bu_pairs : MS := (sSq (sPar2 3 4 false (mCall f_law_bu_costs (mCons (mVar 0) (mPure []))) true (mLst (mPure [])))
  (sSq (sFor (mRg1 (mCons (mCall lenD (mCons (mVarB 0) (mPure []))) (mPure []))) (gNm 2) (sFor (mRg1 (mCons (mCall lenD (mCons (mVarB 0) (mPure []))) (mPure []))) (gNm 5) (sIf (mAnd (mTst (mOp2 neD (mVarB 2) (mVarB 5))) (mOr (mTst (mCall f_law_less (mCons (mOp2 ixD (mOp2 ixD (mVarB 3) (mVarB 2)) (mVarB 5)) (mCons (mOp2 ixD (mOp2 ixD (mVarB 3) (mVarB 2)) (mVarB 2)) (mPure []))))) (mAnd (mNot (mTst (mVar 1))) (mTst (mOp2 eqD (mOp2 ixD (mOp2 ixD (mVarB 3) (mVarB 2)) (mVarB 5)) (mOp2 ixD (mOp2 ixD (mVarB 3) (mVarB 2)) (mVarB 2))))))) (sApp 4 (mTup (mCons (mVar 2) (mCons (mVar 5) (mPure []))))) sNil)))
  (sFrz 4 (sRet (mVar 4)))))
noncomputable def f_law_bu_pairs : List D → Option D := runP 2 6 m_law_bu_pairs
noncomputable def m_law_bu_has_ring : MS := (sSq (sPar3 3 4 5 false (mCall f_law_bu_pairs (mCons (mVar 0) (mCons (mPure (.bl false)) (mPure [])))) false (mCall lenD (mCons (mVarB 0) (mPure []))) true mNewT)
  (sSq (sFor (mSeq (mOp2 addL (mVarB 3) (mLc (mRg1 (mCons (mVarB 4) (mPure []))) [7] (gNm 7) (mPure true) (mTup (mCons (mVar 7) (mCons (mVar 7) (mPure []))))))) (gNm 1) (sPut 5 (mPure (.bl true)) (mVar 1)))
  (sSq (sFor (mRg1 (mCons (mVarB 4) (mPure []))) (gNm 2) (sSq (sSet 6 (mLst (mPure [])))
  (sSq (sFor (mSeq (mCall sortDT (mCons (mVarB 5) (mPure [])))) (gTp 2 (gCns (gNm 7) (gCns (gNm 8) gNl))) (sSet 6 (mOp2 addL (mVarB 6) (mLc (mSeq (mVar 3)) [10, 11] (gTp 2 (gCns (gNm 10) (gCns (gNm 11) gNl))) (mTst (mOp2 eqD (mVarB 10) (mVarB 8))) (mTup (mCons (mVar 7) (mCons (mVar 11) (mPure []))))))))
  (sFor (mSeq (mVar 6)) (gNm 1) (sPut 5 (mPure (.bl true)) (mVar 1))))))
  (sRet (mOp2 neD (mLc (mSeq (mCall f_law_bu_pairs (mCons (mVar 0) (mCons (mPure (.bl true)) (mPure []))))) [7, 9] (gTp 2 (gCns (gNm 7) (gCns (gNm 9) gNl))) (mTst (mDin (mTup (mCons (mVar 9) (mCons (mVar 7) (mPure [])))) (mVarB 5))) (mPure (.int 1))) (mLst (mPure [])))))))
noncomputable def f_law_bu_has_ring : List D → Option D := runP 1 12 m_law_bu_has_ring
noncomputable def m_law_pick : MS := (sRet (mOp2 ixD (mVarB 1) (mCallR f_law_draw (mCons (mVar 0) (mCons (mCall lenD (mCons (mVarB 1) (mPure []))) (mPure []))))))
noncomputable def f_law_pick : List D → Rng → Option (D × Rng) := runR 2 2 m_law_pick
noncomputable def m_law_bu_bundle : MS := (sSq (sSetF 3 (mLc (mRg1 (mCons (mVarB 1) (mPure []))) [4] (gNm 4) (mPure true) (mCallR f_law_pick (mCons (mVar 0) (mCons (mLst (mCons (mTup (mCons (mPure (.int 0)) (mCons (mPure (.int 1)) (mPure [])))) (mCons (mTup (mCons (mCallR f_law_draw (mCons (mVar 0) (mCons (mOp2 addD (mVarB 2) (mPure (.int 1))) (mPure [])))) (mCons (mPure (.int 1)) (mPure [])))) (mCons (mCall f_law_q (mCons (mCallR f_law_draw (mCons (mVar 0) (mCons (mOp2 addD (mVarB 2) (mPure (.int 1))) (mPure [])))) (mCons (mOp2 addD (mPure (.int 1)) (mCallR f_law_draw (mCons (mVar 0) (mCons (mPure (.int 3)) (mPure []))))) (mPure [])))) (mPure []))))) (mPure []))))))
  (sSq (sIf (mTst (mOp2 eqD (mLc (mOwn 3) [5] (gNm 5) (mTst (mOp2 neD (mVarB 5) (mTup (mCons (mPure (.int 0)) (mCons (mPure (.int 1)) (mPure [])))))) (mPure (.int 1))) (mLst (mPure [])))) (sIx 3 (mTup (mCons (mPure (.int 1)) (mCons (mPure (.int 1)) (mPure [])))) (mCallR f_law_draw (mCons (mVar 0) (mCons (mVar 1) (mPure []))))) sNil)
  (sRet (mCall tupleD (mCons (mVarB 3) (mPure []))))))
noncomputable def f_law_bu_bundle : List D → Rng → Option (D × Rng) := runR 3 6 m_law_bu_bundle
noncomputable def m_law_minus : MS := (sRet (mCall f_law_q (mCons (mOp2 subD (mOp2 mulI (mOp2 ixD (mVarB 0) (mPure (.int 0))) (mOp2 ixD (mVarB 1) (mPure (.int 1)))) (mOp2 mulI (mOp2 ixD (mVarB 1) (mPure (.int 0))) (mOp2 ixD (mVarB 0) (mPure (.int 1))))) (mCons (mOp2 mulI (mOp2 ixD (mVarB 0) (mPure (.int 1))) (mOp2 ixD (mVarB 1) (mPure (.int 1)))) (mPure [])))))
noncomputable def f_law_minus : List D → Option D := runP 2 2 m_law_minus
noncomputable def m_law_least : MS := (sSq (sSet 3 (mPure .non))
  (sSq (sFor (mZip2 (mCons (mVar 0) (mCons (mVar 1) (mPure [])))) (gTp 2 (gCns (gTp 2 (gCns (gNm 6) (gCns (gNm 7) gNl))) (gCns (gNm 4) gNl))) (sSq (sSet 5 (mCall f_law_plus (mCons (mVar 4) (mCons (mCall f_law_minus (mCons (mCall f_law_dot (mCons (mVar 6) (mCons (mVar 2) (mPure [])))) (mCons (mCall f_law_dot (mCons (mVar 6) (mCons (mVar 7) (mPure [])))) (mPure [])))) (mPure [])))))
  (sSet 3 (mIte (mOr (mTst (mOp2 isD (mVarB 3) (mPure .non))) (mTst (mCall f_law_less (mCons (mVar 5) (mCons (mVar 3) (mPure [])))))) (mVar 5) (mVar 3)))))
  (sRet (mVar 3))))
noncomputable def f_law_least : List D → Option D := runP 3 8 m_law_least
noncomputable def m_law_bu_prices : MS := (sRet (mCall tupleD (mCons (mLc (mRg1 (mCons (mVarB 1) (mPure []))) [3] (gNm 3) (mPure true) (mCall f_law_q (mCons (mOp2 addD (mPure (.int 1)) (mCallR f_law_draw (mCons (mVar 0) (mCons (mVar 2) (mPure []))))) (mCons (mOp2 addD (mPure (.int 1)) (mCallR f_law_draw (mCons (mVar 0) (mCons (mCallR f_law_pick (mCons (mVar 0) (mCons (mLst (mCons (mPure (.int 1)) (mCons (mPure (.int 1)) (mCons (mPure (.int 3)) (mPure []))))) (mPure [])))) (mPure []))))) (mPure []))))) (mPure []))))
noncomputable def f_law_bu_prices : List D → Rng → Option (D × Rng) := runR 3 4 m_law_bu_prices
noncomputable def m_law_bu_budgets : MS := (sSq (sPar3 5 6 7 false (mCallR f_law_draw (mCons (mVar 0) (mCons (mPure (.int 5)) (mPure [])))) false (mCallR f_law_pick (mCons (mVar 0) (mCons (mLst (mCons (mPure (.int 2)) (mCons (mPure (.int 4)) (mCons (mPure (.int 9)) (mPure []))))) (mPure [])))) true (mLst (mPure [])))
  (sSq (sSet 3 (mLc (mRg1 (mCons (mVarB 2) (mPure []))) [9] (gNm 9) (mPure true) (mOp2 addD (mPure (.int 1)) (mCallR f_law_draw (mCons (mVar 0) (mCons (mPure (.int 4)) (mPure [])))))))
  (sSq (sFor (mRg1 (mCons (mOp2 addD (mPure (.int 1)) (mCallR f_law_draw (mCons (mVar 0) (mCons (mVar 1) (mPure []))))) (mPure []))) (gNm 4) (sSq (sPar2 10 11 false (mCallR f_law_bu_prices (mCons (mVar 0) (mCons (mVar 2) (mCons (mVar 6) (mPure []))))) false (mCallR f_law_bu_bundle (mCons (mVar 0) (mCons (mVar 2) (mCons (mVar 6) (mPure []))))))
  (sSq (sSet 8 (mCall f_law_q (mCons (mOp2 addD (mPure (.int 1)) (mCallR f_law_draw (mCons (mVar 0) (mCons (mPure (.int 20)) (mPure []))))) (mCons (mOp2 addD (mPure (.int 1)) (mCallR f_law_draw (mCons (mVar 0) (mCons (mPure (.int 2)) (mPure []))))) (mPure [])))))
  (sSq (sIf (mTst (mOp2 inD (mVarB 5) (mLst (mCons (mPure (.int 1)) (mCons (mPure (.int 2)) (mPure [])))))) (sSet 11 (mCall tupleD (mCons (mLc (mZip2 (mCons (mVar 3) (mCons (mVar 10) (mPure [])))) [12, 13] (gTp 2 (gCns (gNm 12) (gCns (gNm 13) gNl))) (mPure true) (mCall f_law_over (mCons (mCall f_law_times (mCons (mVar 8) (mCons (mTup (mCons (mVar 12) (mCons (mCall sumD (mCons (mVarB 3) (mPure []))) (mPure [])))) (mPure [])))) (mCons (mVar 13) (mPure []))))) (mPure [])))) sNil)
  (sSq (sIf (mTst (mOp2 eqD (mVarB 5) (mPure (.int 3)))) (sSet 11 (mCall tupleD (mCons (mLc (mSeq (mVar 3)) [12] (gNm 12) (mPure true) (mCall f_law_times (mCons (mVar 8) (mCons (mTup (mCons (mVar 12) (mCons (mPure (.int 1)) (mPure [])))) (mPure []))))) (mPure [])))) sNil)
  (sSq (sIf (mAnd (mTst (mOp2 eqD (mVarB 5) (mPure (.int 2)))) (mTst (mOp2 eqD (mCallR f_law_draw (mCons (mVar 0) (mCons (mPure (.int 3)) (mPure [])))) (mPure (.int 0))))) (sSet 11 (mCallR f_law_bu_bundle (mCons (mVar 0) (mCons (mVar 2) (mCons (mVar 6) (mPure [])))))) sNil)
  (sSq (sIf (mAnd (mTst (mOp2 neD (mVarB 7) (mLst (mPure [])))) (mTst (mOp2 eqD (mCallR f_law_draw (mCons (mVar 0) (mCons (mPure (.int 9)) (mPure [])))) (mPure (.int 0))))) (sSet 10 (mOp2 ixD (mOp2 ixD (mVarB 7) (mOp1 negD (mPure (.int 1)))) (mPure (.int 0)))) sNil)
  (sSq (sIf (mAnd (mTst (mOp2 neD (mVarB 7) (mLst (mPure [])))) (mTst (mOp2 eqD (mCallR f_law_draw (mCons (mVar 0) (mCons (mPure (.int 9)) (mPure [])))) (mPure (.int 0))))) (sSet 11 (mOp2 ixD (mOp2 ixD (mVarB 7) (mOp1 negD (mPure (.int 1)))) (mPure (.int 1)))) sNil)
  (sApp 7 (mTup (mCons (mVar 10) (mCons (mVar 11) (mPure [])))))))))))))
  (sRet (mTup (mCons (mPure (.str "budgets")) (mCons (mCall tupleD (mCons (mVarB 7) (mPure []))) (mPure []))))))))
noncomputable def f_law_bu_budgets : List D → Rng → Option (D × Rng) := runR 3 14 m_law_bu_budgets
noncomputable def m_law_bu_drawn : MS := (sRet (mCallR f_law_bu_budgets (mCons (mVar 0) (mCons (mVar 1) (mCons (mCallR f_law_pick (mCons (mVar 0) (mCons (mLst (mCons (mPure (.int 2)) (mCons (mPure (.int 2)) (mCons (mPure (.int 3)) (mCons (mPure (.int 4)) (mPure [])))))) (mPure [])))) (mPure []))))))
noncomputable def f_law_bu_drawn : List D → Rng → Option (D × Rng) := runR 2 2 m_law_bu_drawn
noncomputable def m_law_is_truth : MS := (sRet (mIte (mTst (mVar 1)) (mOp2 isD (mVarB 0) (mPure (.bl true))) (mOp2 isD (mVarB 0) (mPure (.bl false)))))
noncomputable def f_law_is_truth : List D → Option D := runP 2 2 m_law_is_truth
noncomputable def m_law_same : MS := (sSq (sSetF 2 (mLst (mCons (mTup (mCons (mVar 0) (mCons (mVar 1) (mPure [])))) (mPure []))))
  (sSq (sWh (mTst (mOp2 neD (mVarB 2) (mLst (mPure [])))) (sSq (sPop 2 (gTp 2 (gCns (gNm 3) (gCns (gNm 4) gNl))))
  (sIf (mOr (mTst (mOp2 isD (mVarB 4) (mPure .non))) (mTst (mOp1 (isiD "bool") (mVarB 4)))) (sIf (mIte (mTst (mOp2 isD (mVarB 4) (mPure .non))) (mTst (mOp2 isnotD (mVarB 3) (mPure .non))) (mNot (mTst (mCall f_law_is_truth (mCons (mVar 3) (mCons (mVar 4) (mPure []))))))) (sRet (mPure (.bl false))) sNil) (sIf (mTst (mOp1 (isi2D "int" "str") (mVarB 4))) (sIf (mOr (mTst (mOp1 (isiD "bool") (mVarB 3))) (mOr (mTst (mOp2 neD (mOp1 (isiD "int") (mVarB 3)) (mOp1 (isiD "int") (mVarB 4)))) (mTst (mOp2 neD (mVarB 3) (mVarB 4))))) (sRet (mPure (.bl false))) sNil) (sIf (mTst (mOp1 (isiD "dict") (mVarB 4))) sNever (sSq (sSet 5 (mLst (mCons (mAndV (mOp1 (isiD "tuple") (mVarB 3)) (mOp1 (isiD "tuple") (mVarB 4))) (mCons (mAndV (mOp1 (isiD "list") (mVarB 3)) (mOp1 (isiD "list") (mVarB 4))) (mPure [])))))
  (sSq (sIf (mOr (mTst (mOp2 ninD (mPure (.bl true)) (mVarB 5))) (mTst (mOp2 neD (mCall lenD (mCons (mVarB 3) (mPure []))) (mCall lenD (mCons (mVarB 4) (mPure [])))))) (sRet (mPure (.bl false))) sNil)
  (sExt 2 (mLc (mZip2 (mCons (mVar 3) (mCons (mVar 4) (mPure [])))) [7, 8] (gTp 2 (gCns (gNm 7) (gCns (gNm 8) gNl))) (mPure true) (mTup (mCons (mVar 7) (mCons (mVar 8) (mPure [])))))))))))))
  (sRet (mPure (.bl true)))))
noncomputable def f_law_same : List D → Option D := runP 2 9 m_law_same
noncomputable def m_are_straight : MS := (sSq (sIf (mOr (mNot (mTst (mOp1 (isiD "tuple") (mVarB 1)))) (mOr (mTst (mOp2 neD (mCall lenD (mCons (mVarB 1) (mPure []))) (mCall lenD (mCons (mVarB 0) (mPure []))))) (mNot (mTst (mCall allD (mCons (mLc (mSeq (mVar 1)) [3] (gNm 3) (mPure true) (mCall f_is_ratio (mCons (mVar 3) (mPure [])))) (mPure []))))))) (sRet (mPure (.bl false))) sNil)
  (sSq (sFor (mZip2 (mCons (mCall f_gaps_of (mCons (mVar 0) (mPure []))) (mCons (mVar 1) (mPure [])))) (gTp 2 (gCns (gNm 2) (gCns (gNm 3) gNl))) (sIf (mTst (mCall anyD (mCons (mLc (mZip2 (mCons (mVar 2) (mCons (mVar 1) (mPure [])))) [4, 5] (gTp 2 (gCns (gNm 4) (gCns (gNm 5) gNl))) (mPure true) (mCall f_is_less (mCons (mCall f_plus (mCons (mVar 3) (mCons (mVar 4) (mPure [])))) (mCons (mVar 5) (mPure []))))) (mPure [])))) (sRet (mPure (.bl false))) sNil))
  (sRet (mPure (.bl true)))))
noncomputable def f_are_straight : List D → Option D := runP 2 6 m_are_straight
noncomputable def m_is_places : MS := (sSq (sIf (mOr (mNot (mTst (mOp1 (isiD "tuple") (mVarB 0)))) (mTst (mOp2 ltD (mCall lenD (mCons (mVarB 0) (mPure []))) (mVarB 2)))) (sRet (mPure (.bl false))) sNil)
  (sSq (sIf (mNot (mTst (mCall allD (mCons (mLc (mSeq (mVar 0)) [3] (gNm 3) (mPure true) (mAndV (mOp1 (isiD "int") (mVarB 3)) (mAndV (mNotV (mOp1 (isiD "bool") (mVarB 3))) (mChn leD ltD (mPure (.int 0)) (mVarB 3) (mVarB 1))))) (mPure []))))) (sRet (mPure (.bl false))) sNil)
  (sRet (mOp2 eqD (mCall lenD (mCons (mDc (mSeq (mVar 0)) [3] (gNm 3) (mPure true) (mVar 3) (mPure (.bl true))) (mPure []))) (mCall lenD (mCons (mVarB 0) (mPure [])))))))
noncomputable def f_is_places : List D → Option D := runP 3 4 m_is_places
noncomputable def m_steps_of : MS := (sRet (mLz (mCons (mVar 0) (mCons (mOp2 addD (mSl slD (mVarB 0) (mPart (mPure (.int 1))) (mPure none)) (mSl slD (mVarB 0) (mPure none) (mPart (mPure (.int 1))))) (mPure [])))))
noncomputable def f_steps_of : List D → Option D := runP 1 1 m_steps_of
noncomputable def m_is_straight_paper : MS := (sSq (sExpr (mCall f_need_budgets (mCons (mVar 0) (mPure []))))
  (sSq (sSet 2 (mOp2 ixD (mVarB 0) (mPure (.int 1))))
  (sSq (sIf (mOr (mNot (mTst (mOp1 (isiD "tuple") (mVarB 1)))) (mOr (mTst (mOp2 neD (mCall lenD (mCons (mVarB 1) (mPure []))) (mPure (.int 2)))) (mNot (mTst (mOp1 (isiD "str") (mOp2 ixD (mVarB 1) (mPure (.int 0)))))))) (sRet (mPure (.bl false))) sNil)
  (sSq (sIf (mTst (mOp2 eqD (mOp2 ixD (mVarB 1) (mPure (.int 0))) (mPure (.str "some")))) (sRet (mCall f_are_straight (mCons (mVar 2) (mCons (mOp2 ixD (mVarB 1) (mPure (.int 1))) (mPure []))))) sNil)
  (sSq (sIf (mOr (mTst (mOp2 neD (mOp2 ixD (mVarB 1) (mPure (.int 0))) (mPure (.str "ring")))) (mNot (mTst (mCall f_is_places (mCons (mOp2 ixD (mVarB 1) (mPure (.int 1))) (mCons (mCall lenD (mCons (mVarB 2) (mPure []))) (mCons (mPure (.int 2)) (mPure [])))))))) (sRet (mPure (.bl false))) sNil)
  (sSq (sSet 3 (mCall f_gaps_of (mCons (mVar 2) (mPure []))))
  (sRet (mOp2 ltD (mOp2 ixD (mCall f_total (mCons (mLc (mSeq (mCall f_steps_of (mCons (mOp2 ixD (mVarB 1) (mPure (.int 1))) (mPure [])))) [4, 5] (gTp 2 (gCns (gNm 4) (gCns (gNm 5) gNl))) (mPure true) (mOp2 ixD (mOp2 ixD (mVarB 3) (mVarB 4)) (mVarB 5))) (mPure []))) (mPure (.int 0))) (mPure (.int 0))))))))))
noncomputable def f_is_straight_paper : List D → Option D := runP 2 6 m_is_straight_paper
noncomputable def m_law_bu_gaps : MS := (sSq (sSet 1 (mCall f_law_bu_costs (mCons (mVar 0) (mPure []))))
  (sRet (mLc (mEnum (mCons (mVar 1) (mPure []))) [3, 4] (gTp 2 (gCns (gNm 3) (gCns (gNm 4) gNl))) (mPure true) (mLc (mSeq (mVar 4)) [2] (gNm 2) (mPure true) (mCall f_law_minus (mCons (mVar 2) (mCons (mOp2 ixD (mVarB 4) (mVarB 3)) (mPure []))))))))
noncomputable def f_law_bu_gaps : List D → Option D := runP 1 5 m_law_bu_gaps
noncomputable def m_law_is_ratio : MS := (sSq (sIf (mOr (mNot (mTst (mOp1 (isiD "tuple") (mVarB 0)))) (mOr (mTst (mOp2 neD (mCall lenD (mCons (mVarB 0) (mPure []))) (mPure (.int 2)))) (mTst (mOp2 neD (mLc (mSeq (mVar 0)) [1] (gNm 1) (mOr (mNot (mTst (mOp1 (isiD "int") (mVarB 1)))) (mTst (mOp1 (isiD "bool") (mVarB 1)))) (mPure (.int 1))) (mLst (mPure [])))))) (sRet (mPure (.bl false))) sNil)
  (sRet (mAndV (mOp2 gtD (mOp2 ixD (mVarB 0) (mPure (.int 1))) (mPure (.int 0))) (mOp2 eqD (mCall f_law_q (mCons (mOp2 ixD (mVarB 0) (mPure (.int 0))) (mCons (mOp2 ixD (mVarB 0) (mPure (.int 1))) (mPure [])))) (mVarB 0)))))
noncomputable def f_law_is_ratio : List D → Option D := runP 1 2 m_law_is_ratio
noncomputable def m_law_keeps : MS := (sSq (sIf (mOr (mNot (mTst (mOp1 (isiD "tuple") (mVarB 1)))) (mOr (mTst (mOp2 neD (mCall lenD (mCons (mVarB 1) (mPure []))) (mCall lenD (mCons (mVarB 0) (mPure []))))) (mTst (mOp2 neD (mLc (mSeq (mVar 1)) [3] (gNm 3) (mNot (mTst (mCall f_law_is_ratio (mCons (mVar 3) (mPure []))))) (mPure (.int 1))) (mLst (mPure [])))))) (sRet (mPure (.bl false))) sNil)
  (sSq (sFor (mZip2 (mCons (mCall f_law_bu_gaps (mCons (mVar 0) (mPure []))) (mCons (mVar 1) (mPure [])))) (gTp 2 (gCns (gNm 2) (gCns (gNm 3) gNl))) (sIf (mTst (mOp2 neD (mLc (mZip2 (mCons (mVar 2) (mCons (mVar 1) (mPure [])))) [4, 5] (gTp 2 (gCns (gNm 4) (gCns (gNm 5) gNl))) (mTst (mCall f_law_less (mCons (mCall f_law_plus (mCons (mVar 3) (mCons (mVar 4) (mPure [])))) (mCons (mVar 5) (mPure []))))) (mPure (.int 1))) (mLst (mPure [])))) (sRet (mPure (.bl false))) sNil))
  (sRet (mPure (.bl true)))))
noncomputable def f_law_keeps : List D → Option D := runP 2 6 m_law_keeps
noncomputable def m_is_bundle : MS := (sSq (sIf (mOr (mNot (mTst (mOp1 (isiD "tuple") (mVarB 0)))) (mTst (mOp2 neD (mCall lenD (mCons (mVarB 0) (mPure []))) (mVarB 1)))) (sRet (mPure (.bl false))) sNil)
  (sRet (mCall allD (mCons (mLc (mSeq (mVar 0)) [2] (gNm 2) (mPure true) (mAndV (mCall f_is_ratio (mCons (mVar 2) (mPure []))) (mOp2 geD (mOp2 ixD (mVarB 2) (mPure (.int 0))) (mPure (.int 0))))) (mPure [])))))
noncomputable def f_is_bundle : List D → Option D := runP 2 3 m_is_bundle
noncomputable def m_goods_of : MS := (sRet (mCall lenD (mCons (mOp2 ixD (mOp2 ixD (mOp2 ixD (mVarB 0) (mPure (.int 1))) (mPure (.int 0))) (mPure (.int 0))) (mPure []))))
noncomputable def f_goods_of : List D → Option D := runP 1 1 m_goods_of
noncomputable def m_need_bundle : MS := (sIf (mNot (mTst (mCall f_is_bundle (mCons (mVar 1) (mCons (mCall f_goods_of (mCons (mVar 0) (mPure []))) (mPure [])))))) sNever sNil)
noncomputable def f_need_bundle : List D → Option D := runP 2 2 m_need_bundle
noncomputable def m_least_of : MS := (sSq (sSet 1 (mOp2 ixD (mVarB 0) (mPure (.int 0))))
  (sSq (sFor (mSeq (mSl slD (mVarB 0) (mPart (mPure (.int 1))) (mPure none))) (gNm 2) (sSet 1 (mIte (mTst (mCall f_is_less (mCons (mVar 2) (mCons (mVar 1) (mPure []))))) (mVar 2) (mVar 1))))
  (sRet (mVar 1))))
noncomputable def f_least_of : List D → Option D := runP 1 3 m_least_of
noncomputable def m_straight_wish : MS := (sSq (sExpr (mCall f_need_budgets (mCons (mVar 0) (mPure []))))
  (sSq (sIf (mNot (mTst (mCall f_are_straight (mCons (mOp2 ixD (mVarB 0) (mPure (.int 1))) (mCons (mVar 1) (mPure [])))))) sNever sNil)
  (sSq (sExpr (mCall f_need_bundle (mCons (mVar 0) (mCons (mVar 2) (mPure [])))))
  (sSq (sSetF 3 (mLst (mPure [])))
  (sSq (sFor (mZip2 (mCons (mOp2 ixD (mVarB 0) (mPure (.int 1))) (mCons (mVar 1) (mPure [])))) (gTp 2 (gCns (gTp 2 (gCns (gNm 5) (gCns (gNm 6) gNl))) (gCns (gNm 4) gNl))) (sApp 3 (mCall f_plus (mCons (mVar 4) (mCons (mCall f_minus (mCons (mCall f_dot (mCons (mVar 5) (mCons (mVar 2) (mPure [])))) (mCons (mCall f_dot (mCons (mVar 5) (mCons (mVar 6) (mPure [])))) (mPure [])))) (mPure []))))))
  (sFrz 3 (sRet (mCall f_least_of (mCons (mVar 3) (mPure []))))))))))
noncomputable def f_straight_wish : List D → Option D := runP 3 7 m_straight_wish
noncomputable def m_law_bu_are_places : MS := (sSq (sIf (mOr (mNot (mTst (mOp1 (isiD "tuple") (mVarB 0)))) (mTst (mOp2 ltD (mCall lenD (mCons (mVarB 0) (mPure []))) (mVarB 2)))) (sRet (mPure (.bl false))) sNil)
  (sSq (sIf (mTst (mOp2 neD (mLc (mSeq (mVar 0)) [3] (gNm 3) (mOr (mTst (mOp1 (isiD "bool") (mVarB 3))) (mOr (mNot (mTst (mOp1 (isiD "int") (mVarB 3)))) (mNot (mTst (mChn leD ltD (mPure (.int 0)) (mVarB 3) (mVarB 1)))))) (mPure (.int 1))) (mLst (mPure [])))) (sRet (mPure (.bl false))) sNil)
  (sRet (mOp2 eqD (mOp1 lenSetD (mVarB 0)) (mCall lenD (mCons (mVarB 0) (mPure [])))))))
noncomputable def f_law_bu_are_places : List D → Option D := runP 3 4 m_law_bu_are_places
noncomputable def m_law_bu_around : MS := (sRet (mLz (mCons (mVar 0) (mCons (mOp2 addD (mSl slD (mVarB 0) (mPart (mPure (.int 1))) (mPure none)) (mSl slD (mVarB 0) (mPure none) (mPart (mPure (.int 1))))) (mPure [])))))
noncomputable def f_law_bu_around : List D → Option D := runP 1 1 m_law_bu_around
noncomputable def m_law_is_loop : MS := (sSq (sIf (mNot (mTst (mCall f_law_bu_are_places (mCons (mVar 1) (mCons (mCall lenD (mCons (mVarB 0) (mPure []))) (mCons (mPure (.int 2)) (mPure []))))))) (sRet (mPure (.bl false))) sNil)
  (sSq (sSet 2 (mCall f_law_bu_gaps (mCons (mVar 0) (mPure []))))
  (sRet (mOp2 ltD (mOp2 ixD (mCall f_law_sum (mCons (mLc (mSeq (mCall f_law_bu_around (mCons (mVar 1) (mPure [])))) [3, 4] (gTp 2 (gCns (gNm 3) (gCns (gNm 4) gNl))) (mPure true) (mOp2 ixD (mOp2 ixD (mVarB 2) (mVarB 3)) (mVarB 4))) (mPure []))) (mPure (.int 0))) (mPure (.int 0))))))
noncomputable def f_law_is_loop : List D → Option D := runP 2 5 m_law_is_loop
noncomputable def m_law : MS := (sSq (sFor (mRg1 (mCons (mOp2 addD (mPure (.int 4)) (mCall minD (mCons (mCall lenD (mCons (mVarB 0) (mPure []))) (mCons (mPure (.int 6)) (mPure []))))) (mPure []))) (gNm 2) (sSq (sSet 3 (mCallR f_law_straight_rows (mCons (mVar 1) (mCons (mOp2 ixD (mCallR f_law_bu_drawn (mCons (mVar 1) (mCons (mPure (.int 8)) (mPure [])))) (mPure (.int 1))) (mPure [])))))
  (sSq (sPar2 5 6 false (mOp2 ixD (mVarB 3) (mPure (.int 1))) false (mCall lenD (mCons (mOp2 ixD (mOp2 ixD (mOp2 ixD (mVarB 3) (mPure (.int 1))) (mPure (.int 0))) (mPure (.int 0))) (mPure []))))
  (sSq (sPar2 7 8 false (mCall (f_straight_paper A) (mCons (mVar 3) (mPure []))) false (mCall f_law_q (mCons (mOp2 addD (mPure (.int 1)) (mCallR f_law_draw (mCons (mVar 1) (mCons (mPure (.int 9)) (mPure []))))) (mCons (mOp2 addD (mPure (.int 1)) (mCallR f_law_draw (mCons (mVar 1) (mCons (mPure (.int 9)) (mPure []))))) (mPure [])))))
  (sSq (sIf (mOr (mNot (mTst (mOp1 (isiD "tuple") (mVarB 7)))) (mOr (mTst (mOp2 neD (mCall lenD (mCons (mVarB 7) (mPure []))) (mPure (.int 2)))) (mOr (mNot (mTst (mCall f_law_same (mCons (mCallK0 (f_straight_paper A) [0] (mCons (mVar 3) (mPure []))) (mCons (mVar 7) (mPure [])))))) (mTst (mOp2 isnotD (mCall f_is_straight_paper (mCons (mVar 3) (mCons (mVar 7) (mPure [])))) (mPure (.bl true))))))) (sRet (mPure (.bl false))) sNil)
  (sSq (sSet 4 (mTup (mCons (mPure (.str "budgets")) (mCons (mCall tupleD (mCons (mLc (mSeq (mVar 5)) [12, 13] (gTp 2 (gCns (gNm 12) (gCns (gNm 13) gNl))) (mPure true) (mTup (mCons (mVar 12) (mCons (mCall tupleD (mCons (mLc (mSeq (mVar 13)) [14] (gNm 14) (mPure true) (mCall f_law_times (mCons (mVar 8) (mCons (mVar 14) (mPure []))))) (mPure []))) (mPure []))))) (mPure []))) (mPure [])))))
  (sSq (sIf (mTst (mOp2 neD (mOp2 ixD (mCall (f_straight_paper A) (mCons (mVar 4) (mPure []))) (mPure (.int 0))) (mOp2 ixD (mVarB 7) (mPure (.int 0))))) (sRet (mPure (.bl false))) sNil)
  (sSq (sIf (mTst (mOp2 neD (mOp2 ixD (mVarB 7) (mPure (.int 0))) (mPure (.str "some")))) (sSq (sIf (mOr (mTst (mOp2 neD (mOp2 ixD (mVarB 7) (mPure (.int 0))) (mPure (.str "ring")))) (mNot (mTst (mCall f_law_is_loop (mCons (mVar 5) (mCons (mOp2 ixD (mVarB 7) (mPure (.int 1))) (mPure []))))))) (sRet (mPure (.bl false))) sNil)
  sCt) sNil)
  (sSq (sIf (mOr (mNot (mTst (mCall f_law_keeps (mCons (mVar 5) (mCons (mOp2 ixD (mVarB 7) (mPure (.int 1))) (mPure [])))))) (mTst (mCall f_law_bu_has_ring (mCons (mVar 5) (mPure []))))) (sRet (mPure (.bl false))) sNil)
  (sFor (mZip2 (mCons (mVar 5) (mCons (mOp2 ixD (mVarB 7) (mPure (.int 1))) (mPure [])))) (gTp 2 (gCns (gTp 2 (gCns (gNm 12) (gCns (gNm 13) gNl))) (gCns (gNm 9) gNl))) (sSq (sSet 10 (mCallR f_law_bu_bundle (mCons (mVar 1) (mCons (mVar 6) (mCons (mPure (.int 9)) (mPure []))))))
  (sSq (sSet 11 (mCall f_law_least (mCons (mVar 5) (mCons (mOp2 ixD (mVarB 7) (mPure (.int 1))) (mCons (mVar 10) (mPure []))))))
  (sSq (sIf (mNot (mTst (mCall f_law_same (mCons (mLst (mCons (mCall f_straight_wish (mCons (mVar 3) (mCons (mOp2 ixD (mVarB 7) (mPure (.int 1))) (mCons (mVar 10) (mPure []))))) (mCons (mCallK0 f_straight_wish [2, 1, 0] (mCons (mVar 10) (mCons (mOp2 ixD (mVarB 7) (mPure (.int 1))) (mCons (mVar 3) (mPure []))))) (mPure [])))) (mCons (mLst (mCons (mVar 11) (mCons (mVar 11) (mPure [])))) (mPure [])))))) (sRet (mPure (.bl false))) sNil)
  (sSq (sIf (mTst (mOp2 neD (mCall f_straight_wish (mCons (mVar 3) (mCons (mOp2 ixD (mVarB 7) (mPure (.int 1))) (mCons (mVar 13) (mPure []))))) (mVarB 9))) (sRet (mPure (.bl false))) sNil)
  (sIf (mTst (mCall f_law_less (mCons (mCall f_law_minus (mCons (mVar 9) (mCons (mCall f_law_dot (mCons (mVar 12) (mCons (mVar 13) (mPure [])))) (mPure [])))) (mCons (mCall f_law_minus (mCons (mVar 11) (mCons (mCall f_law_dot (mCons (mVar 12) (mCons (mVar 10) (mPure [])))) (mPure [])))) (mPure []))))) (sRet (mPure (.bl false))) sNil)))))))))))))))
  (sRet (mPure (.bl true))))
end K25
namespace Dv
open PySem PyProof.Rows L2

/-! ### evaluating -/
theorem ev_var {i : Nat} {ρ : Lo} {S : Sg} {d : D} (h : ρ[i]? = some (some (.imm d))) : mVar i ρ S = some (d, S) := by unfold mVar; rw [h]
theorem ev_varB {i : Nat} {ρ : Lo} {S : Sg} {d : D} (h : ρ[i]? = some (some (.imm d))) : mVarB i ρ S = some (d, S) := by unfold mVarB; rw [h]
theorem ev_varO {i : Nat} {ρ : Lo} {S : Sg} {d : D} (h : ρ[i]? = some (some (.own d))) : mVarB i ρ S = some (d, S) := by unfold mVarB; rw [h]
theorem addD_int (i j : Int) : addD (.int i) (.int j) = some (.int (i + j)) := rfl
theorem subD_int (i j : Int) : subD (.int i) (.int j) = some (.int (i - j)) := rfl
theorem ltD_int (i j : Int) : ltD (.int i) (.int j) = some (.bl (decide (i < j))) := rfl
theorem leD_int (i j : Int) : leD (.int i) (.int j) = some (.bl (decide (i ≤ j))) := rfl
theorem gtD_int (i j : Int) : gtD (.int i) (.int j) = some (.bl (decide (j < i))) := rfl
theorem geD_int (i j : Int) : geD (.int i) (.int j) = some (.bl (decide (j ≤ i))) := rfl
theorem mulI_int {i j : Int} (h : i.natAbs.log2 + j.natAbs.log2 < 1000000) : mulI (.int i) (.int j) = some (.int (i * j)) := by
  simp [mulI, liftI2, h]
theorem fdivD_int {i j : Int} (h : 0 < j) (h' : j.natAbs.log2 < 9000) : fdivD (.int i) (.int j) = some (.int (i / j)) := by
  simp [fdivD, liftI2, h, h']
theorem modD_int {i j : Int} (h : 0 < j) : modD (.int i) (.int j) = some (.int (i % j)) := by
  simp [modD, liftI2, h]
theorem negD_int (i : Int) : negD (.int i) = some (.int (-i)) := rfl
theorem ix_nat {d : D} {ds : List D} {n : Nat} {x : D} (h : itemsD d = some ds) (e : ds[n]? = some x) : ixD d (.int (n : Int)) = some x := by
  have hn := (List.getElem?_eq_some_iff.mp e).1
  unfold ixD
  simp only [h]
  unfold atI
  rw [show ixN ds.length (n : Int) = some n by unfold ixN; rw [if_pos (by omega), if_pos (by omega)]; simp]
  exact e
theorem ix_neg {d : D} {ds : List D} {x : D} (h : itemsD d = some ds) (e : ds.getLast? = some x) : ixD d (.int (-1)) = some x := by
  have hn : 0 < ds.length := by
    cases ds with
    | nil => cases e
    | cons _ _ => simp
  unfold ixD
  simp only [h]
  unfold atI ixN
  rw [if_neg (by omega), if_pos (by omega)]
  have : ((-1 : Int) + (ds.length : Int)).toNat = ds.length - 1 := by omega
  show ds[((-1 : Int) + (ds.length : Int)).toNat]? = some x
  rw [this, ← List.getLast?_eq_getElem?]
  exact e
theorem len_items {d : D} {ds : List D} (h : itemsD d = some ds) : lenD [d] = some (.int ds.length) := by
  unfold lenD lenA
  simp only [h]
  rfl
theorem gcdD_int (i j : Int) : gcdD [.int i, .int j] = some (.int ((Nat.gcd i.natAbs j.natAbs : Nat) : Int)) := rfl
theorem absD_int (i : Int) : absD [.int i] = some (.int (iabs i)) := rfl

end Dv
namespace Dv
open PySem PyProof.Rows L2

/-! ### comprehensions and loops over lists of known things -/
section
variable {α β : Type} {R : D → α → Prop} {g : MG} {t : MT} {m : ME} {S : Sg}
theorem lc_rel {ρ : Lo} (f : α → D) : ∀ {ds : List D} {xs : List α}, Paired R ds xs → (∀ d a, R d a → a ∈ xs → ∃ ρ1, g d ρ = some ρ1 ∧ t ρ1 S = some (true, S) ∧ m ρ1 S = some (f a, S)) → lcGo ρ g t m ds S = some (xs.map f, S)
  | _, _, .nil, _ => rfl
  | d :: ds, a :: xs, .cons r p, h => by
    obtain ⟨ρ1, e1, e2, e3⟩ := h d a r List.mem_cons_self
    show Option.bind (g d ρ) _ = _
    rw [e1]
    simp only [Option.bind_some]
    rw [e2]
    simp only [Option.bind_some, if_true]
    rw [e3]
    simp only [Option.bind_some]
    rw [lc_rel f p fun d a r ha => h d a r (List.mem_cons_of_mem _ ha)]
    rfl
/-- with a test -/
theorem lc_if {ρ : Lo} (b : α → Bool) (f : α → D) : ∀ {ds : List D} {xs : List α}, Paired R ds xs → (∀ d a, R d a → a ∈ xs → ∃ ρ1, g d ρ = some ρ1 ∧ t ρ1 S = some (b a, S) ∧ (b a = true → m ρ1 S = some (f a, S))) → lcGo ρ g t m ds S = some ((xs.filter b).map f, S)
  | _, _, .nil, _ => rfl
  | d :: ds, a :: xs, .cons r p, h => by
    obtain ⟨ρ1, e1, e2, e3⟩ := h d a r List.mem_cons_self
    show Option.bind (g d ρ) _ = _
    rw [e1]
    simp only [Option.bind_some]
    rw [e2]
    simp only [Option.bind_some]
    have ih := lc_if b f p fun d a r ha => h d a r (List.mem_cons_of_mem _ ha)
    cases hb : b a with
    | true =>
      rw [List.filter_cons_of_pos hb]
      simp only [if_true]
      rw [e3 hb]
      simp only [Option.bind_some]
      rw [ih]; rfl
    | false =>
      rw [List.filter_cons_of_neg (by rw [hb]; exact Bool.false_ne_true)]
      (simp only [Bool.false_eq_true, if_false]); exact ih
/-- the draws are drawn from: an existing run -/
theorem lc_run {ρ : Lo} {P : D → Prop} : ∀ {n : Nat} {ds : List D} {r : Rng} (I : Rng → Prop), ds.length = n → I r → (∀ d ∈ ds, ∀ r, I r → ∃ ρ1 y r', g d ρ = some ρ1 ∧ t ρ1 (some r) = some (true, some r) ∧ m ρ1 (some r) = some (y, some r') ∧ P y ∧ I r') →
    ∃ ys r', lcGo ρ g t m ds (some r) = some (ys, some r') ∧ ys.length = n ∧ (∀ y ∈ ys, P y) ∧ I r'
  | _, [], r, I, hn, hi, _ => ⟨[], r, rfl, hn, (fun _ h => by cases h), hi⟩
  | 0, d :: ds, r, I, hn, hi, h => by simp at hn
  | n + 1, d :: ds, r, I, hn, hi, h => by
    obtain ⟨ρ1, y, r1, e1, e2, e3, p, i1⟩ := h d List.mem_cons_self r hi
    obtain ⟨ys, r2, e4, hl, hp, i2⟩ := lc_run I (n := n) (ds := ds) (by simpa using hn) i1 fun d hd => h d (List.mem_cons_of_mem _ hd)
    refine ⟨y :: ys, r2, ?_, by simp [hl], fun z hz => ?_, i2⟩
    · show Option.bind (g d ρ) _ = _
      rw [e1]
      simp only [Option.bind_some]
      rw [e2]
      simp only [Option.bind_some, if_true]
      rw [e3]
      simp only [Option.bind_some]
      rw [e4]; rfl
    · rcases List.mem_cons.mp hz with rfl | hz
      · exact p
      · exact hp z hz
variable {ms : MS}
/-- for: each turn keeps Inv -/
theorem for_fold (Inv : β → Lo → Prop) (step : β → α → β) : ∀ {ds : List D} {xs : List α}, Paired R ds xs → (∀ d a b ρ, R d a → a ∈ xs → Inv b ρ → ∃ ρ1 fl ρ2, g d ρ = some ρ1 ∧ ms ρ1 S = some (fl, ρ2, S) ∧ (fl = .nx ∨ fl = .ct) ∧ Inv (step b a) ρ2) →
    ∀ b ρ, Inv b ρ → ∃ ρ', forGo g ms ds ρ S = some (.nx, ρ', S) ∧ Inv (xs.foldl step b) ρ'
  | _, _, .nil, _, b, ρ, hi => ⟨ρ, rfl, hi⟩
  | d :: ds, a :: xs, .cons r p, h, b, ρ, hi => by
    obtain ⟨ρ1, fl, ρ2, e1, e2, hf, i2⟩ := h d a b ρ r List.mem_cons_self hi
    obtain ⟨ρ', e3, i3⟩ := for_fold Inv step p (fun d a b ρ r ha => h d a b ρ r (List.mem_cons_of_mem _ ha)) _ _ i2
    refine ⟨ρ', ?_, i3⟩
    show Option.bind (g d ρ) _ = _
    rw [e1]
    simp only [Option.bind_some]
    rw [e2]
    simp only [Option.bind_some]
    rcases hf with rfl | rfl <;> exact e3
/-- for with draws or an early end: each turn keeps Inv (a state of one's own choice) or ends -/
theorem for_run {P : Fl → Lo → Sg → Prop} (Inv : Nat → Lo → Sg → Prop) : ∀ {ds : List D} (k : Nat), (∀ (i : Nat) d ρ S, ds[i]? = some d → Inv (k + i) ρ S → ∃ ρ1 fl ρ2 S2, g d ρ = some ρ1 ∧ ms ρ1 S = some (fl, ρ2, S2) ∧
      match fl with | .nx | .ct => Inv (k + i + 1) ρ2 S2 | .bk => P .nx ρ2 S2 | .rt d => P (.rt d) ρ2 S2) →
    (∀ ρ S, Inv (k + ds.length) ρ S → P .nx ρ S) → ∀ ρ S, Inv k ρ S → ∃ fl ρ' S', forGo g ms ds ρ S = some (fl, ρ', S') ∧ P fl ρ' S'
  | [], k, _, he, ρ, S, hi => ⟨.nx, ρ, S, rfl, he ρ S hi⟩
  | d :: ds, k, h, he, ρ, S, hi => by
    obtain ⟨ρ1, fl, ρ2, S2, e1, e2, hf⟩ := h 0 d ρ S rfl hi
    have ih := for_run (P := P) Inv (ds := ds) (k + 1) (fun i d ρ S hd hi => by
      have := h (i + 1) d ρ S (by simpa using hd) (by rw [show k + (i + 1) = k + 1 + i by omega]; exact hi)
      rw [show k + (i + 1) = k + 1 + i by omega] at this
      exact this) (fun ρ S hi => he ρ S (by rw [List.length_cons, show k + (ds.length + 1) = k + 1 + ds.length by omega]; exact hi))
    have red : forGo g ms (d :: ds) ρ S = (ms ρ1 S).bind fun p => match p.1 with
        | .nx => forGo g ms ds p.2.1 p.2.2
        | .ct => forGo g ms ds p.2.1 p.2.2
        | .bk => some (.nx, p.2.1, p.2.2)
        | .rt d => some (.rt d, p.2.1, p.2.2) := by
      show Option.bind (g d ρ) _ = _
      rw [e1]
      rfl
    cases fl with
    | nx => rw [e2] at red; rw [red]; exact ih ρ2 S2 hf
    | ct => rw [e2] at red; rw [red]; exact ih ρ2 S2 hf
    | bk => rw [e2] at red; rw [red]; exact ⟨_, _, _, rfl, hf⟩
    | rt d => rw [e2] at red; rw [red]; exact ⟨_, _, _, rfl, hf⟩
end
theorem paired_range (n : Nat) : Paired (fun d i => d = D.int (i : Nat) ∧ i < n) (rangeL 0 n) (List.range n) := by
  unfold rangeL
  have e : ((n : Int) - 0).toNat = n := by omega
  rw [e]
  refine paired_of (by simp) fun i x y h1 h2 => ?_
  rw [List.getElem?_map] at h1
  rw [h2] at h1
  simp only [Option.map_some, Option.some.injEq] at h1
  subst h1
  refine ⟨by simp, ?_⟩
  have := List.mem_of_getElem? h2
  simpa using this
theorem rg1_nat {m : MA} {ρ : Lo} {S S' : Sg} {n : Nat} (h : m ρ S = some ([.int (n : Nat)], S')) (hn : n ≤ 1000000) : mRg1 m ρ S = some (rangeL 0 n, S') := by
  unfold mRg1
  rw [h]
  simp only [Option.bind_some]
  rw [if_pos (by omega)]
theorem paired_zip {α β : Type} {R : D → α → Prop} {Q : D → β → Prop} : ∀ {ds es : List D} {xs : List α} {ys : List β}, Paired R ds xs → Paired Q es ys → Paired (fun d p => ∃ x y, d = D.tup [x, y] ∧ R x p.1 ∧ Q y p.2) (List.zipWith (fun a b => D.tup [a, b]) ds es) (xs.zip ys)
  | _, _, _, _, .nil, _ => .nil
  | _, _, _, _, .cons _ _, .nil => .nil
  | _, _, _, _, .cons r p, .cons q s => .cons ⟨_, _, rfl, r, q⟩ (paired_zip p s)
theorem paired_mapL {α : Type} {R : D → α → Prop} {e : α → D} (h : ∀ a, R (e a) a) : ∀ xs : List α, Paired R (xs.map e) xs
  | [] => .nil
  | a :: xs => .cons (h a) (paired_mapL h xs)
theorem paired_mapM {α : Type} {R : D → α → Prop} {e : α → D} : ∀ {xs : List α}, (∀ a ∈ xs, R (e a) a) → Paired R (xs.map e) xs
  | [], _ => .nil
  | a :: xs, h => .cons (h a List.mem_cons_self) (paired_mapM fun b hb => h b (List.mem_cons_of_mem _ hb))
end Dv
namespace Dv
open PySem PyProof.Rows L2
/-- a comprehension that draws, the turns counted -/
theorem lc_runN {g : MG} {t : MT} {m : ME} {ρ : Lo} {P : D → Prop} : ∀ {ds : List D} {r : Rng} (k : Nat) (I : Nat → Rng → Prop), I k r → (∀ (i : Nat) d r, ds[i]? = some d → I (k + i) r → ∃ ρ1 y r', g d ρ = some ρ1 ∧ t ρ1 (some r) = some (true, some r) ∧ m ρ1 (some r) = some (y, some r') ∧ P y ∧ I (k + i + 1) r') →
    ∃ ys r', lcGo ρ g t m ds (some r) = some (ys, some r') ∧ ys.length = ds.length ∧ (∀ y ∈ ys, P y) ∧ I (k + ds.length) r'
  | [], r, k, I, hi, _ => ⟨[], r, rfl, rfl, (fun _ h => by cases h), hi⟩
  | d :: ds, r, k, I, hi, h => by
    obtain ⟨ρ1, y, r1, e1, e2, e3, p, i1⟩ := h 0 d r rfl hi
    obtain ⟨ys, r2, e4, hl, hp, i2⟩ := lc_runN (k + 1) I i1 fun i d r hd hI => by
      have := h (i + 1) d r (by simpa using hd) (by rw [show k + (i + 1) = k + 1 + i by omega]; exact hI)
      rw [show k + (i + 1) = k + 1 + i by omega] at this
      exact this
    refine ⟨y :: ys, r2, ?_, by simp [hl], fun z hz => ?_, by rw [List.length_cons, show k + (ds.length + 1) = k + 1 + ds.length by omega]; exact i2⟩
    · show Option.bind (g d ρ) _ = _
      rw [e1]
      simp only [Option.bind_some]
      rw [e2]
      simp only [Option.bind_some, if_true]
      rw [e3]
      simp only [Option.bind_some]
      rw [e4]; rfl
    · rcases List.mem_cons.mp hz with rfl | hz
      · exact p
      · exact hp z hz
end Dv
namespace BF
/-! Shortest ways by laps (Bellman, Ford), over any ordered group: plain mathematics. -/
structure OG (α : Type) where
  op : α → α → α
  one : α
  lt : α → α → Bool
  irrefl : ∀ a, lt a a = false
  trans : ∀ a b c, lt a b = true → lt b c = true → lt a c = true
  tri : ∀ a b, lt a b = false → lt b a = false → a = b
  comm : ∀ a b, op a b = op b a
  assoc : ∀ a b c, op (op a b) c = op a (op b c)
  one_op : ∀ a, op one a = a
  mono : ∀ a b c, lt a b = true → lt (op a c) (op b c) = true
section
variable {α : Type} (O : OG α)
def le (a b : α) : Prop := O.lt b a = false
theorem le_refl (a : α) : le O a a := O.irrefl a
variable {O}
theorem le_of_lt {a b : α} (h : O.lt a b = true) : le O a b := by
  unfold le
  cases e : O.lt b a with
  | false => rfl
  | true => have := O.trans _ _ _ h e; rw [O.irrefl] at this; cases this
theorem lt_or_eq {a b : α} (h : le O a b) : O.lt a b = true ∨ a = b := by
  cases e : O.lt a b with
  | true => exact .inl rfl
  | false => exact .inr (O.tri _ _ e h)
theorem lt_of_le_lt {a b c : α} (h : le O a b) (h' : O.lt b c = true) : O.lt a c = true := by
  rcases lt_or_eq h with h | rfl
  · exact O.trans _ _ _ h h'
  · exact h'
theorem lt_of_lt_le {a b c : α} (h : O.lt a b = true) (h' : le O b c) : O.lt a c = true := by
  rcases lt_or_eq h' with h' | rfl
  · exact O.trans _ _ _ h h'
  · exact h
theorem le_trans {a b c : α} (h : le O a b) (h' : le O b c) : le O a c := by
  rcases lt_or_eq h with h | rfl
  · exact le_of_lt (lt_of_lt_le h h')
  · exact h'
theorem not_lt {a b : α} (h : O.lt a b = false) : le O b a := h
theorem op_le {a b : α} (c : α) (h : le O a b) : le O (O.op a c) (O.op b c) := by
  rcases lt_or_eq h with h | rfl
  · exact le_of_lt (O.mono _ _ _ h)
  · exact le_refl O _
theorem op_one (a : α) : O.op a O.one = a := by rw [O.comm, O.one_op]
theorem lt_one_of {a x : α} (h : O.lt (O.op a x) a = true) : O.lt x O.one = true := by
  cases e : O.lt x O.one with
  | true => rfl
  | false =>
    have h1 : le O (O.op O.one a) (O.op x a) := op_le a e
    rw [O.one_op, O.comm x a] at h1
    have := lt_of_le_lt h1 h
    rw [O.irrefl] at this; cases this

/-! ### the laps -/
structure St (α : Type) where
  lev : Nat → α
  back : Nat → Option Nat
  ch : Option Nat
def up {β : Type} (f : Nat → β) (j : Nat) (x : β) : Nat → β := fun k => if k = j then x else f k
theorem up_same {β : Type} {f : Nat → β} {j : Nat} {x : β} : up f j x j = x := if_pos rfl
theorem up_ne {β : Type} {f : Nat → β} {j k : Nat} {x : β} (h : k ≠ j) : up f j x k = f k := if_neg h
variable (O) (g : Nat → Nat → α)
def relax (s : St α) (p : Nat × Nat) : St α := if O.lt (O.op (s.lev p.1) (g p.1 p.2)) (s.lev p.2) then ⟨up s.lev p.2 (O.op (s.lev p.1) (g p.1 p.2)), up s.back p.2 (some p.1), some p.2⟩ else s
/-- what holds at any time; T: when was the level set -/
structure Good (n : Nat) (s : St α) (T : Nat → Nat) (now : Nat) : Prop where
  root : ∀ j, s.back j = none → s.lev j = O.one
  edge : ∀ j i, s.back j = some i → i < n ∧ le O (O.op (s.lev i) (g i j)) (s.lev j) ∧ (O.op (s.lev i) (g i j) = s.lev j → T i < T j)
  time : ∀ j, T j ≤ now
/-- from s0 on, over the pairs L -/
structure Run (n : Nat) (s0 s : St α) (L : List (Nat × Nat)) : Prop where
  good : ∃ T now, Good O g n s T now
  mono : ∀ x, le O (s.lev x) (s0.lev x)
  none : s.ch = none → s.lev = s0.lev ∧ s.back = s0.back
  some : ∀ c, s.ch = some c → c < n ∧ O.lt (s.lev c) (s0.lev c) = true
  rel : ∀ p ∈ L, le O (s.lev p.2) (O.op (s0.lev p.1) (g p.1 p.2))
variable {O g}
theorem run_nil {n : Nat} {s : St α} {T now} (h : Good O g n s T now) (hc : s.ch = none) : Run O g n s s [] :=
  ⟨⟨T, now, h⟩, fun _ => le_refl O _, fun _ => ⟨rfl, rfl⟩, (fun c e => by rw [hc] at e; cases e), (fun p hp => by cases hp)⟩
theorem run_step {n : Nat} {s0 s : St α} {L : List (Nat × Nat)} (hg : ∀ i, g i i = O.one) {p : Nat × Nat} (h1 : p.1 < n) (h2 : p.2 < n) (h : Run O g n s0 s L) : Run O g n s0 (relax O g s p) (L ++ [p]) := by
  unfold relax
  cases e : O.lt (O.op (s.lev p.1) (g p.1 p.2)) (s.lev p.2) with
  | false =>
    ((simp only [Bool.false_eq_true, if_false]); refine ⟨h.good, h.mono, h.none, h.some, fun q hq => ?_⟩); rcases List.mem_append.mp hq with hq | hq
    · exact h.rel q hq
    · (rw [List.mem_singleton.mp hq]); exact le_trans (not_lt e) (op_le _ (h.mono _))
  | true =>
    simp only [if_true]
    have hne : p.1 ≠ p.2 := fun z => by rw [← z, hg, op_one, O.irrefl] at e; cases e
    obtain ⟨T, now, G⟩ := h.good
    have hm : ∀ x, le O (up s.lev p.2 (O.op (s.lev p.1) (g p.1 p.2)) x) (s.lev x) := fun x => by
      by_cases hx : x = p.2
      · subst hx; rw [up_same]; exact le_of_lt e
      · rw [up_ne hx]; exact le_refl O _
    refine ⟨⟨up T p.2 (now + 1), now + 1, fun j hj => ?_, fun j i hj => ?_, fun j => ?_⟩, fun x => le_trans (hm x) (h.mono x), (fun z => by cases z), fun c z => ?_, fun q hq => ?_⟩
    · by_cases hx : j = p.2
      · subst hx; simp only [up_same] at hj; cases hj
      · simp only [up_ne hx] at hj ⊢; exact G.root j hj
    · by_cases hx : j = p.2
      · subst hx
        simp only [up_same] at hj ⊢
        cases hj
        simp only [up_ne hne]
        exact ⟨h1, le_refl O _, fun _ => Nat.lt_succ_of_le (G.time _)⟩
      · simp only [up_ne hx] at hj ⊢
        obtain ⟨a, b, c⟩ := G.edge j i hj
        by_cases hi : i = p.2
        · subst hi
          simp only [up_same]
          have hs : O.lt (O.op (O.op (s.lev p.1) (g p.1 p.2)) (g p.2 j)) (s.lev j) = true := lt_of_lt_le (O.mono _ _ _ e) b
          exact ⟨a, le_of_lt hs, fun z => by rw [z, O.irrefl] at hs; cases hs⟩
        · simp only [up_ne hi]
          exact ⟨a, b, c⟩
    · by_cases hx : j = p.2
      · subst hx; rw [up_same]; exact Nat.le_refl _
      · rw [up_ne hx]; exact Nat.le_succ_of_le (G.time j)
    · cases z
      refine ⟨h2, ?_⟩
      simp only [up_same]
      exact lt_of_lt_le e (h.mono _)
    · (rcases List.mem_append.mp hq with hq | hq)
      · exact le_trans (hm _) (h.rel q hq)
      · (rw [List.mem_singleton.mp hq]); simp only [up_same]
        exact op_le _ (h.mono _)
theorem run_all {n : Nat} {s0 : St α} (hg : ∀ i, g i i = O.one) : ∀ {L : List (Nat × Nat)} {s : St α} {L0 : List (Nat × Nat)}, (∀ p ∈ L, p.1 < n ∧ p.2 < n) → Run O g n s0 s L0 → Run O g n s0 (L.foldl (relax O g) s) (L0 ++ L)
  | [], s, L0, _, h => by simpa using h
  | p :: L, s, L0, hp, h => by
    have := run_all hg (L := L) (fun q hq => hp q (List.mem_cons_of_mem _ hq)) (run_step hg (hp p List.mem_cons_self).1 (hp p List.mem_cons_self).2 h)
    simpa using this
def pairs (n : Nat) : List (Nat × Nat) := (List.range n).flatMap fun i => (List.range n).map fun j => (i, j)
theorem mem_pairs {n : Nat} {p : Nat × Nat} : p ∈ pairs n ↔ p.1 < n ∧ p.2 < n := by
  obtain ⟨a, b⟩ := p
  simp [pairs]
variable (O g)
def lap (n : Nat) (s : St α) : St α := (pairs n).foldl (relax O g) { s with ch := none }
def init : St α := ⟨fun _ => O.one, fun _ => none, none⟩
def laps (n : Nat) : Nat → St α
  | 0 => init O
  | k + 1 => lap O g n (laps n k)
variable {O g}
theorem good_ch {n : Nat} {s : St α} {T now} (h : Good O g n s T now) (c : Option Nat) : Good O g n { s with ch := c } T now := ⟨h.root, h.edge, h.time⟩
theorem laps_good {n : Nat} (hg : ∀ i, g i i = O.one) : ∀ k, ∃ T now, Good O g n (laps O g n k) T now
  | 0 => ⟨fun _ => 0, 0, fun _ _ => rfl, (fun _ _ e => by cases e), fun _ => Nat.le_refl _⟩
  | k + 1 => by
    obtain ⟨T, now, G⟩ := laps_good hg k
    have h := run_all (n := n) hg (L := pairs n) (fun p hp => mem_pairs.mp hp) (run_nil (good_ch G none) rfl)
    exact h.good
theorem laps_run {n : Nat} (hg : ∀ i, g i i = O.one) (k : Nat) : Run O g n { laps O g n k with ch := none } (laps O g n (k + 1)) (pairs n) := by
  obtain ⟨T, now, G⟩ := laps_good (O := O) (g := g) (n := n) hg k
  have h := run_all (n := n) hg (L := pairs n) (fun p hp => mem_pairs.mp hp) (run_nil (good_ch G none) rfl)
  rw [List.nil_append] at h
  exact h
/-- no change: the levels keep all -/
theorem laps_some {n : Nat} (hg : ∀ i, g i i = O.one) {k : Nat} (h : (laps O g n (k + 1)).ch = none) : ∀ i j, i < n → j < n → le O ((laps O g n (k + 1)).lev j) (O.op ((laps O g n (k + 1)).lev i) (g i j)) := fun i j hi hj => by
  have R := laps_run (O := O) (g := g) (n := n) hg k
  have e := (R.none h).1
  have := R.rel (i, j) (mem_pairs.mpr ⟨hi, hj⟩)
  rw [← e] at this
  exact this
theorem laps_mono {n : Nat} (hg : ∀ i, g i i = O.one) (x : Nat) : ∀ {k m : Nat}, k ≤ m → le O ((laps O g n m).lev x) ((laps O g n k).lev x)
  | k, m, h => by
    induction h with
    | refl => exact le_refl O _
    | step _ ih => exact le_trans ((laps_run hg _).mono x) ih

/-! ### the way back -/
def chain (back : Nat → Option Nat) (c : Nat) : Nat → Nat
  | 0 => c
  | t + 1 => (back (chain back c t)).getD 0
theorem chain_root {n : Nat} (hg : ∀ i, g i i = O.one) {c : Nat} (hc : (laps O g n (n + 1)).ch = some c) : ∀ k, k ≤ n → (laps O g n (n + 1)).back (chain (laps O g n (n + 1)).back c k) ≠ none := by
  obtain ⟨T, now, G⟩ := laps_good (O := O) (g := g) (n := n) hg (n + 1)
  intro k
  induction k using Nat.strongRecOn with
  | ind k ih =>
    intro hk hn
    have step : ∀ t, t ≤ k → le O ((laps O g n t).lev (chain (laps O g n (n + 1)).back c (k - t))) ((laps O g n (n + 1)).lev (chain (laps O g n (n + 1)).back c (k - t))) := by
      intro t
      induction t with
      | zero =>
        intro _
        rw [Nat.sub_zero, G.root _ hn]
        exact le_refl O _
      | succ t iht =>
        intro ht
        have h1 := iht (by omega)
        have hd := ih (k - (t + 1)) (by omega) (by omega)
        obtain ⟨i, hi⟩ := Option.ne_none_iff_exists'.mp hd
        have hi' : chain (laps O g n (n + 1)).back c (k - t) = i := by
          have e : k - t = (k - (t + 1)) + 1 := by omega
          rw [e]
          show (Option.getD _ 0) = i
          rw [hi]; rfl
        rw [hi'] at h1
        obtain ⟨a, b, _⟩ := G.edge _ _ hi
        have hj : chain (laps O g n (n + 1)).back c (k - (t + 1)) < n := by
          by_cases z : k - (t + 1) = 0
          · rw [z]; exact ((laps_run hg n).some c hc).1
          · have hd2 := ih (k - (t + 1) - 1) (by omega) (by omega)
            obtain ⟨i2, hi2⟩ := Option.ne_none_iff_exists'.mp hd2
            have e : k - (t + 1) = (k - (t + 1) - 1) + 1 := by omega
            rw [e]
            show (Option.getD _ 0) < n
            rw [hi2]
            exact (G.edge _ _ hi2).1
        have hr := (laps_run (O := O) (g := g) (n := n) hg t).rel (i, chain (laps O g n (n + 1)).back c (k - (t + 1))) (mem_pairs.mpr ⟨a, hj⟩)
        exact le_trans hr (le_trans (op_le _ h1) b)
    have h1 := step k (Nat.le_refl _)
    rw [Nat.sub_self] at h1
    have h2 := laps_mono (O := O) (g := g) (n := n) hg c hk
    have h3 := ((laps_run hg n).some c hc).2
    have h4 : le O ((laps O g n n).lev c) ((laps O g n (n + 1)).lev c) := le_trans h2 h1
    have := lt_of_lt_le h3 h4
    rw [O.irrefl] at this; cases this
/-! ### the ring -/
theorem nodup_len : ∀ (n : Nat) {l : List Nat}, l.Nodup → (∀ x ∈ l, x < n) → l.length ≤ n
  | 0, l, _, h => by
    cases l with
    | nil => exact Nat.le_refl _
    | cons x l => exact absurd (h x List.mem_cons_self) (Nat.not_lt_zero _)
  | n + 1, l, hn, h => by
    have h1 := nodup_len n (l := l.erase n) (hn.erase n) fun x hx => by
      have h2 := h x (List.mem_of_mem_erase hx)
      have h3 : x ≠ n := fun z => by rw [z] at hx; exact (List.Nodup.not_mem_erase hn) hx
      omega
    have h4 : l.length ≤ (l.erase n).length + 1 := by
      rw [List.length_erase]
      split <;> omega
    omega
/-- among more than n numbers below n two are alike -/
theorem pigeon {n : Nat} (f : Nat → Nat) (h : ∀ t, t ≤ n → f t < n) : ∃ a b, a < b ∧ b ≤ n ∧ f a = f b := by
  refine Classical.byContradiction fun hc => ?_
  have hnd : ((List.range (n + 1)).map f).Nodup := by
    rw [List.nodup_iff_pairwise_ne, List.pairwise_map]
    refine List.Pairwise.imp_of_mem ?_ (List.pairwise_lt_range (n := n + 1))
    intro a b _ hb hab e
    rw [List.mem_range] at hb
    exact hc ⟨a, b, hab, by omega, e⟩
  have hsub : ∀ x ∈ (List.range (n + 1)).map f, x ∈ List.range n := fun x hx => by
    obtain ⟨t, ht, rfl⟩ := List.mem_map.mp hx
    rw [List.mem_range] at ht ⊢
    exact h t (by omega)
  have hle := nodup_len n hnd fun x hx => List.mem_range.mp (hsub x hx)
  simp at hle
  omega
section ring
variable {n : Nat} {back : Nat → Option Nat} {c : Nat}
theorem chain_add (a : Nat) : ∀ t, chain back (chain back c a) t = chain back c (a + t)
  | 0 => rfl
  | t + 1 => by
    show (back _).getD 0 = (back _).getD 0
    rw [chain_add a t]
    rfl
/-- from a place that comes again the way turns round -/
theorem chain_per {a p : Nat} (h : chain back c (a + p) = chain back c a) : ∀ t, chain back c (a + p + t) = chain back c (a + t) := fun t => by
  rw [← chain_add (a + p), h, chain_add]
theorem chain_back (t : Nat) (h : back (chain back c t) ≠ none) : back (chain back c t) = some (chain back c (t + 1)) := by
  obtain ⟨i, hi⟩ := Option.ne_none_iff_exists'.mp h
  show _ = some ((back _).getD 0)
  rw [hi]; rfl
/-- where the first n places have one behind them, all have, and the n-th place comes again -/
theorem chain_cycle (hb : ∀ k, k ≤ n → back (chain back c k) ≠ none) (hlt : ∀ j i, back j = some i → i < n) (hc : c < n) :
    (∀ k, back (chain back c k) ≠ none) ∧ (∀ k, chain back c k < n) ∧ ∃ p, 0 < p ∧ p ≤ n ∧ chain back c (n + p) = chain back c n := by
  have hl : ∀ k, k ≤ n → chain back c k < n := fun k hk => by
    cases k with
    | zero => exact hc
    | succ k => exact hlt _ _ (chain_back k (hb k (by omega)))
  obtain ⟨a, b, hab, hbn, e⟩ := pigeon (chain back c) hl
  have hper : ∀ t, chain back c (a + (b - a) + t) = chain back c (a + t) := chain_per (p := b - a) (by rw [show a + (b - a) = b by omega]; exact e.symm)
  have hall : ∀ k, ∃ m, m ≤ n ∧ chain back c k = chain back c m := by
    intro k
    induction k using Nat.strongRecOn with
    | ind k ih =>
      by_cases hk : k ≤ n
      · exact ⟨k, hk, rfl⟩
      · obtain ⟨m, h1, h2⟩ := ih (k - (b - a)) (by omega)
        refine ⟨m, h1, ?_⟩
        rw [← h2]
        have := hper (k - b)
        rw [show a + (b - a) + (k - b) = k by omega, show a + (k - b) = k - (b - a) by omega] at this
        exact this
  refine ⟨fun k => ?_, fun k => ?_, b - a, by omega, by omega, ?_⟩
  · obtain ⟨m, h1, h2⟩ := hall k
    rw [h2]; exact hb m h1
  · obtain ⟨m, h1, h2⟩ := hall k
    rw [h2]; exact hl m h1
  · have := hper (n - a)
    rw [show a + (b - a) + (n - a) = n + (b - a) by omega, show a + (n - a) = n by omega] at this
    exact this
end ring
/-- the first number from 1 on for which P -/
theorem least {P : Nat → Prop} [DecidablePred P] {m : Nat} (h0 : 0 < m) (h : P m) : ∃ p, 0 < p ∧ p ≤ m ∧ P p ∧ ∀ q, 0 < q → q < p → ¬ P q := by
  induction m using _root_.Nat.strongRecOn with
  | ind m ih =>
    by_cases e : ∃ q, 0 < q ∧ q < m ∧ P q
    · obtain ⟨q, a, b, c⟩ := e
      obtain ⟨p, h1, h2, h3⟩ := ih q b a c
      exact ⟨p, h1, by omega, h3⟩
    · exact ⟨m, h0, Nat.le_refl _, h, fun q a b c => e ⟨q, a, b, c⟩⟩
variable (O)
def prod (l : List α) : α := l.foldl O.op O.one
variable {O}
theorem foldl_op (a : α) : ∀ l : List α, l.foldl O.op a = O.op a (prod O l)
  | [] => (op_one a).symm
  | x :: l => by
    show l.foldl O.op (O.op a x) = _
    rw [foldl_op (O.op a x) l, O.assoc]
    congr 1
    show _ = l.foldl O.op (O.op O.one x)
    rw [O.one_op, foldl_op x l]
theorem prod_cons (x : α) (l : List α) : prod O (x :: l) = O.op x (prod O l) := by
  show l.foldl O.op (O.op O.one x) = _
  rw [O.one_op, foldl_op]
theorem prod_append (l m : List α) : prod O (l ++ m) = O.op (prod O l) (prod O m) := by
  show (l ++ m).foldl O.op O.one = _
  rw [List.foldl_append, foldl_op]; rfl
theorem prod_one (x : α) : prod O [x] = x := O.one_op x
/-- round the ring, once: less than nothing -/
theorem ring_less {n : Nat} {s : St α} {T now} (G : Good O g n s T now) {c p : Nat} (hb : ∀ k, s.back (chain s.back c k) ≠ none) (hp : 0 < p) (hc : chain s.back c p = c) :
    O.lt (prod O ((List.range p).reverse.map fun t => g (chain s.back c (t + 1)) (chain s.back c t))) O.one = true := by
  have key : ∀ m, le O (O.op (s.lev (chain s.back c m)) (prod O ((List.range m).reverse.map fun t => g (chain s.back c (t + 1)) (chain s.back c t)))) (s.lev c) ∧
      (0 < m → O.op (s.lev (chain s.back c m)) (prod O ((List.range m).reverse.map fun t => g (chain s.back c (t + 1)) (chain s.back c t))) = s.lev c → T (chain s.back c m) < T c) := by
    intro m
    induction m with
    | zero => exact ⟨by show le O (O.op (s.lev c) O.one) (s.lev c); rw [op_one]; exact le_refl O _, fun h => absurd h (Nat.lt_irrefl 0)⟩
    | succ m ih =>
      obtain ⟨a, b, e⟩ := G.edge _ _ (chain_back m (hb m))
      have er : (List.range (m + 1)).reverse.map (fun t => g (chain s.back c (t + 1)) (chain s.back c t)) = g (chain s.back c (m + 1)) (chain s.back c m) :: (List.range m).reverse.map fun t => g (chain s.back c (t + 1)) (chain s.back c t) := by
        rw [List.range_succ, List.reverse_append]; rfl
      rw [er, prod_cons, ← O.assoc]
      have h1 := op_le (prod O ((List.range m).reverse.map fun t => g (chain s.back c (t + 1)) (chain s.back c t))) b
      refine ⟨le_trans h1 ih.1, fun _ z => ?_⟩
      have e1 : O.op (s.lev (chain s.back c (m + 1))) (g (chain s.back c (m + 1)) (chain s.back c m)) = s.lev (chain s.back c m) := by
        rcases lt_or_eq b with b | b
        · have := lt_of_lt_le (O.mono _ _ (prod O ((List.range m).reverse.map fun t => g (chain s.back c (t + 1)) (chain s.back c t))) b) ih.1
          rw [z, O.irrefl] at this; cases this
        · exact b
      have h2 := e e1
      by_cases hm : m = 0
      · subst hm; exact h2
      · rw [e1] at z
        exact Nat.lt_trans h2 (ih.2 (by omega) z)
  obtain ⟨h1, h2⟩ := key p
  rw [hc] at h1 h2
  refine lt_one_of (a := s.lev c) ?_
  rcases lt_or_eq h1 with h | h
  · exact h
  · exact absurd (h2 hp h) (Nat.lt_irrefl _)
end
end BF
namespace K25
open PySem PyProof.Rows L2 Dv

/-! ### ratios as data -/
def mk (q : Rat) : D := .tup [.int q.num, .int q.den]
def IsR (d : D) (q : Rat) : Prop := d = mk q ∨ d = .kt [.int q.num, .int q.den]
theorem isR_mk (q : Rat) : IsR (mk q) q := .inl rfl
theorem isR_zero : IsR (.kt [.int 0, .int 1]) 0 := .inr rfl
theorem isR_zero' : IsR (.tup [.int 0, .int 1]) 0 := .inl rfl
theorem IsR.items {d : D} {q : Rat} (h : IsR d q) : itemsD d = some [.int q.num, .int q.den] := by rcases h with rfl | rfl <;> rfl
theorem IsR.at0 {d : D} {q : Rat} (h : IsR d q) : ixD d (.int 0) = some (.int q.num) := by rcases h with rfl | rfl <;> rfl
theorem IsR.at1 {d : D} {q : Rat} (h : IsR d q) : ixD d (.int 1) = some (.int q.den) := by rcases h with rfl | rfl <;> rfl

/-! ### sizes -/
theorem log2_mul (a b : Nat) : (a * b).log2 ≤ a.log2 + b.log2 + 1 := by
  by_cases ha : a = 0
  · subst ha; simp
  by_cases hb : b = 0
  · subst hb; simp
  have h0 : a * b ≠ 0 := Nat.mul_ne_zero ha hb
  have h1 : a < 2 ^ (a.log2 + 1) := Nat.lt_log2_self
  have h2 : b < 2 ^ (b.log2 + 1) := Nat.lt_log2_self
  have h3 : a * b < 2 ^ ((a.log2 + 1) + (b.log2 + 1)) := by
    rw [Nat.pow_add]
    exact Nat.mul_lt_mul'' h1 h2
  have := (Nat.log2_lt h0).mpr h3
  omega
theorem log2_mono {a b : Nat} (h : a ≤ b) : a.log2 ≤ b.log2 := by
  by_cases ha : a = 0
  · subst ha; simp
  · have hb : b ≠ 0 := by omega
    have h2 : a < 2 ^ (b.log2 + 1) := Nat.lt_of_le_of_lt h Nat.lt_log2_self
    have := (Nat.log2_lt ha).mpr h2
    omega
structure Sm (q : Rat) : Prop where
  den : q.den.log2 < 4000
  num : q.num.natAbs.log2 < 100000
theorem Sm.nd {a b : Rat} (h : Sm a) (h' : Sm b) : a.num.natAbs.log2 + (b.den : Int).natAbs.log2 < 1000000 := by
  have := h.num; have := h'.den
  simp only [Int.natAbs_natCast]; omega
theorem Sm.nn {a b : Rat} (h : Sm a) (h' : Sm b) : a.num.natAbs.log2 + b.num.natAbs.log2 < 1000000 := by
  have := h.num; have := h'.num
  omega
theorem Sm.dd {a b : Rat} (h : Sm a) (h' : Sm b) : (a.den : Int).natAbs.log2 + (b.den : Int).natAbs.log2 < 1000000 := by
  have := h.den; have := h'.den
  simp only [Int.natAbs_natCast]; omega
theorem Sm.dd9 {a b : Rat} (h : Sm a) (h' : Sm b) : (a.den * b.den).log2 < 9000 := by
  have := log2_mul a.den b.den
  have := h.den; have := h'.den
  omega

/-! ### lowest, plus, minus, times, is_less -/
theorem lowest_nat {n : Int} {k : Nat} (hk : k ≠ 0) (hs : k.log2 < 9000) : f_lowest [.int n, .int (k : Int)] = some (mk (mkRat n k)) := by
  have hg0 : 0 < Nat.gcd n.natAbs k := Nat.gcd_pos_of_pos_right _ (by omega)
  have hg : (0 : Int) < (Nat.gcd n.natAbs k : Nat) := by omega
  have hle : Nat.gcd n.natAbs k ≤ k := Nat.gcd_le_right _ (by omega)
  have hl : ((Nat.gcd n.natAbs k : Nat) : Int).natAbs.log2 < 9000 := by
    rw [Int.natAbs_natCast]; exact Nat.lt_of_le_of_lt (log2_mono hle) hs
  have hd : (0 : Int) < (k : Int) := by omega
  have e1 : (mkRat n k).num = n / ((Nat.gcd n.natAbs k : Nat) : Int) := by
    rw [Rat.num_mkRat, if_neg hk, Nat.gcd_comm]
  have e2 : ((mkRat n k).den : Int) = (k : Int) / ((Nat.gcd n.natAbs k : Nat) : Int) := by
    rw [Rat.den_mkRat, if_neg hk, Nat.gcd_comm]; rfl
  simp only [runP, startL, outF, mVar, mVarB, mPure, mOp1, mOp2, mCons, mCall, mTup, mLst, mTst, asB, mNot, mAnd, mOr, mAndV, mOrV, mIte, mSeq, sSq, sIf, sRet, sSet, sSetF, sNil, sFrz, frz, sExpr, sPar2, sPar3, sAsg, mkL, gNm, gTp, gCns, gNl, D.asT, itemsD, addD_int, subD_int, ltD_int, leD_int, gtD_int, geD_int, negD_int, gcdD_int, absD_int, Option.bind_some, Option.map_some, Option.bind_none, Option.map_none, List.map_cons, List.map_nil, List.length_cons, List.length_nil, List.cons_append, List.nil_append, List.getElem?_cons_zero, List.getElem?_cons_succ, List.set_cons_zero, List.set_cons_succ, List.replicate_succ, List.replicate_zero, Nat.reduceAdd, Nat.reduceSub, Nat.reduceLeDiff, if_true, if_false, ite_true, ite_false, Bool.false_eq_true, f_lowest, m_lowest, hd, decide_true, fdivD_int hg hl, Int.natAbs_natCast, mk, e1, e2]
theorem plus_ev {x y : D} {a b : Rat} (hx : IsR x a) (hy : IsR y b) (sa : Sm a) (sb : Sm b) : f_plus [x, y] = some (mk (a + b)) := by
  have e : f_lowest [.int (a.num * b.den + b.num * a.den), .int ((a.den * b.den : Nat) : Int)] = some (mk (a + b)) := by
    rw [lowest_nat (Nat.mul_ne_zero a.den_nz b.den_nz) (sa.dd9 sb), Rat.add_def']
  rw [Int.natCast_mul] at e
  simp only [runP, startL, outF, mVar, mVarB, mPure, mOp1, mOp2, mCons, mCall, mTup, mLst, mTst, asB, mNot, mAnd, mOr, mAndV, mOrV, mIte, mSeq, sSq, sIf, sRet, sSet, sSetF, sNil, sFrz, frz, sExpr, sPar2, sPar3, sAsg, mkL, gNm, gTp, gCns, gNl, D.asT, itemsD, addD_int, subD_int, ltD_int, leD_int, gtD_int, geD_int, negD_int, gcdD_int, absD_int, Option.bind_some, Option.map_some, Option.bind_none, Option.map_none, List.map_cons, List.map_nil, List.length_cons, List.length_nil, List.cons_append, List.nil_append, List.getElem?_cons_zero, List.getElem?_cons_succ, List.set_cons_zero, List.set_cons_succ, List.replicate_succ, List.replicate_zero, Nat.reduceAdd, Nat.reduceSub, Nat.reduceLeDiff, if_true, if_false, ite_true, ite_false, Bool.false_eq_true, f_plus, m_plus, hx.at0, hx.at1, hy.at0, hy.at1, mulI_int (sa.nd sb), mulI_int (sb.nd sa), mulI_int (sa.dd sb), e]
theorem minus_ev {x y : D} {a b : Rat} (hx : IsR x a) (hy : IsR y b) (sa : Sm a) (sb : Sm b) : f_minus [x, y] = some (mk (a - b)) := by
  have e : f_lowest [.int (a.num * b.den - b.num * a.den), .int ((a.den * b.den : Nat) : Int)] = some (mk (a - b)) := by
    rw [lowest_nat (Nat.mul_ne_zero a.den_nz b.den_nz) (sa.dd9 sb), Rat.sub_def']
  rw [Int.natCast_mul] at e
  simp only [runP, startL, outF, mVar, mVarB, mPure, mOp1, mOp2, mCons, mCall, mTup, mLst, mTst, asB, mNot, mAnd, mOr, mAndV, mOrV, mIte, mSeq, sSq, sIf, sRet, sSet, sSetF, sNil, sFrz, frz, sExpr, sPar2, sPar3, sAsg, mkL, gNm, gTp, gCns, gNl, D.asT, itemsD, addD_int, subD_int, ltD_int, leD_int, gtD_int, geD_int, negD_int, gcdD_int, absD_int, Option.bind_some, Option.map_some, Option.bind_none, Option.map_none, List.map_cons, List.map_nil, List.length_cons, List.length_nil, List.cons_append, List.nil_append, List.getElem?_cons_zero, List.getElem?_cons_succ, List.set_cons_zero, List.set_cons_succ, List.replicate_succ, List.replicate_zero, Nat.reduceAdd, Nat.reduceSub, Nat.reduceLeDiff, if_true, if_false, ite_true, ite_false, Bool.false_eq_true, f_minus, m_minus, hx.at0, hx.at1, hy.at0, hy.at1, mulI_int (sa.nd sb), mulI_int (sb.nd sa), mulI_int (sa.dd sb), e]
theorem times_ev {x y : D} {a b : Rat} (hx : IsR x a) (hy : IsR y b) (sa : Sm a) (sb : Sm b) : f_times [x, y] = some (mk (a * b)) := by
  have e : f_lowest [.int (a.num * b.num), .int ((a.den * b.den : Nat) : Int)] = some (mk (a * b)) := by
    rw [lowest_nat (Nat.mul_ne_zero a.den_nz b.den_nz) (sa.dd9 sb), Rat.mul_def']
  rw [Int.natCast_mul] at e
  simp only [runP, startL, outF, mVar, mVarB, mPure, mOp1, mOp2, mCons, mCall, mTup, mLst, mTst, asB, mNot, mAnd, mOr, mAndV, mOrV, mIte, mSeq, sSq, sIf, sRet, sSet, sSetF, sNil, sFrz, frz, sExpr, sPar2, sPar3, sAsg, mkL, gNm, gTp, gCns, gNl, D.asT, itemsD, addD_int, subD_int, ltD_int, leD_int, gtD_int, geD_int, negD_int, gcdD_int, absD_int, Option.bind_some, Option.map_some, Option.bind_none, Option.map_none, List.map_cons, List.map_nil, List.length_cons, List.length_nil, List.cons_append, List.nil_append, List.getElem?_cons_zero, List.getElem?_cons_succ, List.set_cons_zero, List.set_cons_succ, List.replicate_succ, List.replicate_zero, Nat.reduceAdd, Nat.reduceSub, Nat.reduceLeDiff, if_true, if_false, ite_true, ite_false, Bool.false_eq_true, f_times, m_times, hx.at0, hx.at1, hy.at0, hy.at1, mulI_int (sa.nn sb), mulI_int (sa.dd sb), e]
theorem less_ev {x y : D} {a b : Rat} (hx : IsR x a) (hy : IsR y b) (sa : Sm a) (sb : Sm b) : f_is_less [x, y] = some (.bl (decide (a < b))) := by
  have e : (a < b) = (a.num * b.den < b.num * a.den) := propext (Rat.lt_iff a b)
  simp only [e]
  simp only [runP, startL, outF, mVar, mVarB, mPure, mOp1, mOp2, mCons, mCall, mTup, mLst, mTst, asB, mNot, mAnd, mOr, mAndV, mOrV, mIte, mSeq, sSq, sIf, sRet, sSet, sSetF, sNil, sFrz, frz, sExpr, sPar2, sPar3, sAsg, mkL, gNm, gTp, gCns, gNl, D.asT, itemsD, addD_int, subD_int, ltD_int, leD_int, gtD_int, geD_int, negD_int, gcdD_int, absD_int, Option.bind_some, Option.map_some, Option.bind_none, Option.map_none, List.map_cons, List.map_nil, List.length_cons, List.length_nil, List.cons_append, List.nil_append, List.getElem?_cons_zero, List.getElem?_cons_succ, List.set_cons_zero, List.set_cons_succ, List.replicate_succ, List.replicate_zero, Nat.reduceAdd, Nat.reduceSub, Nat.reduceLeDiff, if_true, if_false, ite_true, ite_false, Bool.false_eq_true, f_is_less, m_is_less, hx.at0, hx.at1, hy.at0, hy.at1, mulI_int (sa.nd sb), mulI_int (sb.nd sa)]

/-! ### the law's own -/
theorem iabs_nat (n : Int) : iabs n = (n.natAbs : Int) := by unfold iabs; split <;> omega
theorem law_gcd {t : MT} {m : MS} (ht : t = mTst (mOp2 gtD (mVarB 3) (mPure (.int 0)))) (hm : m = sPar2 2 3 false (mVar 3) false (mOp2 modD (mCall intD (mCons (mVarB 2) (mPure []))) (mVarB 3))) {n d : D} :
    ∀ (b a : Nat), ∃ k, whN t m k [some (.imm n), some (.imm d), some (.imm (.int (a : Int))), some (.imm (.int (b : Int)))] none = some (.nx, [some (.imm n), some (.imm d), some (.imm (.int (Nat.gcd a b : Nat))), some (.imm (.int 0))], none) := by
  intro b
  induction b using Nat.strongRecOn with
  | ind b ih =>
    intro a
    by_cases hb : b = 0
    · subst hb
      refine ⟨1, ?_⟩
      unfold whN
      subst ht
      simp only [runP, startL, outF, mVar, mVarB, mPure, mOp1, mOp2, mCons, mCall, mTup, mLst, mTst, asB, mNot, mAnd, mOr, mAndV, mOrV, mIte, mSeq, sSq, sIf, sRet, sSet, sSetF, sNil, sFrz, frz, sExpr, sPar2, sPar3, sAsg, mkL, gNm, gTp, gCns, gNl, D.asT, itemsD, addD_int, subD_int, ltD_int, leD_int, gtD_int, geD_int, negD_int, gcdD_int, absD_int, Option.bind_some, Option.map_some, Option.bind_none, Option.map_none, List.map_cons, List.map_nil, List.length_cons, List.length_nil, List.cons_append, List.nil_append, List.getElem?_cons_zero, List.getElem?_cons_succ, List.set_cons_zero, List.set_cons_succ, List.replicate_succ, List.replicate_zero, Nat.reduceAdd, Nat.reduceSub, Nat.reduceLeDiff, if_true, if_false, ite_true, ite_false, Bool.false_eq_true, Int.natCast_zero, Int.lt_irrefl, decide_false, Nat.gcd_zero_right]
    · obtain ⟨k, hk⟩ := ih (a % b) (Nat.mod_lt _ (by omega)) b
      have h0 : (0 : Int) < (b : Int) := by omega
      refine ⟨k + 1, ?_⟩
      unfold whN
      have e : t [some (.imm n), some (.imm d), some (.imm (.int (a : Int))), some (.imm (.int (b : Int)))] none = some (true, none) := by
        subst ht; simp only [runP, startL, outF, mVar, mVarB, mPure, mOp1, mOp2, mCons, mCall, mTup, mLst, mTst, asB, mNot, mAnd, mOr, mAndV, mOrV, mIte, mSeq, sSq, sIf, sRet, sSet, sSetF, sNil, sFrz, frz, sExpr, sPar2, sPar3, sAsg, mkL, gNm, gTp, gCns, gNl, D.asT, itemsD, addD_int, subD_int, ltD_int, leD_int, gtD_int, geD_int, negD_int, gcdD_int, absD_int, Option.bind_some, Option.map_some, Option.bind_none, Option.map_none, List.map_cons, List.map_nil, List.length_cons, List.length_nil, List.cons_append, List.nil_append, List.getElem?_cons_zero, List.getElem?_cons_succ, List.set_cons_zero, List.set_cons_succ, List.replicate_succ, List.replicate_zero, Nat.reduceAdd, Nat.reduceSub, Nat.reduceLeDiff, if_true, if_false, ite_true, ite_false, Bool.false_eq_true, h0, decide_true]
      have e2 : m [some (.imm n), some (.imm d), some (.imm (.int (a : Int))), some (.imm (.int (b : Int)))] none = some (.nx, [some (.imm n), some (.imm d), some (.imm (.int (b : Int))), some (.imm (.int ((a % b : Nat) : Int)))], none) := by
        subst hm; simp only [runP, startL, outF, mVar, mVarB, mPure, mOp1, mOp2, mCons, mCall, mTup, mLst, mTst, asB, mNot, mAnd, mOr, mAndV, mOrV, mIte, mSeq, sSq, sIf, sRet, sSet, sSetF, sNil, sFrz, frz, sExpr, sPar2, sPar3, sAsg, mkL, gNm, gTp, gCns, gNl, D.asT, itemsD, addD_int, subD_int, ltD_int, leD_int, gtD_int, geD_int, negD_int, gcdD_int, absD_int, Option.bind_some, Option.map_some, Option.bind_none, Option.map_none, List.map_cons, List.map_nil, List.length_cons, List.length_nil, List.cons_append, List.nil_append, List.getElem?_cons_zero, List.getElem?_cons_succ, List.set_cons_zero, List.set_cons_succ, List.replicate_succ, List.replicate_zero, Nat.reduceAdd, Nat.reduceSub, Nat.reduceLeDiff, if_true, if_false, ite_true, ite_false, Bool.false_eq_true, Dv.intD, modD_int h0, Int.natCast_emod]
      rw [e]
      simp only [Option.bind_some, if_true]
      rw [e2]
      simp only [Option.bind_some]
      rw [hk, Nat.gcd_comm b, ← Nat.gcd_rec, Nat.gcd_comm b]
theorem q_nat {n : Int} {k : Nat} (hk : k ≠ 0) (hs : k.log2 < 9000) : f_law_q [.int n, .int (k : Int)] = some (mk (mkRat n k)) := by
  have hg0 : 0 < Nat.gcd n.natAbs k := Nat.gcd_pos_of_pos_right _ (by omega)
  have hg : (0 : Int) < (Nat.gcd n.natAbs k : Nat) := by omega
  have hle : Nat.gcd n.natAbs k ≤ k := Nat.gcd_le_right _ (by omega)
  have hl : ((Nat.gcd n.natAbs k : Nat) : Int).natAbs.log2 < 9000 := by
    rw [Int.natAbs_natCast]; exact Nat.lt_of_le_of_lt (log2_mono hle) hs
  have hd : (0 : Int) < (k : Int) := by omega
  have e1 : (mkRat n k).num = n / ((Nat.gcd n.natAbs k : Nat) : Int) := by
    rw [Rat.num_mkRat, if_neg hk, Nat.gcd_comm]
  have e2 : ((mkRat n k).den : Int) = (k : Int) / ((Nat.gcd n.natAbs k : Nat) : Int) := by
    rw [Rat.den_mkRat, if_neg hk, Nat.gcd_comm]; rfl
  obtain ⟨j, hj⟩ := law_gcd rfl rfl (n := .int n) (d := .int k) k n.natAbs
  have hw := sWh_of hj
  simp only [runP, startL, outF, mVar, mVarB, mPure, mOp1, mOp2, mCons, mCall, mTup, mLst, mTst, asB, mNot, mAnd, mOr, mAndV, mOrV, mIte, mSeq, sSq, sIf, sRet, sSet, sSetF, sNil, sFrz, frz, sExpr, sPar2, sPar3, sAsg, mkL, gNm, gTp, gCns, gNl, D.asT, itemsD, addD_int, subD_int, ltD_int, leD_int, gtD_int, geD_int, negD_int, gcdD_int, absD_int, Option.bind_some, Option.map_some, Option.bind_none, Option.map_none, List.map_cons, List.map_nil, List.length_cons, List.length_nil, List.cons_append, List.nil_append, List.getElem?_cons_zero, List.getElem?_cons_succ, List.set_cons_zero, List.set_cons_succ, List.replicate_succ, List.replicate_zero, Nat.reduceAdd, Nat.reduceSub, Nat.reduceLeDiff, if_true, if_false, ite_true, ite_false, Bool.false_eq_true, f_law_q, m_law_q, iabs_nat, Int.natAbs_natCast, hw, hd, decide_true, fdivD_int hg hl, mk, e1, e2]
theorem law_plus_ev {x y : D} {a b : Rat} (hx : IsR x a) (hy : IsR y b) (sa : Sm a) (sb : Sm b) : f_law_plus [x, y] = some (mk (a + b)) := by
  have e : f_law_q [.int (a.num * b.den + b.num * a.den), .int ((a.den * b.den : Nat) : Int)] = some (mk (a + b)) := by
    rw [q_nat (Nat.mul_ne_zero a.den_nz b.den_nz) (sa.dd9 sb), Rat.add_def']
  rw [Int.natCast_mul] at e
  simp only [runP, startL, outF, mVar, mVarB, mPure, mOp1, mOp2, mCons, mCall, mTup, mLst, mTst, asB, mNot, mAnd, mOr, mAndV, mOrV, mIte, mSeq, sSq, sIf, sRet, sSet, sSetF, sNil, sFrz, frz, sExpr, sPar2, sPar3, sAsg, mkL, gNm, gTp, gCns, gNl, D.asT, itemsD, addD_int, subD_int, ltD_int, leD_int, gtD_int, geD_int, negD_int, gcdD_int, absD_int, Option.bind_some, Option.map_some, Option.bind_none, Option.map_none, List.map_cons, List.map_nil, List.length_cons, List.length_nil, List.cons_append, List.nil_append, List.getElem?_cons_zero, List.getElem?_cons_succ, List.set_cons_zero, List.set_cons_succ, List.replicate_succ, List.replicate_zero, Nat.reduceAdd, Nat.reduceSub, Nat.reduceLeDiff, if_true, if_false, ite_true, ite_false, Bool.false_eq_true, f_law_plus, m_law_plus, hx.at0, hx.at1, hy.at0, hy.at1, mulI_int (sa.nd sb), mulI_int (sb.nd sa), mulI_int (sa.dd sb), e]
theorem law_minus_ev {x y : D} {a b : Rat} (hx : IsR x a) (hy : IsR y b) (sa : Sm a) (sb : Sm b) : f_law_minus [x, y] = some (mk (a - b)) := by
  have e : f_law_q [.int (a.num * b.den - b.num * a.den), .int ((a.den * b.den : Nat) : Int)] = some (mk (a - b)) := by
    rw [q_nat (Nat.mul_ne_zero a.den_nz b.den_nz) (sa.dd9 sb), Rat.sub_def']
  rw [Int.natCast_mul] at e
  simp only [runP, startL, outF, mVar, mVarB, mPure, mOp1, mOp2, mCons, mCall, mTup, mLst, mTst, asB, mNot, mAnd, mOr, mAndV, mOrV, mIte, mSeq, sSq, sIf, sRet, sSet, sSetF, sNil, sFrz, frz, sExpr, sPar2, sPar3, sAsg, mkL, gNm, gTp, gCns, gNl, D.asT, itemsD, addD_int, subD_int, ltD_int, leD_int, gtD_int, geD_int, negD_int, gcdD_int, absD_int, Option.bind_some, Option.map_some, Option.bind_none, Option.map_none, List.map_cons, List.map_nil, List.length_cons, List.length_nil, List.cons_append, List.nil_append, List.getElem?_cons_zero, List.getElem?_cons_succ, List.set_cons_zero, List.set_cons_succ, List.replicate_succ, List.replicate_zero, Nat.reduceAdd, Nat.reduceSub, Nat.reduceLeDiff, if_true, if_false, ite_true, ite_false, Bool.false_eq_true, f_law_minus, m_law_minus, hx.at0, hx.at1, hy.at0, hy.at1, mulI_int (sa.nd sb), mulI_int (sb.nd sa), mulI_int (sa.dd sb), e]
theorem law_times_ev {x y : D} {a b : Rat} (hx : IsR x a) (hy : IsR y b) (sa : Sm a) (sb : Sm b) : f_law_times [x, y] = some (mk (a * b)) := by
  have e : f_law_q [.int (a.num * b.num), .int ((a.den * b.den : Nat) : Int)] = some (mk (a * b)) := by
    rw [q_nat (Nat.mul_ne_zero a.den_nz b.den_nz) (sa.dd9 sb), Rat.mul_def']
  rw [Int.natCast_mul] at e
  simp only [runP, startL, outF, mVar, mVarB, mPure, mOp1, mOp2, mCons, mCall, mTup, mLst, mTst, asB, mNot, mAnd, mOr, mAndV, mOrV, mIte, mSeq, sSq, sIf, sRet, sSet, sSetF, sNil, sFrz, frz, sExpr, sPar2, sPar3, sAsg, mkL, gNm, gTp, gCns, gNl, D.asT, itemsD, addD_int, subD_int, ltD_int, leD_int, gtD_int, geD_int, negD_int, gcdD_int, absD_int, Option.bind_some, Option.map_some, Option.bind_none, Option.map_none, List.map_cons, List.map_nil, List.length_cons, List.length_nil, List.cons_append, List.nil_append, List.getElem?_cons_zero, List.getElem?_cons_succ, List.set_cons_zero, List.set_cons_succ, List.replicate_succ, List.replicate_zero, Nat.reduceAdd, Nat.reduceSub, Nat.reduceLeDiff, if_true, if_false, ite_true, ite_false, Bool.false_eq_true, f_law_times, m_law_times, hx.at0, hx.at1, hy.at0, hy.at1, mulI_int (sa.nn sb), mulI_int (sa.dd sb), e]
theorem law_less_ev {x y : D} {a b : Rat} (hx : IsR x a) (hy : IsR y b) (sa : Sm a) (sb : Sm b) : f_law_less [x, y] = some (.bl (decide (a < b))) := by
  have e : (a < b) = (a.num * b.den < b.num * a.den) := propext (Rat.lt_iff a b)
  simp only [e]
  simp only [runP, startL, outF, mVar, mVarB, mPure, mOp1, mOp2, mCons, mCall, mTup, mLst, mTst, asB, mNot, mAnd, mOr, mAndV, mOrV, mIte, mSeq, sSq, sIf, sRet, sSet, sSetF, sNil, sFrz, frz, sExpr, sPar2, sPar3, sAsg, mkL, gNm, gTp, gCns, gNl, D.asT, itemsD, addD_int, subD_int, ltD_int, leD_int, gtD_int, geD_int, negD_int, gcdD_int, absD_int, Option.bind_some, Option.map_some, Option.bind_none, Option.map_none, List.map_cons, List.map_nil, List.length_cons, List.length_nil, List.cons_append, List.nil_append, List.getElem?_cons_zero, List.getElem?_cons_succ, List.set_cons_zero, List.set_cons_succ, List.replicate_succ, List.replicate_zero, Nat.reduceAdd, Nat.reduceSub, Nat.reduceLeDiff, if_true, if_false, ite_true, ite_false, Bool.false_eq_true, f_law_less, m_law_less, hx.at0, hx.at1, hy.at0, hy.at1, mulI_int (sa.nd sb), mulI_int (sb.nd sa)]
end K25
namespace K25
open PySem PyProof.Rows L2 Dv

/-! ### numbers over a common denominator -/
/-- q is z / D, z no greater than N -/
def InD (D N : Nat) (q : Rat) : Prop := ∃ z : Int, z.natAbs ≤ N ∧ q = mkRat z D
theorem InD.mono {D N M : Nat} {q : Rat} (h : InD D N q) (l : N ≤ M) : InD D M q := let ⟨z, a, b⟩ := h; ⟨z, Nat.le_trans a l, b⟩
theorem inD_zero {D : Nat} : InD D 0 0 := ⟨0, by simp, by simp⟩
theorem mkRat_add_same {a b : Int} {D : Nat} (h : D ≠ 0) : mkRat a D + mkRat b D = mkRat (a + b) D := by
  rw [Rat.mkRat_add_mkRat _ _ h h, ← Int.add_mul, Rat.mkRat_mul_right h]
theorem InD.add {D N M : Nat} {q r : Rat} (hD : D ≠ 0) (h : InD D N q) (h' : InD D M r) : InD D (N + M) (q + r) := by
  obtain ⟨a, ha, rfl⟩ := h
  obtain ⟨b, hb, rfl⟩ := h'
  exact ⟨a + b, by omega, mkRat_add_same hD⟩
theorem InD.neg {D N : Nat} {q : Rat} (h : InD D N q) : InD D N (-q) := by
  obtain ⟨a, ha, rfl⟩ := h
  exact ⟨-a, by omega, by rw [Rat.neg_mkRat]⟩
theorem InD.sub {D N M : Nat} {q r : Rat} (hD : D ≠ 0) (h : InD D N q) (h' : InD D M r) : InD D (N + M) (q - r) := by
  rw [Rat.sub_eq_add_neg]; exact h.add hD h'.neg
theorem InD.mul {D E N M : Nat} {q r : Rat} (h : InD D N q) (h' : InD E M r) : InD (D * E) (N * M) (q * r) := by
  obtain ⟨a, ha, rfl⟩ := h
  obtain ⟨b, hb, rfl⟩ := h'
  refine ⟨a * b, ?_, by rw [Rat.mkRat_mul_mkRat]⟩
  rw [Int.natAbs_mul]
  exact Nat.mul_le_mul ha hb
theorem inD_self (q : Rat) : InD q.den q.num.natAbs q := ⟨q.num, Nat.le_refl _, (Rat.mkRat_self q).symm⟩
theorem InD.up {D N k : Nat} {q : Rat} (hk : k ≠ 0) (h : InD D N q) : InD (D * k) (N * k) q := by
  obtain ⟨a, ha, rfl⟩ := h
  refine ⟨a * k, ?_, (Rat.mkRat_mul_right hk).symm⟩
  rw [Int.natAbs_mul, Int.natAbs_natCast]
  exact Nat.mul_le_mul ha (Nat.le_refl _)
theorem InD.sm {D N : Nat} {q : Rat} (hD : D ≠ 0) (h : InD D N q) (d4 : D.log2 < 4000) (n5 : N.log2 < 100000) : Sm q := by
  obtain ⟨a, ha, rfl⟩ := h
  have g0 : 0 < D.gcd a.natAbs := Nat.gcd_pos_of_pos_left _ (by omega)
  refine ⟨?_, ?_⟩
  · rw [Rat.den_mkRat, if_neg hD]
    exact Nat.lt_of_le_of_lt (log2_mono (Nat.div_le_self _ _)) d4
  · rw [Rat.num_mkRat, if_neg hD]
    refine Nat.lt_of_le_of_lt (log2_mono ?_) n5
    refine Nat.le_trans ?_ ha
    rw [Int.natAbs_ediv_of_dvd (Int.ofNat_dvd_left.mpr (Nat.gcd_dvd_right _ _)), Int.natAbs_natCast]
    exact Nat.div_le_self _ _
/-- the sum of a list -/
def rsum (l : List Rat) : Rat := l.foldl (· + ·) 0
theorem foldl_add (a : Rat) : ∀ l : List Rat, l.foldl (· + ·) a = a + rsum l
  | [] => (Rat.add_zero a).symm
  | x :: l => by
    show l.foldl (· + ·) (a + x) = a + l.foldl (· + ·) (0 + x)
    rw [foldl_add (a + x) l, foldl_add (0 + x) l, Rat.zero_add, Rat.add_assoc]
theorem rsum_cons (x : Rat) (l : List Rat) : rsum (x :: l) = x + rsum l := by
  show l.foldl (· + ·) (0 + x) = _
  rw [foldl_add, Rat.zero_add]
theorem inD_sum {D N : Nat} (hD : D ≠ 0) : ∀ {l : List Rat}, (∀ q ∈ l, InD D N q) → InD D (l.length * N) (rsum l)
  | [], _ => inD_zero.mono (Nat.zero_le _)
  | x :: l, h => by
    rw [rsum_cons]
    have h1 := (h x List.mem_cons_self).add hD (inD_sum hD (l := l) fun q hq => h q (List.mem_cons_of_mem _ hq))
    refine h1.mono ?_
    rw [List.length_cons, Nat.succ_mul]; omega

/-- the bounds that hold of a problem -/
structure Bd (D N : Nat) : Prop where
  d0 : D ≠ 0
  d4 : D.log2 < 4000
  n5 : N.log2 < 100000
theorem Bd.sm {D N M : Nat} {q : Rat} (b : Bd D N) (h : InD D M q) (l : M ≤ N) : Sm q := h.sm b.d0 b.d4 (Nat.lt_of_le_of_lt (log2_mono l) b.n5)
abbrev RL (ds : List D) (qs : List Rat) : Prop := Paired IsR ds qs
theorem rl_mk (qs : List Rat) : RL (qs.map mk) qs := paired_mapL isR_mk qs

/-! ### total -/
abbrev PlusF (f : List D → Option D) : Prop := ∀ {x y : D} {a b : Rat}, IsR x a → IsR y b → Sm a → Sm b → f [x, y] = some (mk (a + b))
theorem total_go {f : List D → Option D} (hf : PlusF f) {E N M K : Nat} (bd : Bd E N) (hK : K * M ≤ N) (hM : M ≤ N) {d0 : D} : ∀ {ds : List D} {qs : List Rat}, RL ds qs → (∀ q ∈ qs, InD E M q) → ∀ (k : Nat) (x : D) (a : Rat) (y : Option LV), IsR x a → InD E (k * M) a → k + qs.length ≤ K →
    ∃ d y', forGo (gNm 2) (sSet 1 (mCall f (mCons (mVar 1) (mCons (mVar 2) (mPure []))))) ds [some (.imm d0), some (.imm x), y] none = some (.nx, [some (.imm d0), some (.imm d), y'], none) ∧ IsR d (qs.foldl (· + ·) a) ∧ (x = mk a ∨ qs ≠ [] → d = mk (qs.foldl (· + ·) a))
  | _, _, .nil, _, k, x, a, y, hx, _, _ => ⟨x, y, rfl, hx, fun h => by rcases h with h | h; exact h; exact absurd rfl h⟩
  | d :: ds, q :: qs, .cons r p, hq, k, x, a, y, hx, ha, hk => by
    have h1 : InD E M q := hq q List.mem_cons_self
    have hk' : k ≤ K := by omega
    have e := hf hx r (bd.sm ha (Nat.le_trans (Nat.mul_le_mul_right M hk') hK)) (bd.sm h1 hM)
    obtain ⟨d', y', e2, h2⟩ := total_go hf bd hK hM p (fun q hq' => hq q (List.mem_cons_of_mem _ hq')) (k + 1) (mk (a + q)) (a + q) (some (.imm d)) (isR_mk _) (by rw [Nat.succ_mul]; exact ha.add bd.d0 h1) (by rw [List.length_cons] at hk; omega)
    refine ⟨d', y', ?_, h2.1, fun _ => h2.2 (.inl rfl)⟩
    rw [← e2]
    show Option.bind (gNm 2 d [some (.imm d0), some (.imm x), y]) _ = _
    simp only [runP, startL, outF, mVar, mVarB, mPure, mOp1, mOp2, mCons, mCall, mTup, mLst, mTst, asB, mNot, mAnd, mOr, mAndV, mOrV, mIte, mSeq, sSq, sIf, sRet, sSet, sSetF, sNil, sFrz, frz, sExpr, sPar2, sPar3, sAsg, mkL, gNm, gTp, gCns, gNl, D.asT, itemsD, addD_int, subD_int, ltD_int, leD_int, gtD_int, geD_int, negD_int, gcdD_int, absD_int, Option.bind_some, Option.map_some, Option.bind_none, Option.map_none, List.map_cons, List.map_nil, List.length_cons, List.length_nil, List.cons_append, List.nil_append, List.getElem?_cons_zero, List.getElem?_cons_succ, List.set_cons_zero, List.set_cons_succ, List.replicate_succ, List.replicate_zero, Nat.reduceAdd, Nat.reduceSub, Nat.reduceLeDiff, if_true, if_false, ite_true, ite_false, Bool.false_eq_true, e]
theorem total_ev {E N M : Nat} (bd : Bd E N) {ds : List D} {qs : List Rat} (hr : RL ds qs) (hq : ∀ q ∈ qs, InD E M q) (hl : qs.length * M ≤ N) (hM : M ≤ N) : ∃ d, f_total [.lst ds] = some d ∧ IsR d (rsum qs) ∧ (qs ≠ [] → d = mk (rsum qs)) := by
  obtain ⟨d, y, e, h⟩ := total_go (f := f_plus) plus_ev bd hl hM (d0 := .lst ds) hr hq 0 (.kt [.int 0, .int 1]) 0 none isR_zero (inD_zero.mono (Nat.zero_le _)) (by omega)
  refine ⟨d, ?_, h.1, fun z => h.2 (.inr z)⟩
  simp only [runP, startL, outF, mVar, mVarB, mPure, mOp1, mOp2, mCons, mCall, mTup, mLst, mTst, asB, mNot, mAnd, mOr, mAndV, mOrV, mIte, mSeq, sSq, sIf, sRet, sSet, sSetF, sNil, sFrz, frz, sExpr, sPar2, sPar3, sAsg, mkL, gNm, gTp, gCns, gNl, D.asT, itemsD, addD_int, subD_int, ltD_int, leD_int, gtD_int, geD_int, negD_int, gcdD_int, absD_int, Option.bind_some, Option.map_some, Option.bind_none, Option.map_none, List.map_cons, List.map_nil, List.length_cons, List.length_nil, List.cons_append, List.nil_append, List.getElem?_cons_zero, List.getElem?_cons_succ, List.set_cons_zero, List.set_cons_succ, List.replicate_succ, List.replicate_zero, Nat.reduceAdd, Nat.reduceSub, Nat.reduceLeDiff, if_true, if_false, ite_true, ite_false, Bool.false_eq_true, f_total, m_total, sFor, e]
theorem law_sum_ev {E N M : Nat} (bd : Bd E N) {ds : List D} {qs : List Rat} (hr : RL ds qs) (hq : ∀ q ∈ qs, InD E M q) (hl : qs.length * M ≤ N) (hM : M ≤ N) : ∃ d, f_law_sum [.lst ds] = some d ∧ IsR d (rsum qs) ∧ (qs ≠ [] → d = mk (rsum qs)) := by
  obtain ⟨d, y, e, h⟩ := total_go (f := f_law_plus) law_plus_ev bd hl hM (d0 := .lst ds) hr hq 0 (.tup [.int 0, .int 1]) 0 none isR_zero' (inD_zero.mono (Nat.zero_le _)) (by omega)
  refine ⟨d, ?_, h.1, fun z => h.2 (.inr z)⟩
  simp only [runP, startL, outF, mVar, mVarB, mPure, mOp1, mOp2, mCons, mCall, mTup, mLst, mTst, asB, mNot, mAnd, mOr, mAndV, mOrV, mIte, mSeq, sSq, sIf, sRet, sSet, sSetF, sNil, sFrz, frz, sExpr, sPar2, sPar3, sAsg, mkL, gNm, gTp, gCns, gNl, D.asT, itemsD, addD_int, subD_int, ltD_int, leD_int, gtD_int, geD_int, negD_int, gcdD_int, absD_int, Option.bind_some, Option.map_some, Option.bind_none, Option.map_none, List.map_cons, List.map_nil, List.length_cons, List.length_nil, List.cons_append, List.nil_append, List.getElem?_cons_zero, List.getElem?_cons_succ, List.set_cons_zero, List.set_cons_succ, List.replicate_succ, List.replicate_zero, Nat.reduceAdd, Nat.reduceSub, Nat.reduceLeDiff, if_true, if_false, ite_true, ite_false, Bool.false_eq_true, f_law_sum, m_law_sum, sFor, e]
/-! ### dot -/
def rdot (p q : List Rat) : Rat := rsum ((p.zip q).map fun x => x.1 * x.2)
theorem rl_items {x : D} {ds : List D} {ps : List Rat} (h : itemsD x = some ds) (_ : RL ds ps) : itemsD x = some ds := h
/-- a vector: a tuple of ratios -/
structure VecR (x : D) (ps : List Rat) : Prop where
  ex : ∃ ds, x = .tup ds ∧ RL ds ps
theorem dot_in {E N : Nat} {ps qs : List Rat} (hp : ∀ q ∈ ps, InD E N q) (hq : ∀ q ∈ qs, InD E N q) : ∀ z ∈ (ps.zip qs).map fun x => x.1 * x.2, InD (E * E) (N * N) z := fun z hz => by
  obtain ⟨⟨a, b⟩, hm, rfl⟩ := List.mem_map.mp hz
  exact (hp a (List.of_mem_zip hm).1).mul (hq b (List.of_mem_zip hm).2)
theorem dot_len (ps qs : List Rat) : ((ps.zip qs).map fun x => x.1 * x.2).length ≤ ps.length := by
  rw [List.length_map, List.length_zip]; omega
theorem rdot_in {E N : Nat} (hE : E ≠ 0) {ps qs : List Rat} (hp : ∀ q ∈ ps, InD E N q) (hq : ∀ q ∈ qs, InD E N q) : InD (E * E) (ps.length * (N * N)) (rdot ps qs) :=
  (inD_sum (Nat.mul_ne_zero hE hE) (dot_in hp hq)).mono (Nat.mul_le_mul_right _ (dot_len ps qs))
theorem dot_ev {E N B : Nat} (b1 : Bd E N) (bd : Bd (E * E) B) {x y : D} {ps qs : List Rat} (hx : VecR x ps) (hy : VecR y qs) (hp : ∀ q ∈ ps, InD E N q) (hq : ∀ q ∈ qs, InD E N q) (hB : ps.length * (N * N) ≤ B) (hN : N * N ≤ B) (h0 : ps ≠ [] ∧ qs ≠ []) : f_dot [x, y] = some (mk (rdot ps qs)) := by
  obtain ⟨ds, rfl, hx'⟩ := hx.ex
  obtain ⟨es, rfl, hy'⟩ := hy.ex
  have hz := paired_zip hx' hy'
  obtain ⟨d, e, h⟩ := total_ev bd (rl_mk ((ps.zip qs).map fun x => x.1 * x.2)) (dot_in hp hq) (Nat.le_trans (Nat.mul_le_mul_right _ (dot_len ps qs)) hB) hN
  have hd : d = mk (rdot ps qs) := h.2 (by
    intro z
    have := congrArg List.length z
    rw [List.length_map, List.length_zip, List.length_nil] at this
    have h1 := List.length_pos_iff.mpr h0.1
    have h2 := List.length_pos_iff.mpr h0.2
    omega)
  subst hd
  have el := lc_rel (g := gTp 2 (gCns (gNm 2) (gCns (gNm 3) gNl))) (t := mPure true) (m := mCall f_times (mCons (mVar 2) (mCons (mVar 3) (mPure [])))) (S := none) (ρ := [some (.imm (.tup ds)), some (.imm (.tup es)), none, none]) (fun p : Rat × Rat => mk (p.1 * p.2)) hz fun d p hd hm => by
    obtain ⟨u, v, rfl, h1, h2⟩ := hd
    have e := times_ev h1 h2 (b1.sm (hp _ (List.of_mem_zip (show (p.1, p.2) ∈ _ from hm)).1) (Nat.le_refl _)) (b1.sm (hq _ (List.of_mem_zip (show (p.1, p.2) ∈ _ from hm)).2) (Nat.le_refl _))
    refine ⟨[some (.imm (.tup ds)), some (.imm (.tup es)), some (.imm u), some (.imm v)], rfl, rfl, ?_⟩
    simp only [runP, startL, outF, mVar, mVarB, mPure, mOp1, mOp2, mCons, mCall, mTup, mLst, mTst, asB, mNot, mAnd, mOr, mAndV, mOrV, mIte, mSeq, sSq, sIf, sRet, sSet, sSetF, sNil, sFrz, frz, sExpr, sPar2, sPar3, sAsg, mkL, gNm, gTp, gCns, gNl, D.asT, itemsD, addD_int, subD_int, ltD_int, leD_int, gtD_int, geD_int, negD_int, gcdD_int, absD_int, Option.bind_some, Option.map_some, Option.bind_none, Option.map_none, List.map_cons, List.map_nil, List.length_cons, List.length_nil, List.cons_append, List.nil_append, List.getElem?_cons_zero, List.getElem?_cons_succ, List.set_cons_zero, List.set_cons_succ, List.replicate_succ, List.replicate_zero, Nat.reduceAdd, Nat.reduceSub, Nat.reduceLeDiff, if_true, if_false, ite_true, ite_false, Bool.false_eq_true, e]
  have em : ((ps.zip qs).map fun x => x.1 * x.2).map mk = (ps.zip qs).map fun p : Rat × Rat => mk (p.1 * p.2) := by rw [List.map_map]; rfl
  rw [em] at e
  simp only [runP, startL, outF, mVar, mVarB, mPure, mOp1, mOp2, mCons, mCall, mTup, mLst, mTst, asB, mNot, mAnd, mOr, mAndV, mOrV, mIte, mSeq, sSq, sIf, sRet, sSet, sSetF, sNil, sFrz, frz, sExpr, sPar2, sPar3, sAsg, mkL, gNm, gTp, gCns, gNl, D.asT, itemsD, addD_int, subD_int, ltD_int, leD_int, gtD_int, geD_int, negD_int, gcdD_int, absD_int, Option.bind_some, Option.map_some, Option.bind_none, Option.map_none, List.map_cons, List.map_nil, List.length_cons, List.length_nil, List.cons_append, List.nil_append, List.getElem?_cons_zero, List.getElem?_cons_succ, List.set_cons_zero, List.set_cons_succ, List.replicate_succ, List.replicate_zero, Nat.reduceAdd, Nat.reduceSub, Nat.reduceLeDiff, if_true, if_false, ite_true, ite_false, Bool.false_eq_true, f_dot, m_dot, mLc, mZip2, wipeL, el, e]
theorem law_dot_ev {E N B : Nat} (b1 : Bd E N) (bd : Bd (E * E) B) {x y : D} {ps qs : List Rat} (hx : VecR x ps) (hy : VecR y qs) (hp : ∀ q ∈ ps, InD E N q) (hq : ∀ q ∈ qs, InD E N q) (hB : ps.length * (N * N) ≤ B) (hN : N * N ≤ B) (h0 : ps ≠ [] ∧ qs ≠ []) : f_law_dot [x, y] = some (mk (rdot ps qs)) := by
  obtain ⟨ds, rfl, hx'⟩ := hx.ex
  obtain ⟨es, rfl, hy'⟩ := hy.ex
  have hz := paired_zip hx' hy'
  obtain ⟨d, e, h⟩ := law_sum_ev bd (rl_mk ((ps.zip qs).map fun x => x.1 * x.2)) (dot_in hp hq) (Nat.le_trans (Nat.mul_le_mul_right _ (dot_len ps qs)) hB) hN
  have hd : d = mk (rdot ps qs) := h.2 (by
    intro z
    have := congrArg List.length z
    rw [List.length_map, List.length_zip, List.length_nil] at this
    have h1 := List.length_pos_iff.mpr h0.1
    have h2 := List.length_pos_iff.mpr h0.2
    omega)
  subst hd
  have el := lc_rel (g := gTp 2 (gCns (gNm 2) (gCns (gNm 3) gNl))) (t := mPure true) (m := mCall f_law_times (mCons (mVar 2) (mCons (mVar 3) (mPure [])))) (S := none) (ρ := [some (.imm (.tup ds)), some (.imm (.tup es)), none, none]) (fun p : Rat × Rat => mk (p.1 * p.2)) hz fun d p hd hm => by
    obtain ⟨u, v, rfl, h1, h2⟩ := hd
    have e := law_times_ev h1 h2 (b1.sm (hp _ (List.of_mem_zip (show (p.1, p.2) ∈ _ from hm)).1) (Nat.le_refl _)) (b1.sm (hq _ (List.of_mem_zip (show (p.1, p.2) ∈ _ from hm)).2) (Nat.le_refl _))
    refine ⟨[some (.imm (.tup ds)), some (.imm (.tup es)), some (.imm u), some (.imm v)], rfl, rfl, ?_⟩
    simp only [runP, startL, outF, mVar, mVarB, mPure, mOp1, mOp2, mCons, mCall, mTup, mLst, mTst, asB, mNot, mAnd, mOr, mAndV, mOrV, mIte, mSeq, sSq, sIf, sRet, sSet, sSetF, sNil, sFrz, frz, sExpr, sPar2, sPar3, sAsg, mkL, gNm, gTp, gCns, gNl, D.asT, itemsD, addD_int, subD_int, ltD_int, leD_int, gtD_int, geD_int, negD_int, gcdD_int, absD_int, Option.bind_some, Option.map_some, Option.bind_none, Option.map_none, List.map_cons, List.map_nil, List.length_cons, List.length_nil, List.cons_append, List.nil_append, List.getElem?_cons_zero, List.getElem?_cons_succ, List.set_cons_zero, List.set_cons_succ, List.replicate_succ, List.replicate_zero, Nat.reduceAdd, Nat.reduceSub, Nat.reduceLeDiff, if_true, if_false, ite_true, ite_false, Bool.false_eq_true, e]
  have em : ((ps.zip qs).map fun x => x.1 * x.2).map mk = (ps.zip qs).map fun p : Rat × Rat => mk (p.1 * p.2) := by rw [List.map_map]; rfl
  rw [em] at e
  simp only [runP, startL, outF, mVar, mVarB, mPure, mOp1, mOp2, mCons, mCall, mTup, mLst, mTst, asB, mNot, mAnd, mOr, mAndV, mOrV, mIte, mSeq, sSq, sIf, sRet, sSet, sSetF, sNil, sFrz, frz, sExpr, sPar2, sPar3, sAsg, mkL, gNm, gTp, gCns, gNl, D.asT, itemsD, addD_int, subD_int, ltD_int, leD_int, gtD_int, geD_int, negD_int, gcdD_int, absD_int, Option.bind_some, Option.map_some, Option.bind_none, Option.map_none, List.map_cons, List.map_nil, List.length_cons, List.length_nil, List.cons_append, List.nil_append, List.getElem?_cons_zero, List.getElem?_cons_succ, List.set_cons_zero, List.set_cons_succ, List.replicate_succ, List.replicate_zero, Nat.reduceAdd, Nat.reduceSub, Nat.reduceLeDiff, if_true, if_false, ite_true, ite_false, Bool.false_eq_true, f_law_dot, m_law_dot, mLc, mZip2, wipeL, el, e]
end K25
namespace K25
open PySem PyProof.Rows L2 Dv

/-! ### rows of budgets -/
abbrev Row := List Rat × List Rat
def RowR (d : D) (r : Row) : Prop := ∃ x y, d = .tup [x, y] ∧ VecR x r.1 ∧ VecR y r.2
/-- the bounds of a row -/
structure RowB (E N : Nat) (r : Row) : Prop where
  p0 : r.1 ≠ []
  q0 : r.2 ≠ []
  p4 : r.1.length ≤ 4
  pb : ∀ q ∈ r.1, InD E N q
  qb : ∀ q ∈ r.2, InD E N q
structure Bnd (E N B : Nat) : Prop where
  b1 : Bd E N
  b2 : Bd (E * E) B
  big : 10000 * (N * N) ≤ B
def cst (r s : Row) : Rat := rdot r.1 s.2
theorem cst_in {E N B : Nat} (b : Bnd E N B) {r s : Row} (hr : RowB E N r) (hs : RowB E N s) : InD (E * E) (4 * (N * N)) (cst r s) :=
  (rdot_in b.b1.d0 hr.pb hs.qb).mono (Nat.mul_le_mul_right _ hr.p4)
theorem cst_ev {E N B : Nat} (b : Bnd E N B) {r s : Row} {x y : D} (hx : VecR x r.1) (hy : VecR y s.2) (hr : RowB E N r) (hs : RowB E N s) : f_dot [x, y] = some (mk (cst r s)) :=
  dot_ev b.b1 b.b2 hx hy hr.pb hs.qb (Nat.le_trans (Nat.mul_le_mul_right _ hr.p4) (by have := b.big; omega)) (by have := b.big; omega) ⟨hr.p0, hs.q0⟩
theorem law_cst_ev {E N B : Nat} (b : Bnd E N B) {r s : Row} {x y : D} (hx : VecR x r.1) (hy : VecR y s.2) (hr : RowB E N r) (hs : RowB E N s) : f_law_dot [x, y] = some (mk (cst r s)) :=
  law_dot_ev b.b1 b.b2 hx hy hr.pb hs.qb (Nat.le_trans (Nat.mul_le_mul_right _ hr.p4) (by have := b.big; omega)) (by have := b.big; omega) ⟨hr.p0, hs.q0⟩
def costsD (rs : List Row) : D := .lst (rs.map fun r => .lst (rs.map fun s => mk (cst r s)))
def gapsD (rs : List Row) : D := .lst (rs.map fun r => .lst (rs.map fun s => mk (cst r s - cst r r)))
theorem costs_ev {E N B : Nat} (b : Bnd E N B) {rds : List D} {rs : List Row} (hr : Paired RowR rds rs) (hb : ∀ r ∈ rs, RowB E N r) : f_costs_of [.tup rds] = some (costsD rs) := by
  have el := lc_rel (g := gTp 2 (gCns (gNm 1) (gCns (gNm 2) gNl))) (t := mPure true) (m := mLc (mSeq (mVar 0)) [3, 4] (gTp 2 (gCns (gNm 3) (gCns (gNm 4) gNl))) (mPure true) (mCall f_dot (mCons (mVar 1) (mCons (mVar 4) (mPure []))))) (S := none) (ρ := [some (.imm (.tup rds)), none, none, none, none])
    (fun r : Row => .lst (rs.map fun s => mk (cst r s))) hr fun d r hd hm => by
      obtain ⟨x, y, rfl, hx, hy⟩ := hd
      have e2 := lc_rel (g := gTp 2 (gCns (gNm 3) (gCns (gNm 4) gNl))) (t := mPure true) (m := mCall f_dot (mCons (mVar 1) (mCons (mVar 4) (mPure [])))) (S := none) (ρ := [some (.imm (.tup rds)), some (.imm x), some (.imm y), none, none])
        (fun s : Row => mk (cst r s)) hr fun d s hd hm2 => by
          obtain ⟨u, v, rfl, hu, hv⟩ := hd
          have e := cst_ev b hx hv (hb r hm) (hb s hm2)
          refine ⟨[some (.imm (.tup rds)), some (.imm x), some (.imm y), some (.imm u), some (.imm v)], rfl, rfl, ?_⟩
          simp only [runP, startL, outF, mVar, mVarB, mPure, mOp1, mOp2, mCons, mCall, mTup, mLst, mTst, asB, mNot, mAnd, mOr, mAndV, mOrV, mIte, mSeq, sSq, sIf, sRet, sSet, sSetF, sNil, sFrz, frz, sExpr, sPar2, sPar3, sAsg, mkL, gNm, gTp, gCns, gNl, D.asT, itemsD, addD_int, subD_int, ltD_int, leD_int, gtD_int, geD_int, negD_int, gcdD_int, absD_int, Option.bind_some, Option.map_some, Option.bind_none, Option.map_none, List.map_cons, List.map_nil, List.length_cons, List.length_nil, List.cons_append, List.nil_append, List.getElem?_cons_zero, List.getElem?_cons_succ, List.set_cons_zero, List.set_cons_succ, List.replicate_succ, List.replicate_zero, Nat.reduceAdd, Nat.reduceSub, Nat.reduceLeDiff, if_true, if_false, ite_true, ite_false, Bool.false_eq_true, e]
      refine ⟨[some (.imm (.tup rds)), some (.imm x), some (.imm y), none, none], rfl, rfl, ?_⟩
      simp only [runP, startL, outF, mVar, mVarB, mPure, mOp1, mOp2, mCons, mCall, mTup, mLst, mTst, asB, mNot, mAnd, mOr, mAndV, mOrV, mIte, mSeq, sSq, sIf, sRet, sSet, sSetF, sNil, sFrz, frz, sExpr, sPar2, sPar3, sAsg, mkL, gNm, gTp, gCns, gNl, D.asT, itemsD, addD_int, subD_int, ltD_int, leD_int, gtD_int, geD_int, negD_int, gcdD_int, absD_int, Option.bind_some, Option.map_some, Option.bind_none, Option.map_none, List.map_cons, List.map_nil, List.length_cons, List.length_nil, List.cons_append, List.nil_append, List.getElem?_cons_zero, List.getElem?_cons_succ, List.set_cons_zero, List.set_cons_succ, List.replicate_succ, List.replicate_zero, Nat.reduceAdd, Nat.reduceSub, Nat.reduceLeDiff, if_true, if_false, ite_true, ite_false, Bool.false_eq_true, mLc, wipeL, e2]
  simp only [runP, startL, outF, mVar, mVarB, mPure, mOp1, mOp2, mCons, mCall, mTup, mLst, mTst, asB, mNot, mAnd, mOr, mAndV, mOrV, mIte, mSeq, sSq, sIf, sRet, sSet, sSetF, sNil, sFrz, frz, sExpr, sPar2, sPar3, sAsg, mkL, gNm, gTp, gCns, gNl, D.asT, itemsD, addD_int, subD_int, ltD_int, leD_int, gtD_int, geD_int, negD_int, gcdD_int, absD_int, Option.bind_some, Option.map_some, Option.bind_none, Option.map_none, List.map_cons, List.map_nil, List.length_cons, List.length_nil, List.cons_append, List.nil_append, List.getElem?_cons_zero, List.getElem?_cons_succ, List.set_cons_zero, List.set_cons_succ, List.replicate_succ, List.replicate_zero, Nat.reduceAdd, Nat.reduceSub, Nat.reduceLeDiff, if_true, if_false, ite_true, ite_false, Bool.false_eq_true, f_costs_of, m_costs_of, mLc, wipeL, el, costsD]
theorem law_costs_ev {E N B : Nat} (b : Bnd E N B) {rds : List D} {rs : List Row} (hr : Paired RowR rds rs) (hb : ∀ r ∈ rs, RowB E N r) : f_law_bu_costs [.tup rds] = some (costsD rs) := by
  have el := lc_rel (g := gTp 2 (gCns (gNm 1) (gCns (gNm 2) gNl))) (t := mPure true) (m := mLc (mSeq (mVar 0)) [3, 4] (gTp 2 (gCns (gNm 3) (gCns (gNm 4) gNl))) (mPure true) (mCall f_law_dot (mCons (mVar 1) (mCons (mVar 4) (mPure []))))) (S := none) (ρ := [some (.imm (.tup rds)), none, none, none, none])
    (fun r : Row => .lst (rs.map fun s => mk (cst r s))) hr fun d r hd hm => by
      obtain ⟨x, y, rfl, hx, hy⟩ := hd
      have e2 := lc_rel (g := gTp 2 (gCns (gNm 3) (gCns (gNm 4) gNl))) (t := mPure true) (m := mCall f_law_dot (mCons (mVar 1) (mCons (mVar 4) (mPure [])))) (S := none) (ρ := [some (.imm (.tup rds)), some (.imm x), some (.imm y), none, none])
        (fun s : Row => mk (cst r s)) hr fun d s hd hm2 => by
          obtain ⟨u, v, rfl, hu, hv⟩ := hd
          have e := law_cst_ev b hx hv (hb r hm) (hb s hm2)
          refine ⟨[some (.imm (.tup rds)), some (.imm x), some (.imm y), some (.imm u), some (.imm v)], rfl, rfl, ?_⟩
          simp only [runP, startL, outF, mVar, mVarB, mPure, mOp1, mOp2, mCons, mCall, mTup, mLst, mTst, asB, mNot, mAnd, mOr, mAndV, mOrV, mIte, mSeq, sSq, sIf, sRet, sSet, sSetF, sNil, sFrz, frz, sExpr, sPar2, sPar3, sAsg, mkL, gNm, gTp, gCns, gNl, D.asT, itemsD, addD_int, subD_int, ltD_int, leD_int, gtD_int, geD_int, negD_int, gcdD_int, absD_int, Option.bind_some, Option.map_some, Option.bind_none, Option.map_none, List.map_cons, List.map_nil, List.length_cons, List.length_nil, List.cons_append, List.nil_append, List.getElem?_cons_zero, List.getElem?_cons_succ, List.set_cons_zero, List.set_cons_succ, List.replicate_succ, List.replicate_zero, Nat.reduceAdd, Nat.reduceSub, Nat.reduceLeDiff, if_true, if_false, ite_true, ite_false, Bool.false_eq_true, e]
      refine ⟨[some (.imm (.tup rds)), some (.imm x), some (.imm y), none, none], rfl, rfl, ?_⟩
      simp only [runP, startL, outF, mVar, mVarB, mPure, mOp1, mOp2, mCons, mCall, mTup, mLst, mTst, asB, mNot, mAnd, mOr, mAndV, mOrV, mIte, mSeq, sSq, sIf, sRet, sSet, sSetF, sNil, sFrz, frz, sExpr, sPar2, sPar3, sAsg, mkL, gNm, gTp, gCns, gNl, D.asT, itemsD, addD_int, subD_int, ltD_int, leD_int, gtD_int, geD_int, negD_int, gcdD_int, absD_int, Option.bind_some, Option.map_some, Option.bind_none, Option.map_none, List.map_cons, List.map_nil, List.length_cons, List.length_nil, List.cons_append, List.nil_append, List.getElem?_cons_zero, List.getElem?_cons_succ, List.set_cons_zero, List.set_cons_succ, List.replicate_succ, List.replicate_zero, Nat.reduceAdd, Nat.reduceSub, Nat.reduceLeDiff, if_true, if_false, ite_true, ite_false, Bool.false_eq_true, mLc, wipeL, e2]
  simp only [runP, startL, outF, mVar, mVarB, mPure, mOp1, mOp2, mCons, mCall, mTup, mLst, mTst, asB, mNot, mAnd, mOr, mAndV, mOrV, mIte, mSeq, sSq, sIf, sRet, sSet, sSetF, sNil, sFrz, frz, sExpr, sPar2, sPar3, sAsg, mkL, gNm, gTp, gCns, gNl, D.asT, itemsD, addD_int, subD_int, ltD_int, leD_int, gtD_int, geD_int, negD_int, gcdD_int, absD_int, Option.bind_some, Option.map_some, Option.bind_none, Option.map_none, List.map_cons, List.map_nil, List.length_cons, List.length_nil, List.cons_append, List.nil_append, List.getElem?_cons_zero, List.getElem?_cons_succ, List.set_cons_zero, List.set_cons_succ, List.replicate_succ, List.replicate_zero, Nat.reduceAdd, Nat.reduceSub, Nat.reduceLeDiff, if_true, if_false, ite_true, ite_false, Bool.false_eq_true, f_law_bu_costs, m_law_bu_costs, mLc, wipeL, el, costsD]
/-- enumerate -/
theorem paired_enum {α : Type} {f : α → D} (xs : List α) : Paired (fun d p => d = D.tup [.int (p.2 : Nat), f p.1] ∧ xs[p.2]? = some p.1) ((xs.map f).mapIdx fun i d => D.tup [.int (i : Nat), d]) xs.zipIdx := by
  refine paired_of (by simp) fun i x y h1 h2 => ?_
  rw [List.getElem?_zipIdx] at h2
  obtain ⟨a, ha, rfl⟩ := Option.map_eq_some_iff.mp h2
  rw [List.getElem?_mapIdx, List.getElem?_map, ha] at h1
  simp only [Option.map_some, Option.some.injEq] at h1
  subst h1
  simp only [Nat.zero_add]
  exact ⟨trivial, ha⟩
theorem zipIdx_fst {α β : Type} (f : α → β) (xs : List α) : xs.zipIdx.map (fun p => f p.1) = xs.map f := by
  have e : xs.zipIdx.map (f ∘ Prod.fst) = (xs.zipIdx.map Prod.fst).map f := by rw [List.map_map]
  refine Eq.trans e ?_
  rw [List.zipIdx_map_fst]
theorem gaps_ev {E N B : Nat} (b : Bnd E N B) {rds : List D} {rs : List Row} (hr : Paired RowR rds rs) (hb : ∀ r ∈ rs, RowB E N r) : f_gaps_of [.tup rds] = some (gapsD rs) := by
  have hc := costs_ev b hr hb
  have el := lc_rel (g := gTp 2 (gCns (gNm 3) (gCns (gNm 4) gNl))) (t := mPure true) (m := mLc (mSeq (mVar 4)) [2] (gNm 2) (mPure true) (mCall f_minus (mCons (mVar 2) (mCons (mOp2 ixD (mVarB 4) (mVarB 3)) (mPure []))))) (S := none) (ρ := [some (.imm (.tup rds)), some (.imm (costsD rs)), none, none, none])
    (fun p : Row × Nat => .lst (rs.map fun s => mk (cst p.1 s - cst p.1 p.1))) (paired_enum (f := fun r => D.lst (rs.map fun s => mk (cst r s))) rs) fun d p hd hm => by
      obtain ⟨r, i⟩ := p
      obtain ⟨rfl, hi⟩ := hd
      have hrm := List.mem_of_getElem? hi
      have hix : ixD (.lst (rs.map fun s => mk (cst r s))) (.int (i : Nat)) = some (mk (cst r r)) := ix_nat rfl (by rw [List.getElem?_map, hi]; rfl)
      have e2 := lc_rel (g := gNm 2) (t := mPure true) (m := mCall f_minus (mCons (mVar 2) (mCons (mOp2 ixD (mVarB 4) (mVarB 3)) (mPure [])))) (S := none) (ρ := [some (.imm (.tup rds)), some (.imm (costsD rs)), none, some (.imm (.int (i : Nat))), some (.imm (.lst (rs.map fun s => mk (cst r s))))])
        (fun s : Row => mk (cst r s - cst r r)) (paired_mapL (R := fun d s => d = mk (cst r s)) (e := fun s => mk (cst r s)) (fun _ => rfl) rs) fun d s hd hm2 => by
          subst hd
          have hsm : ∀ {s : Row}, s ∈ rs → Sm (cst r s) := fun h => b.b2.sm (cst_in b (hb r hrm) (hb _ h)) (by have := b.big; omega)
          have e := minus_ev (isR_mk (cst r s)) (isR_mk (cst r r)) (hsm hm2) (hsm hrm)
          refine ⟨_, rfl, rfl, ?_⟩
          simp only [runP, startL, outF, mVar, mVarB, mPure, mOp1, mOp2, mCons, mCall, mTup, mLst, mTst, asB, mNot, mAnd, mOr, mAndV, mOrV, mIte, mSeq, sSq, sIf, sRet, sSet, sSetF, sNil, sFrz, frz, sExpr, sPar2, sPar3, sAsg, mkL, gNm, gTp, gCns, gNl, D.asT, itemsD, addD_int, subD_int, ltD_int, leD_int, gtD_int, geD_int, negD_int, gcdD_int, absD_int, Option.bind_some, Option.map_some, Option.bind_none, Option.map_none, List.map_cons, List.map_nil, List.length_cons, List.length_nil, List.cons_append, List.nil_append, List.getElem?_cons_zero, List.getElem?_cons_succ, List.set_cons_zero, List.set_cons_succ, List.replicate_succ, List.replicate_zero, Nat.reduceAdd, Nat.reduceSub, Nat.reduceLeDiff, if_true, if_false, ite_true, ite_false, Bool.false_eq_true, hix, e]
      refine ⟨[some (.imm (.tup rds)), some (.imm (costsD rs)), none, some (.imm (.int (i : Nat))), some (.imm (.lst (rs.map fun s => mk (cst r s))))], rfl, rfl, ?_⟩
      simp only [runP, startL, outF, mVar, mVarB, mPure, mOp1, mOp2, mCons, mCall, mTup, mLst, mTst, asB, mNot, mAnd, mOr, mAndV, mOrV, mIte, mSeq, sSq, sIf, sRet, sSet, sSetF, sNil, sFrz, frz, sExpr, sPar2, sPar3, sAsg, mkL, gNm, gTp, gCns, gNl, D.asT, itemsD, addD_int, subD_int, ltD_int, leD_int, gtD_int, geD_int, negD_int, gcdD_int, absD_int, Option.bind_some, Option.map_some, Option.bind_none, Option.map_none, List.map_cons, List.map_nil, List.length_cons, List.length_nil, List.cons_append, List.nil_append, List.getElem?_cons_zero, List.getElem?_cons_succ, List.set_cons_zero, List.set_cons_succ, List.replicate_succ, List.replicate_zero, Nat.reduceAdd, Nat.reduceSub, Nat.reduceLeDiff, if_true, if_false, ite_true, ite_false, Bool.false_eq_true, mLc, wipeL, e2]
  have em : mEnum (mCons (mVar 1) (mPure [])) [some (.imm (.tup rds)), some (.imm (costsD rs)), none, none, none] none = some ((rs.map fun r => D.lst (rs.map fun s => mk (cst r s))).mapIdx fun i d => D.tup [.int (i : Nat), d], none) := rfl
  simp only [runP, startL, outF, mVar, mVarB, mPure, mOp1, mOp2, mCons, mCall, mTup, mLst, mTst, asB, mNot, mAnd, mOr, mAndV, mOrV, mIte, mSeq, sSq, sIf, sRet, sSet, sSetF, sNil, sFrz, frz, sExpr, sPar2, sPar3, sAsg, mkL, gNm, gTp, gCns, gNl, D.asT, itemsD, addD_int, subD_int, ltD_int, leD_int, gtD_int, geD_int, negD_int, gcdD_int, absD_int, Option.bind_some, Option.map_some, Option.bind_none, Option.map_none, List.map_cons, List.map_nil, List.length_cons, List.length_nil, List.cons_append, List.nil_append, List.getElem?_cons_zero, List.getElem?_cons_succ, List.set_cons_zero, List.set_cons_succ, List.replicate_succ, List.replicate_zero, Nat.reduceAdd, Nat.reduceSub, Nat.reduceLeDiff, if_true, if_false, ite_true, ite_false, Bool.false_eq_true, f_gaps_of, m_gaps_of, hc, mLc, em, wipeL, el, gapsD, zipIdx_fst (fun r : Row => D.lst (rs.map fun s => mk (cst r s - cst r r))) rs]
theorem law_gaps_ev {E N B : Nat} (b : Bnd E N B) {rds : List D} {rs : List Row} (hr : Paired RowR rds rs) (hb : ∀ r ∈ rs, RowB E N r) : f_law_bu_gaps [.tup rds] = some (gapsD rs) := by
  have hc := law_costs_ev b hr hb
  have el := lc_rel (g := gTp 2 (gCns (gNm 3) (gCns (gNm 4) gNl))) (t := mPure true) (m := mLc (mSeq (mVar 4)) [2] (gNm 2) (mPure true) (mCall f_law_minus (mCons (mVar 2) (mCons (mOp2 ixD (mVarB 4) (mVarB 3)) (mPure []))))) (S := none) (ρ := [some (.imm (.tup rds)), some (.imm (costsD rs)), none, none, none])
    (fun p : Row × Nat => .lst (rs.map fun s => mk (cst p.1 s - cst p.1 p.1))) (paired_enum (f := fun r => D.lst (rs.map fun s => mk (cst r s))) rs) fun d p hd hm => by
      obtain ⟨r, i⟩ := p
      obtain ⟨rfl, hi⟩ := hd
      have hrm := List.mem_of_getElem? hi
      have hix : ixD (.lst (rs.map fun s => mk (cst r s))) (.int (i : Nat)) = some (mk (cst r r)) := ix_nat rfl (by rw [List.getElem?_map, hi]; rfl)
      have e2 := lc_rel (g := gNm 2) (t := mPure true) (m := mCall f_law_minus (mCons (mVar 2) (mCons (mOp2 ixD (mVarB 4) (mVarB 3)) (mPure [])))) (S := none) (ρ := [some (.imm (.tup rds)), some (.imm (costsD rs)), none, some (.imm (.int (i : Nat))), some (.imm (.lst (rs.map fun s => mk (cst r s))))])
        (fun s : Row => mk (cst r s - cst r r)) (paired_mapL (R := fun d s => d = mk (cst r s)) (e := fun s => mk (cst r s)) (fun _ => rfl) rs) fun d s hd hm2 => by
          subst hd
          have hsm : ∀ {s : Row}, s ∈ rs → Sm (cst r s) := fun h => b.b2.sm (cst_in b (hb r hrm) (hb _ h)) (by have := b.big; omega)
          have e := law_minus_ev (isR_mk (cst r s)) (isR_mk (cst r r)) (hsm hm2) (hsm hrm)
          refine ⟨_, rfl, rfl, ?_⟩
          simp only [runP, startL, outF, mVar, mVarB, mPure, mOp1, mOp2, mCons, mCall, mTup, mLst, mTst, asB, mNot, mAnd, mOr, mAndV, mOrV, mIte, mSeq, sSq, sIf, sRet, sSet, sSetF, sNil, sFrz, frz, sExpr, sPar2, sPar3, sAsg, mkL, gNm, gTp, gCns, gNl, D.asT, itemsD, addD_int, subD_int, ltD_int, leD_int, gtD_int, geD_int, negD_int, gcdD_int, absD_int, Option.bind_some, Option.map_some, Option.bind_none, Option.map_none, List.map_cons, List.map_nil, List.length_cons, List.length_nil, List.cons_append, List.nil_append, List.getElem?_cons_zero, List.getElem?_cons_succ, List.set_cons_zero, List.set_cons_succ, List.replicate_succ, List.replicate_zero, Nat.reduceAdd, Nat.reduceSub, Nat.reduceLeDiff, if_true, if_false, ite_true, ite_false, Bool.false_eq_true, hix, e]
      refine ⟨[some (.imm (.tup rds)), some (.imm (costsD rs)), none, some (.imm (.int (i : Nat))), some (.imm (.lst (rs.map fun s => mk (cst r s))))], rfl, rfl, ?_⟩
      simp only [runP, startL, outF, mVar, mVarB, mPure, mOp1, mOp2, mCons, mCall, mTup, mLst, mTst, asB, mNot, mAnd, mOr, mAndV, mOrV, mIte, mSeq, sSq, sIf, sRet, sSet, sSetF, sNil, sFrz, frz, sExpr, sPar2, sPar3, sAsg, mkL, gNm, gTp, gCns, gNl, D.asT, itemsD, addD_int, subD_int, ltD_int, leD_int, gtD_int, geD_int, negD_int, gcdD_int, absD_int, Option.bind_some, Option.map_some, Option.bind_none, Option.map_none, List.map_cons, List.map_nil, List.length_cons, List.length_nil, List.cons_append, List.nil_append, List.getElem?_cons_zero, List.getElem?_cons_succ, List.set_cons_zero, List.set_cons_succ, List.replicate_succ, List.replicate_zero, Nat.reduceAdd, Nat.reduceSub, Nat.reduceLeDiff, if_true, if_false, ite_true, ite_false, Bool.false_eq_true, mLc, wipeL, e2]
  have em : mEnum (mCons (mVar 1) (mPure [])) [some (.imm (.tup rds)), some (.imm (costsD rs)), none, none, none] none = some ((rs.map fun r => D.lst (rs.map fun s => mk (cst r s))).mapIdx fun i d => D.tup [.int (i : Nat), d], none) := rfl
  simp only [runP, startL, outF, mVar, mVarB, mPure, mOp1, mOp2, mCons, mCall, mTup, mLst, mTst, asB, mNot, mAnd, mOr, mAndV, mOrV, mIte, mSeq, sSq, sIf, sRet, sSet, sSetF, sNil, sFrz, frz, sExpr, sPar2, sPar3, sAsg, mkL, gNm, gTp, gCns, gNl, D.asT, itemsD, addD_int, subD_int, ltD_int, leD_int, gtD_int, geD_int, negD_int, gcdD_int, absD_int, Option.bind_some, Option.map_some, Option.bind_none, Option.map_none, List.map_cons, List.map_nil, List.length_cons, List.length_nil, List.cons_append, List.nil_append, List.getElem?_cons_zero, List.getElem?_cons_succ, List.set_cons_zero, List.set_cons_succ, List.replicate_succ, List.replicate_zero, Nat.reduceAdd, Nat.reduceSub, Nat.reduceLeDiff, if_true, if_false, ite_true, ite_false, Bool.false_eq_true, f_law_bu_gaps, m_law_bu_gaps, hc, mLc, em, wipeL, el, gapsD, zipIdx_fst (fun r : Row => D.lst (rs.map fun s => mk (cst r s - cst r r))) rs]
end K25
namespace K25
open PySem PyProof.Rows L2 Dv

def RatG : BF.OG Rat where
  op := (· + ·)
  one := 0
  lt := fun a b => decide (a < b)
  irrefl := fun a => decide_eq_false Rat.lt_irrefl
  trans := fun a b c h1 h2 => by
    have h1 := of_decide_eq_true h1
    have h2 := of_decide_eq_true h2
    exact decide_eq_true (by grind)
  tri := fun a b h1 h2 => by
    have h1 := of_decide_eq_false h1
    have h2 := of_decide_eq_false h2
    exact Rat.le_antisymm (Rat.not_lt.mp h2) (Rat.not_lt.mp h1)
  comm := Rat.add_comm
  assoc := Rat.add_assoc
  one_op := Rat.zero_add
  mono := fun a b c h => decide_eq_true (Rat.add_lt_add_right.mpr (of_decide_eq_true h))
def optD : Option Nat → D
  | none => .non
  | some i => .int (i : Nat)
/-- a square table -/
structure TabR (t : D) (n : Nat) (g : Nat → Nat → Rat) : Prop where
  at_ : ∀ i j, i < n → j < n → ∃ r, ixD t (.int (i : Nat)) = some r ∧ ixD r (.int (j : Nat)) = some (mk (g i j))
structure KI (n E M cnt : Nat) (s : BF.St Rat) (ls bs : List D) : Prop where
  ll : ls.length = n
  bl : bs.length = n
  lev : ∀ j, j < n → ∃ d, ls[j]? = some d ∧ IsR d (s.lev j) ∧ InD E (cnt * M) (s.lev j)
  back : ∀ j, j < n → bs[j]? = some (optD (s.back j))
abbrev kR (A : Ads) (n : Nat) (t st : D) (lap : Option LV) (ls bs : List D) (ch : Option Nat) (one other here : Option LV) : Lo :=
  [some (.imm t), some (.imm st), some (.imm (.fn A.plus)), some (.imm (.int (n : Nat))), lap, some (.own (.lst ls)), some (.own (.lst bs)), some (.imm (optD ch)), one, other, here]
noncomputable def kBody (A : Ads) : MS := (sIf (mTst (mOp2 isnotD (mOp2 ixD (mOp2 ixD (mVarB 0) (mVarB 8)) (mVarB 9)) (mPure .non))) (sSq (sSet 10 (mCallL 2 A.plus f_plus (mCons (mOp2 ixD (mVarB 5) (mVarB 8)) (mCons (mOp2 ixD (mOp2 ixD (mVarB 0) (mVarB 8)) (mVarB 9)) (mPure [])))))
  (sIf (mTst (mCall f_is_less (mCons (mVar 10) (mCons (mOp2 ixD (mVarB 5) (mVarB 9)) (mPure []))))) (sAsgH (mTup (mCons (mVar 10) (mCons (mVar 8) (mCons (mVar 9) (mPure []))))) (hTp 3 (hCns (hIx 5 (mVar 9)) (hCns (hIx 6 (mVar 9)) (hCns (hOf (gNm 7)) hNl))))) sNil)) sNil)
theorem ixN_of {n j : Nat} (h : j < n) : ixN n (j : Int) = some j := by
  (unfold ixN); rw [if_pos (by omega), if_pos (by omega)]; simp
theorem isnot_mk (q : Rat) : isnotD (mk q) .non = some (.bl true) := rfl
theorem body_ev {A : Ads} {n E M K : Nat} {B : Nat} (bd : Bd E B) (hK : (K + 1) * M ≤ B) {t st : D} {g : Nat → Nat → Rat} (ht : TabR t n g) (hg : ∀ i j, i < n → j < n → InD E M (g i j)) {i j cnt : Nat} (hi : i < n) (hj : j < n) (hc : cnt ≤ K) {s : BF.St Rat} {ls bs : List D} (I : KI n E M cnt s ls bs) {lap here : Option LV} :
    ∃ ls' bs' here', kBody A (kR A n t st lap ls bs s.ch (some (.imm (.int (i : Nat)))) (some (.imm (.int (j : Nat)))) here) none = some (.nx, kR A n t st lap ls' bs' (BF.relax RatG g s (i, j)).ch (some (.imm (.int (i : Nat)))) (some (.imm (.int (j : Nat)))) here', none) ∧ KI n E M (cnt + 1) (BF.relax RatG g s (i, j)) ls' bs' := by
  obtain ⟨r, e1, e2⟩ := ht.at_ i j hi hj
  obtain ⟨d, ed, rd, id⟩ := I.lev i hi
  obtain ⟨d', ed', rd', id'⟩ := I.lev j hj
  have hM0 : ∀ {k}, k ≤ K + 1 → k * M ≤ B := fun h => Nat.le_trans (Nat.mul_le_mul_right M h) hK
  have sm1 := bd.sm id (hM0 (by omega))
  have sm2 := bd.sm id' (hM0 (by omega))
  have sg := bd.sm (hg i j hi hj) (by have := hM0 (k := 1) (by omega); omega)
  have inw : InD E ((cnt + 1) * M) (s.lev i + g i j) := by rw [Nat.succ_mul]; exact id.add bd.d0 (hg i j hi hj)
  have smw := bd.sm inw (hM0 (by omega))
  have x1 : ixD (.lst ls) (.int (i : Nat)) = some d := ix_nat rfl ed
  have x2 : ixD (.lst ls) (.int (j : Nat)) = some d' := ix_nat rfl ed'
  have ep := plus_ev rd (isR_mk (g i j)) sm1 sg
  have el := less_ev (isR_mk (s.lev i + g i j)) rd' smw sm2
  have up : ∀ q, InD E (cnt * M) q → InD E ((cnt + 1) * M) q := fun q h => h.mono (by rw [Nat.succ_mul]; omega)
  cases hlt : decide (s.lev i + g i j < s.lev j) with
  | false =>
    have er : BF.relax RatG g s (i, j) = s := by
      unfold BF.relax
      have : RatG.lt (RatG.op (s.lev i) (g i j)) (s.lev j) = false := hlt
      simp only [this, Bool.false_eq_true, if_false]
    rw [er]
    rw [hlt] at el
    refine ⟨ls, bs, some (.imm (mk (s.lev i + g i j))), ?_, I.ll, I.bl, fun k hk => ?_, I.back⟩
    · simp only [runP, startL, outF, mVar, mVarB, mPure, mOp1, mOp2, mCons, mCall, mTup, mLst, mTst, asB, mNot, mAnd, mOr, mAndV, mOrV, mIte, mSeq, sSq, sIf, sRet, sSet, sSetF, sNil, sFrz, frz, sExpr, sPar2, sPar3, sAsg, mkL, gNm, gTp, gCns, gNl, D.asT, itemsD, addD_int, subD_int, ltD_int, leD_int, gtD_int, geD_int, negD_int, gcdD_int, absD_int, Option.bind_some, Option.map_some, Option.bind_none, Option.map_none, List.map_cons, List.map_nil, List.length_cons, List.length_nil, List.cons_append, List.nil_append, List.getElem?_cons_zero, List.getElem?_cons_succ, List.set_cons_zero, List.set_cons_succ, List.replicate_succ, List.replicate_zero, Nat.reduceAdd, Nat.reduceSub, Nat.reduceLeDiff, if_true, if_false, ite_true, ite_false, Bool.false_eq_true, kBody, kR, e1, e2, isnot_mk, mCallL, x1, x2, ep, el]
    · obtain ⟨u, a, b, c⟩ := I.lev k hk
      exact ⟨u, a, b, up _ c⟩
  | true =>
    have er : BF.relax RatG g s (i, j) = ⟨BF.up s.lev j (s.lev i + g i j), BF.up s.back j (some i), some j⟩ := by
      unfold BF.relax
      have : RatG.lt (RatG.op (s.lev i) (g i j)) (s.lev j) = true := hlt
      simp only [this, if_true]
      rfl
    rw [er]
    rw [hlt] at el
    refine ⟨ls.set j (mk (s.lev i + g i j)), bs.set j (.int (i : Nat)), some (.imm (mk (s.lev i + g i j))), ?_, by rw [List.length_set]; exact I.ll, by rw [List.length_set]; exact I.bl, fun k hk => ?_, fun k hk => ?_⟩
    · simp only [runP, startL, outF, mVar, mVarB, mPure, mOp1, mOp2, mCons, mCall, mTup, mLst, mTst, asB, mNot, mAnd, mOr, mAndV, mOrV, mIte, mSeq, sSq, sIf, sRet, sSet, sSetF, sNil, sFrz, frz, sExpr, sPar2, sPar3, sAsg, mkL, gNm, gTp, gCns, gNl, D.asT, itemsD, addD_int, subD_int, ltD_int, leD_int, gtD_int, geD_int, negD_int, gcdD_int, absD_int, Option.bind_some, Option.map_some, Option.bind_none, Option.map_none, List.map_cons, List.map_nil, List.length_cons, List.length_nil, List.cons_append, List.nil_append, List.getElem?_cons_zero, List.getElem?_cons_succ, List.set_cons_zero, List.set_cons_succ, List.replicate_succ, List.replicate_zero, Nat.reduceAdd, Nat.reduceSub, Nat.reduceLeDiff, if_true, if_false, ite_true, ite_false, Bool.false_eq_true, kBody, kR, e1, e2, isnot_mk, mCallL, x1, x2, ep, el, sAsgH, hTp, hCns, hIx, hOf, hNl, I.ll, I.bl, ixN_of hj, optD]
    · show ∃ d, (ls.set j _)[k]? = some d ∧ _
      by_cases hkj : k = j
      · subst hkj
        rw [List.getElem?_set_self (by rw [I.ll]; exact hk)]
        refine ⟨_, rfl, ?_⟩
        simp only [BF.up_same]
        exact ⟨isR_mk _, inw⟩
      · rw [List.getElem?_set_ne (Ne.symm hkj)]
        simp only [BF.up_ne hkj]
        obtain ⟨u, a, b, c⟩ := I.lev k hk
        exact ⟨u, a, b, up _ c⟩
    · show (bs.set j _)[k]? = _
      by_cases hkj : k = j
      · subst hkj
        rw [List.getElem?_set_self (by rw [I.bl]; exact hk)]
        simp only [BF.up_same]
        rfl
      · rw [List.getElem?_set_ne (Ne.symm hkj)]
        simp only [BF.up_ne hkj]
        exact I.back k hk
theorem rangeL_get {n i : Nat} {d : D} (h : (rangeL 0 n)[i]? = some d) : i < n ∧ d = .int (i : Nat) := by
  obtain ⟨a, ha, rfl, hr⟩ := paired_get'' (paired_range n) h
  obtain ⟨hi, e⟩ := List.getElem?_eq_some_iff.mp ha
  have e : i = a := by simpa using e
  subst e
  exact ⟨hr, rfl⟩
theorem rangeL_len (n : Nat) : (rangeL 0 n).length = n := by unfold rangeL; simp
def inn (g : Nat → Nat → Rat) (i : Nat) (s : BF.St Rat) (k : Nat) : BF.St Rat := (List.range k).foldl (fun s j => BF.relax RatG g s (i, j)) s
def out (g : Nat → Nat → Rat) (n : Nat) (s : BF.St Rat) (k : Nat) : BF.St Rat := (List.range k).foldl (fun s i => inn g i s n) s
theorem inn_succ {g i s k} : inn g i s (k + 1) = BF.relax RatG g (inn g i s k) (i, k) := by
  unfold inn; rw [List.range_succ, List.foldl_append]; rfl
theorem out_succ {g n s k} : out g n s (k + 1) = inn g k (out g n s k) n := by
  unfold out; rw [List.range_succ, List.foldl_append]; rfl
theorem out_lap (g : Nat → Nat → Rat) (n : Nat) (s : BF.St Rat) : out g n { s with ch := none } n = BF.lap RatG g n s := by
  unfold out BF.lap BF.pairs
  rw [List.foldl_flatMap]
  congr 1
  funext s i
  unfold inn
  rw [List.foldl_map]
section
variable {A : Ads} {n E M K B : Nat} {t st : D} {g : Nat → Nat → Rat}
theorem inner_ev (bd : Bd E B) (hK : (K + 1) * M ≤ B) (hn : n ≤ 1000) (ht : TabR t n g) (hg : ∀ i j, i < n → j < n → InD E M (g i j)) {i c0 : Nat} (hi : i < n) (hc : c0 + n ≤ K) {s : BF.St Rat} {ls bs : List D} (I : KI n E M c0 s ls bs) {lap other here : Option LV} :
    ∃ ls' bs' other' here', sFor (mRg1 (mCons (mVarB 3) (mPure []))) (gNm 9) (kBody A) (kR A n t st lap ls bs s.ch (some (.imm (.int (i : Nat)))) other here) none = some (.nx, kR A n t st lap ls' bs' (inn g i s n).ch (some (.imm (.int (i : Nat)))) other' here', none) ∧ KI n E M (c0 + n) (inn g i s n) ls' bs' := by
  have h := for_run (g := gNm 9) (ms := kBody A) (ds := rangeL 0 n)
    (P := fun fl ρ S => fl = .nx ∧ S = none ∧ ∃ ls' bs' other' here', ρ = kR A n t st lap ls' bs' (inn g i s n).ch (some (.imm (.int (i : Nat)))) other' here' ∧ KI n E M (c0 + n) (inn g i s n) ls' bs')
    (Inv := fun k ρ S => S = none ∧ k ≤ n ∧ ∃ ls' bs' other' here', ρ = kR A n t st lap ls' bs' (inn g i s k).ch (some (.imm (.int (i : Nat)))) other' here' ∧ KI n E M (c0 + k) (inn g i s k) ls' bs') 0
    (fun k d ρ S hd hI => by
      rw [Nat.zero_add] at hI ⊢
      obtain ⟨rfl, hk, ls', bs', o', h', rfl, I'⟩ := hI
      obtain ⟨hkn, rfl⟩ := rangeL_get hd
      obtain ⟨ls2, bs2, h2, e, I2⟩ := body_ev (A := A) (st := st) bd hK ht hg hi hkn (cnt := c0 + k) (by omega) I' (lap := lap) (here := h')
      exact ⟨_, _, _, _, rfl, e, rfl, hkn, ls2, bs2, _, h2, by rw [inn_succ], by rw [inn_succ]; exact I2⟩)
    (fun ρ S hI => by
      rw [Nat.zero_add, rangeL_len] at hI
      obtain ⟨rfl, _, h⟩ := hI
      exact ⟨rfl, rfl, h⟩) _ none ⟨rfl, Nat.zero_le _, ls, bs, other, here, rfl, I⟩
  obtain ⟨fl, ρ', S', e, rfl, rfl, ls', bs', o', h', rfl, I'⟩ := h
  refine ⟨ls', bs', o', h', ?_, I'⟩
  have er : mRg1 (mCons (mVarB 3) (mPure [])) (kR A n t st lap ls bs s.ch (some (.imm (.int (i : Nat)))) other here) none = some (rangeL 0 n, none) := rg1_nat (by simp only [runP, startL, outF, mVar, mVarB, mPure, mOp1, mOp2, mCons, mCall, mTup, mLst, mTst, asB, mNot, mAnd, mOr, mAndV, mOrV, mIte, mSeq, sSq, sIf, sRet, sSet, sSetF, sNil, sFrz, frz, sExpr, sPar2, sPar3, sAsg, mkL, gNm, gTp, gCns, gNl, D.asT, itemsD, addD_int, subD_int, ltD_int, leD_int, gtD_int, geD_int, negD_int, gcdD_int, absD_int, Option.bind_some, Option.map_some, Option.bind_none, Option.map_none, List.map_cons, List.map_nil, List.length_cons, List.length_nil, List.cons_append, List.nil_append, List.getElem?_cons_zero, List.getElem?_cons_succ, List.set_cons_zero, List.set_cons_succ, List.replicate_succ, List.replicate_zero, Nat.reduceAdd, Nat.reduceSub, Nat.reduceLeDiff, if_true, if_false, ite_true, ite_false, Bool.false_eq_true, kR]) (by omega)
  show Option.bind (mRg1 _ _ _) _ = _
  rw [er]
  exact e
theorem outer_ev (bd : Bd E B) (hK : (K + 1) * M ≤ B) (hn : n ≤ 1000) (ht : TabR t n g) (hg : ∀ i j, i < n → j < n → InD E M (g i j)) {c0 : Nat} (hc : c0 + n * n ≤ K) {s : BF.St Rat} {ls bs : List D} (I : KI n E M c0 s ls bs) {lap one other here : Option LV} :
    ∃ ls' bs' one' other' here', sFor (mRg1 (mCons (mVarB 3) (mPure []))) (gNm 8) (sFor (mRg1 (mCons (mVarB 3) (mPure []))) (gNm 9) (kBody A)) (kR A n t st lap ls bs s.ch one other here) none = some (.nx, kR A n t st lap ls' bs' (out g n s n).ch one' other' here', none) ∧ KI n E M (c0 + n * n) (out g n s n) ls' bs' := by
  have h := for_run (g := gNm 8) (ms := sFor (mRg1 (mCons (mVarB 3) (mPure []))) (gNm 9) (kBody A)) (ds := rangeL 0 n)
    (P := fun fl ρ S => fl = .nx ∧ S = none ∧ ∃ ls' bs' one' other' here', ρ = kR A n t st lap ls' bs' (out g n s n).ch one' other' here' ∧ KI n E M (c0 + n * n) (out g n s n) ls' bs')
    (Inv := fun k ρ S => S = none ∧ k ≤ n ∧ ∃ ls' bs' one' other' here', ρ = kR A n t st lap ls' bs' (out g n s k).ch one' other' here' ∧ KI n E M (c0 + k * n) (out g n s k) ls' bs') 0
    (fun k d ρ S hd hI => by
      rw [Nat.zero_add] at hI ⊢
      obtain ⟨rfl, hk, ls', bs', w', o', h', rfl, I'⟩ := hI
      obtain ⟨hkn, rfl⟩ := rangeL_get hd
      have hb : c0 + k * n + n ≤ K := by
        have : (k + 1) * n ≤ n * n := Nat.mul_le_mul_right n hkn
        rw [Nat.succ_mul] at this
        omega
      obtain ⟨ls2, bs2, o2, h2, e, I2⟩ := inner_ev (A := A) (st := st) bd hK hn ht hg hkn hb I' (lap := lap) (other := o') (here := h')
      exact ⟨_, _, _, _, rfl, e, rfl, hkn, ls2, bs2, _, o2, h2, by rw [out_succ], by rw [out_succ, Nat.succ_mul, ← Nat.add_assoc]; exact I2⟩)
    (fun ρ S hI => by
      rw [Nat.zero_add, rangeL_len] at hI
      obtain ⟨rfl, _, h⟩ := hI
      exact ⟨rfl, rfl, h⟩) _ none ⟨rfl, Nat.zero_le _, ls, bs, one, other, here, rfl, by rw [Nat.zero_mul]; exact I⟩
  obtain ⟨fl, ρ', S', e, rfl, rfl, ls', bs', w', o', h', rfl, I'⟩ := h
  refine ⟨ls', bs', w', o', h', ?_, I'⟩
  have er : mRg1 (mCons (mVarB 3) (mPure [])) (kR A n t st lap ls bs s.ch one other here) none = some (rangeL 0 n, none) := rg1_nat (by simp only [runP, startL, outF, mVar, mVarB, mPure, mOp1, mOp2, mCons, mCall, mTup, mLst, mTst, asB, mNot, mAnd, mOr, mAndV, mOrV, mIte, mSeq, sSq, sIf, sRet, sSet, sSetF, sNil, sFrz, frz, sExpr, sPar2, sPar3, sAsg, mkL, gNm, gTp, gCns, gNl, D.asT, itemsD, addD_int, subD_int, ltD_int, leD_int, gtD_int, geD_int, negD_int, gcdD_int, absD_int, Option.bind_some, Option.map_some, Option.bind_none, Option.map_none, List.map_cons, List.map_nil, List.length_cons, List.length_nil, List.cons_append, List.nil_append, List.getElem?_cons_zero, List.getElem?_cons_succ, List.set_cons_zero, List.set_cons_succ, List.replicate_succ, List.replicate_zero, Nat.reduceAdd, Nat.reduceSub, Nat.reduceLeDiff, if_true, if_false, ite_true, ite_false, Bool.false_eq_true, kR]) (by omega)
  show Option.bind (mRg1 _ _ _) _ = _
  rw [er]
  exact e
end
end K25
namespace K25
open PySem PyProof.Rows L2 Dv

theorem neD_int (a b : Int) : neD (.int a) (.int b) = some (.bl (decide (a ≠ b))) := by
  have e : PyData.eqv (.int a) (.int b) = decide (a = b) := by
    simp only [PyData.eqv]
    exact Bool.eq_iff_iff.mpr (by simp)
  have : neD (.int a) (.int b) = some (.bl (!PyData.eqv (.int a) (.int b))) := rfl
  rw [this, e]
  by_cases h : a = b <;> simp [h]
theorem eqD_int (a b : Int) : eqD (.int a) (.int b) = some (.bl (decide (a = b))) := by
  have e : PyData.eqv (.int a) (.int b) = decide (a = b) := by
    simp only [PyData.eqv]
    exact Bool.eq_iff_iff.mpr (by simp)
  have : eqD (.int a) (.int b) = some (.bl (PyData.eqv (.int a) (.int b))) := rfl
  rw [this, e]
section ring
variable {n : Nat} {back : Nat → Option Nat} {c : Nat} {bs : List D}
theorem back_ix (hbl : bs.length = n) (hbs : ∀ j, j < n → bs[j]? = some (optD (back j))) (hb : ∀ k, back (BF.chain back c k) ≠ none) (hl : ∀ k, BF.chain back c k < n) (k : Nat) : ixD (.lst bs) (.int (BF.chain back c k : Nat)) = some (.int (BF.chain back c (k + 1) : Nat)) := by
  refine ix_nat rfl ?_
  rw [hbs _ (hl k), BF.chain_back k (hb k)]
  rfl
theorem ring_ev (hn : n ≤ 1000) (hbl : bs.length = n) (hbs : ∀ j, j < n → bs[j]? = some (optD (back j))) (hb : ∀ k, back (BF.chain back c k) ≠ none) (hl : ∀ k, BF.chain back c k < n) {p : Nat} (hp : 0 < p) (hpn : p ≤ n) (hc : BF.chain back c (n + p) = BF.chain back c n) (hmin : ∀ q, 0 < q → q < p → BF.chain back c (n + q) ≠ BF.chain back c n) :
    f_ring_behind [.lst bs, .int (c : Nat), .int (n : Nat)] = some (.tup ((List.range p).map fun t => D.int (BF.chain back c (n + t) : Nat)).reverse) := by
  have hix := back_ix hbl hbs hb hl
  have h1 := for_run (g := gNm 4) (ms := sSet 3 (mOp2 ixD (mVarB 0) (mVarB 3))) (ds := rangeL 0 n)
    (P := fun fl ρ S => fl = .nx ∧ S = none ∧ ∃ l, ρ = [some (.imm (.lst bs)), some (.imm (.int (c : Nat))), some (.imm (.int (n : Nat))), some (.imm (.int (BF.chain back c n : Nat))), l, none, none])
    (Inv := fun k ρ S => S = none ∧ ∃ l, ρ = [some (.imm (.lst bs)), some (.imm (.int (c : Nat))), some (.imm (.int (n : Nat))), some (.imm (.int (BF.chain back c k : Nat))), l, none, none]) 0
    (fun k d ρ S hd hI => by
      rw [Nat.zero_add] at hI ⊢
      obtain ⟨rfl, l, rfl⟩ := hI
      refine ⟨_, .nx, _, none, rfl, ?_, rfl, some (.imm d), rfl⟩
      simp only [runP, startL, outF, mVar, mVarB, mPure, mOp1, mOp2, mCons, mCall, mTup, mLst, mTst, asB, mNot, mAnd, mOr, mAndV, mOrV, mIte, mSeq, sSq, sIf, sRet, sSet, sSetF, sNil, sFrz, frz, sExpr, sPar2, sPar3, sAsg, mkL, gNm, gTp, gCns, gNl, D.asT, itemsD, addD_int, subD_int, ltD_int, leD_int, gtD_int, geD_int, negD_int, gcdD_int, absD_int, Option.bind_some, Option.map_some, Option.bind_none, Option.map_none, List.map_cons, List.map_nil, List.length_cons, List.length_nil, List.cons_append, List.nil_append, List.getElem?_cons_zero, List.getElem?_cons_succ, List.set_cons_zero, List.set_cons_succ, List.replicate_succ, List.replicate_zero, Nat.reduceAdd, Nat.reduceSub, Nat.reduceLeDiff, if_true, if_false, ite_true, ite_false, Bool.false_eq_true, hix])
    (fun ρ S hI => by
      rw [Nat.zero_add, rangeL_len] at hI
      exact ⟨rfl, hI⟩) [some (.imm (.lst bs)), some (.imm (.int (c : Nat))), some (.imm (.int (n : Nat))), some (.imm (.int (c : Nat))), none, none, none] none ⟨rfl, none, rfl⟩
  obtain ⟨fl, ρ', S', e1, rfl, rfl, l, rfl⟩ := h1
  have hw : ∀ k m, k + m = p → 0 < m → whN (mTst (mOp2 neD (mVarB 6) (mVarB 3))) (sSq (sApp 5 (mVar 6)) (sSet 6 (mOp2 ixD (mVarB 0) (mVarB 6)))) (k + 1)
      [some (.imm (.lst bs)), some (.imm (.int (c : Nat))), some (.imm (.int (n : Nat))), some (.imm (.int (BF.chain back c n : Nat))), l, some (.own (.lst ((List.range m).map fun t => D.int (BF.chain back c (n + t) : Nat)))), some (.imm (.int (BF.chain back c (n + m) : Nat)))] none =
      some (.nx, [some (.imm (.lst bs)), some (.imm (.int (c : Nat))), some (.imm (.int (n : Nat))), some (.imm (.int (BF.chain back c n : Nat))), l, some (.own (.lst ((List.range p).map fun t => D.int (BF.chain back c (n + t) : Nat)))), some (.imm (.int (BF.chain back c (n + p) : Nat)))], none) := by
    intro k
    induction k with
    | zero =>
      intro m hm h0
      have hmp : m = p := by omega
      subst hmp
      unfold whN
      simp only [runP, startL, outF, mVar, mVarB, mPure, mOp1, mOp2, mCons, mCall, mTup, mLst, mTst, asB, mNot, mAnd, mOr, mAndV, mOrV, mIte, mSeq, sSq, sIf, sRet, sSet, sSetF, sNil, sFrz, frz, sExpr, sPar2, sPar3, sAsg, mkL, gNm, gTp, gCns, gNl, D.asT, itemsD, addD_int, subD_int, ltD_int, leD_int, gtD_int, geD_int, negD_int, gcdD_int, absD_int, Option.bind_some, Option.map_some, Option.bind_none, Option.map_none, List.map_cons, List.map_nil, List.length_cons, List.length_nil, List.cons_append, List.nil_append, List.getElem?_cons_zero, List.getElem?_cons_succ, List.set_cons_zero, List.set_cons_succ, List.replicate_succ, List.replicate_zero, Nat.reduceAdd, Nat.reduceSub, Nat.reduceLeDiff, if_true, if_false, ite_true, ite_false, Bool.false_eq_true, neD_int, hc, ne_eq, not_true_eq_false, decide_false]
    | succ k ih =>
      intro m hm h0
      have hne : BF.chain back c (n + m) ≠ BF.chain back c n := hmin m h0 (by omega)
      have hne' : ((BF.chain back c (n + m) : Nat) : Int) ≠ ((BF.chain back c n : Nat) : Int) := by omega
      have hlen : ((List.range m).map fun t => D.int (BF.chain back c (n + t) : Nat)).length < 1000000 := by rw [List.length_map, List.length_range]; omega
      have hr : ((List.range m).map fun t => D.int (BF.chain back c (n + t) : Nat)) ++ [D.int (BF.chain back c (n + m) : Nat)] = (List.range (m + 1)).map fun t => D.int (BF.chain back c (n + t) : Nat) := by
        rw [List.range_succ, List.map_append]; rfl
      unfold whN
      have et : mTst (mOp2 neD (mVarB 6) (mVarB 3)) [some (.imm (.lst bs)), some (.imm (.int (c : Nat))), some (.imm (.int (n : Nat))), some (.imm (.int (BF.chain back c n : Nat))), l, some (.own (.lst ((List.range m).map fun t => D.int (BF.chain back c (n + t) : Nat)))), some (.imm (.int (BF.chain back c (n + m) : Nat)))] none = some (true, none) := by
        simp only [runP, startL, outF, mVar, mVarB, mPure, mOp1, mOp2, mCons, mCall, mTup, mLst, mTst, asB, mNot, mAnd, mOr, mAndV, mOrV, mIte, mSeq, sSq, sIf, sRet, sSet, sSetF, sNil, sFrz, frz, sExpr, sPar2, sPar3, sAsg, mkL, gNm, gTp, gCns, gNl, D.asT, itemsD, addD_int, subD_int, ltD_int, leD_int, gtD_int, geD_int, negD_int, gcdD_int, absD_int, Option.bind_some, Option.map_some, Option.bind_none, Option.map_none, List.map_cons, List.map_nil, List.length_cons, List.length_nil, List.cons_append, List.nil_append, List.getElem?_cons_zero, List.getElem?_cons_succ, List.set_cons_zero, List.set_cons_succ, List.replicate_succ, List.replicate_zero, Nat.reduceAdd, Nat.reduceSub, Nat.reduceLeDiff, if_true, if_false, ite_true, ite_false, Bool.false_eq_true, neD_int, hne', ne_eq, not_false_eq_true, decide_true]
      have es : sSq (sApp 5 (mVar 6)) (sSet 6 (mOp2 ixD (mVarB 0) (mVarB 6))) [some (.imm (.lst bs)), some (.imm (.int (c : Nat))), some (.imm (.int (n : Nat))), some (.imm (.int (BF.chain back c n : Nat))), l, some (.own (.lst ((List.range m).map fun t => D.int (BF.chain back c (n + t) : Nat)))), some (.imm (.int (BF.chain back c (n + m) : Nat)))] none =
          some (.nx, [some (.imm (.lst bs)), some (.imm (.int (c : Nat))), some (.imm (.int (n : Nat))), some (.imm (.int (BF.chain back c n : Nat))), l, some (.own (.lst ((List.range (m + 1)).map fun t => D.int (BF.chain back c (n + t) : Nat)))), some (.imm (.int (BF.chain back c (n + (m + 1)) : Nat)))], none) := by
        have := hix (n + m)
        rw [show n + (m + 1) = n + m + 1 by omega]
        simp only [runP, startL, outF, mVar, mVarB, mPure, mOp1, mOp2, mCons, mCall, mTup, mLst, mTst, asB, mNot, mAnd, mOr, mAndV, mOrV, mIte, mSeq, sSq, sIf, sRet, sSet, sSetF, sNil, sFrz, frz, sExpr, sPar2, sPar3, sAsg, mkL, gNm, gTp, gCns, gNl, D.asT, itemsD, addD_int, subD_int, ltD_int, leD_int, gtD_int, geD_int, negD_int, gcdD_int, absD_int, Option.bind_some, Option.map_some, Option.bind_none, Option.map_none, List.map_cons, List.map_nil, List.length_cons, List.length_nil, List.cons_append, List.nil_append, List.getElem?_cons_zero, List.getElem?_cons_succ, List.set_cons_zero, List.set_cons_succ, List.replicate_succ, List.replicate_zero, Nat.reduceAdd, Nat.reduceSub, Nat.reduceLeDiff, if_true, if_false, ite_true, ite_false, Bool.false_eq_true, sApp, hlen, hr, this]
      rw [et]
      simp only [Option.bind_some, if_true]
      rw [es]
      exact ih (m + 1) (by omega) (by omega)
  have hw1 := sWh_of (hw (p - 1) 1 (by omega) (by omega))
  have er : mRg1 (mCons (mVarB 2) (mPure [])) [some (.imm (.lst bs)), some (.imm (.int (c : Nat))), some (.imm (.int (n : Nat))), some (.imm (.int (c : Nat))), none, none, none] none = some (rangeL 0 n, none) := rg1_nat (by simp only [runP, startL, outF, mVar, mVarB, mPure, mOp1, mOp2, mCons, mCall, mTup, mLst, mTst, asB, mNot, mAnd, mOr, mAndV, mOrV, mIte, mSeq, sSq, sIf, sRet, sSet, sSetF, sNil, sFrz, frz, sExpr, sPar2, sPar3, sAsg, mkL, gNm, gTp, gCns, gNl, D.asT, itemsD, addD_int, subD_int, ltD_int, leD_int, gtD_int, geD_int, negD_int, gcdD_int, absD_int, Option.bind_some, Option.map_some, Option.bind_none, Option.map_none, List.map_cons, List.map_nil, List.length_cons, List.length_nil, List.cons_append, List.nil_append, List.getElem?_cons_zero, List.getElem?_cons_succ, List.set_cons_zero, List.set_cons_succ, List.replicate_succ, List.replicate_zero, Nat.reduceAdd, Nat.reduceSub, Nat.reduceLeDiff, if_true, if_false, ite_true, ite_false, Bool.false_eq_true]) (by omega)
  have e2 : sFor (mRg1 (mCons (mVarB 2) (mPure []))) (gNm 4) (sSet 3 (mOp2 ixD (mVarB 0) (mVarB 3))) [some (.imm (.lst bs)), some (.imm (.int (c : Nat))), some (.imm (.int (n : Nat))), some (.imm (.int (c : Nat))), none, none, none] none = some (.nx, [some (.imm (.lst bs)), some (.imm (.int (c : Nat))), some (.imm (.int (n : Nat))), some (.imm (.int (BF.chain back c n : Nat))), l, none, none], none) := by
    show Option.bind (mRg1 _ _ _) _ = _
    rw [er]
    exact e1
  have e3 := hix n
  simp only [runP, startL, outF, mVar, mVarB, mPure, mOp1, mOp2, mCons, mCall, mTup, mLst, mTst, asB, mNot, mAnd, mOr, mAndV, mOrV, mIte, mSeq, sSq, sIf, sRet, sSet, sSetF, sNil, sFrz, frz, sExpr, sPar2, sPar3, sAsg, mkL, gNm, gTp, gCns, gNl, D.asT, itemsD, addD_int, subD_int, ltD_int, leD_int, gtD_int, geD_int, negD_int, gcdD_int, absD_int, Option.bind_some, Option.map_some, Option.bind_none, Option.map_none, List.map_cons, List.map_nil, List.length_cons, List.length_nil, List.cons_append, List.nil_append, List.getElem?_cons_zero, List.getElem?_cons_succ, List.set_cons_zero, List.set_cons_succ, List.replicate_succ, List.replicate_zero, Nat.reduceAdd, Nat.reduceSub, Nat.reduceLeDiff, if_true, if_false, ite_true, ite_false, Bool.false_eq_true, f_ring_behind, m_ring_behind, e2, e3, Nat.reduceLeDiff]
  have hw2 : sWh (mTst (mOp2 neD (mVarB 6) (mVarB 3))) (sSq (sApp 5 (mVar 6)) (sSet 6 (mOp2 ixD (mVarB 0) (mVarB 6)))) [some (.imm (.lst bs)), some (.imm (.int (c : Nat))), some (.imm (.int (n : Nat))), some (.imm (.int (BF.chain back c n : Nat))), l, some (.own (.lst [D.int (BF.chain back c n : Nat)])), some (.imm (.int (BF.chain back c (n + 1) : Nat)))] none = some (.nx, [some (.imm (.lst bs)), some (.imm (.int (c : Nat))), some (.imm (.int (n : Nat))), some (.imm (.int (BF.chain back c n : Nat))), l, some (.own (.lst ((List.range p).map fun t => D.int (BF.chain back c (n + t) : Nat)))), some (.imm (.int (BF.chain back c (n + p) : Nat)))], none) := hw1
  rw [hw2]
  simp only [runP, startL, outF, mVar, mVarB, mPure, mOp1, mOp2, mCons, mCall, mTup, mLst, mTst, asB, mNot, mAnd, mOr, mAndV, mOrV, mIte, mSeq, sSq, sIf, sRet, sSet, sSetF, sNil, sFrz, frz, sExpr, sPar2, sPar3, sAsg, mkL, gNm, gTp, gCns, gNl, D.asT, itemsD, addD_int, subD_int, ltD_int, leD_int, gtD_int, geD_int, negD_int, gcdD_int, absD_int, Option.bind_some, Option.map_some, Option.bind_none, Option.map_none, List.map_cons, List.map_nil, List.length_cons, List.length_nil, List.cons_append, List.nil_append, List.getElem?_cons_zero, List.getElem?_cons_succ, List.set_cons_zero, List.set_cons_succ, List.replicate_succ, List.replicate_zero, Nat.reduceAdd, Nat.reduceSub, Nat.reduceLeDiff, if_true, if_false, ite_true, ite_false, Bool.false_eq_true, revL, tupleD]
end ring
end K25
namespace K25
open PySem PyProof.Rows L2 Dv

/-- the steps round a ring -/
def stepsR (ring : List Nat) : List (Nat × Nat) := ring.zip (ring.tail ++ ring.take 1)
structure KeepR (n : Nat) (g : Nat → Nat → Rat) (E X : Nat) (ls : List D) (lev : Nat → Rat) : Prop where
  len : ls.length = n
  at_ : ∀ j, j < n → ∃ d, ls[j]? = some d ∧ IsR d (lev j) ∧ InD E X (lev j)
  keep : ∀ i j, i < n → j < n → lev j ≤ lev i + g i j
structure RingR (n : Nat) (g : Nat → Nat → Rat) (ring : List Nat) : Prop where
  two : 2 ≤ ring.length
  len : ring.length ≤ n
  nd : ring.Nodup
  lt : ∀ i ∈ ring, i < n
  less : rsum ((stepsR ring).map fun p => g p.1 p.2) < 0
theorem rsum_append (l m : List Rat) : rsum (l ++ m) = rsum l + rsum m := by
  show (l ++ m).foldl _ _ = _
  rw [List.foldl_append, foldl_add]; rfl
theorem prod_rsum (l : List Rat) : BF.prod RatG l = rsum l := rfl
theorem zip_round (x : Nat → Nat) (y : Nat) : ∀ m, (x m :: (List.range m).reverse.map x).zip ((List.range m).reverse.map x ++ [y]) = ((List.range m).reverse.map fun t => (x (t + 1), x t)) ++ [(x 0, y)]
  | 0 => rfl
  | m + 1 => by
    have e : (List.range (m + 1)).reverse = m :: (List.range m).reverse := by rw [List.range_succ, List.reverse_append]; rfl
    rw [e]
    simp only [List.map_cons, List.cons_append, List.zip_cons_cons]
    rw [zip_round x y m]
theorem ring_of {n : Nat} {g : Nat → Nat → Rat} (hg : ∀ i, g i i = 0) {s : BF.St Rat} {T now} (G : BF.Good RatG g n s T now) {c p : Nat} (hb : ∀ k, s.back (BF.chain s.back c k) ≠ none) (hl : ∀ k, BF.chain s.back c k < n) (hp : 0 < p) (hpn : p ≤ n)
    (hc : BF.chain s.back c (n + p) = BF.chain s.back c n) (hmin : ∀ q, 0 < q → q < p → BF.chain s.back c (n + q) ≠ BF.chain s.back c n) : RingR n g ((List.range p).reverse.map fun t => BF.chain s.back c (n + t)) := by
  have ha : ∀ t, BF.chain s.back (BF.chain s.back c n) t = BF.chain s.back c (n + t) := BF.chain_add n
  have hless := BF.ring_less G (c := BF.chain s.back c n) (fun k => by rw [ha]; exact hb _) hp (by rw [ha]; exact hc)
  simp only [ha] at hless
  rw [prod_rsum] at hless
  have hless := of_decide_eq_true hless
  have hp2 : 2 ≤ p := by
    refine Classical.byContradiction fun h => ?_
    have : p = 1 := by omega
    subst this
    have e : (List.range 1).reverse.map (fun t => g (BF.chain s.back c (n + (t + 1))) (BF.chain s.back c (n + t))) = [0] := by
      show [g (BF.chain s.back c (n + 1)) (BF.chain s.back c (n + 0))] = [0]
      rw [hc, Nat.add_zero, hg]
    rw [e] at hless
    have e0 : rsum [(0 : Rat)] = 0 := by rw [rsum_cons]; exact Rat.add_zero 0
    rw [e0] at hless
    exact absurd hless Rat.lt_irrefl
  refine ⟨by simpa using hp2, by simpa using hpn, ?_, fun i hi => ?_, ?_⟩
  · rw [List.nodup_iff_pairwise_ne, List.pairwise_map, List.pairwise_reverse]
    refine List.Pairwise.imp_of_mem ?_ (List.pairwise_lt_range (n := p))
    intro a b hbm hbm2 hab e
    rw [List.mem_range] at hbm2
    have h1 := BF.chain_add (back := s.back) (c := c) (n + a) (p - b)
    have h2 := BF.chain_add (back := s.back) (c := c) (n + b) (p - b)
    rw [← e] at h1
    rw [h2] at h1
    rw [show n + b + (p - b) = n + p by omega, hc, show n + a + (p - b) = n + (a + (p - b)) by omega] at h1
    exact hmin (a + (p - b)) (by omega) (by omega) h1.symm
  · obtain ⟨t, _, rfl⟩ := List.mem_map.mp hi
    exact hl _
  · obtain ⟨m, rfl⟩ : ∃ m, p = m + 1 := ⟨p - 1, by omega⟩
    have e : (List.range (m + 1)).reverse = m :: (List.range m).reverse := by rw [List.range_succ, List.reverse_append]; rfl
    rw [e] at hless ⊢
    unfold stepsR
    simp only [List.map_cons, List.tail_cons, List.take_succ_cons, List.take_zero] at hless ⊢
    rw [zip_round (fun t => BF.chain s.back c (n + t)), List.map_append, rsum_append]
    rw [rsum_cons, hc] at hless
    simp only [List.map_cons, List.map_nil, List.map_map]
    have e1 : rsum [g (BF.chain s.back c (n + 0)) (BF.chain s.back c (n + m))] = g (BF.chain s.back c n) (BF.chain s.back c (n + m)) := by
      rw [rsum_cons]; show _ + (0 : Rat) = _; rw [Rat.add_zero, Nat.add_zero]
    rw [e1, Rat.add_comm]
    exact hless

theorem sSq_nx {m k : MS} {ρ ρ' : Lo} {S S' : Sg} (h : m ρ S = some (.nx, ρ', S')) : sSq m k ρ S = k ρ' S' := by unfold sSq; rw [h]; rfl
theorem sSq_rt {m k : MS} {ρ ρ' : Lo} {S S' : Sg} {d : D} (h : m ρ S = some (.rt d, ρ', S')) : sSq m k ρ S = some (.rt d, ρ', S') := by unfold sSq; rw [h]; rfl
theorem sSq_eq {m k : MS} {ρ : Lo} {S : Sg} : sSq m k ρ S = (m ρ S).bind fun p => match p.1 with | .nx => k p.2.1 p.2.2 | _ => some p := rfl
theorem mulL_one {x : D} {n : Nat} (h : n ≤ 1000) : mulL (.lst [x]) (.int (n : Nat)) = some (.lst (List.replicate n x)) := by
  have e : ∀ k, (List.replicate k [x]).flatten = List.replicate k x := fun k => by
    induction k with
    | zero => rfl
    | succ k ih => rw [List.replicate_succ, List.flatten_cons, ih, List.replicate_succ]; rfl
  unfold mulL
  have hs : 1000 ≤ sizeLine := by decide
  dsimp only
  rw [if_pos ⟨by omega, by omega, by simp; omega⟩]
  rw [Int.toNat_natCast, e]
section
variable {A : Ads} {n E M B : Nat} {t : D} {g : Nat → Nat → Rat}
abbrev kR0 (A : Ads) (n : Nat) (t : D) (lap : Option LV) (ls bs : List D) (ch one other here : Option LV) : Lo :=
  [some (.imm t), some (.imm (.kt [.int 0, .int 1])), some (.imm (.fn A.plus)), some (.imm (.int (n : Nat))), lap, some (.own (.lst ls)), some (.own (.lst bs)), ch, one, other, here]
noncomputable def kLap (A : Ads) : MS := (sSq (sSet 7 (mPure .non))
  (sSq (sFor (mRg1 (mCons (mVarB 3) (mPure []))) (gNm 8) (sFor (mRg1 (mCons (mVarB 3) (mPure []))) (gNm 9) (kBody A)))
  (sIf (mTst (mOp2 isD (mVarB 7) (mPure .non))) (sRet (mTup (mCons (mPure (.str "some")) (mCons (mCall tupleD (mCons (mVarB 5) (mPure []))) (mPure []))))) sNil)))
def kP (A : Ads) (n E M : Nat) (t : D) (g : Nat → Nat → Rat) : Fl → Lo → Sg → Prop := fun fl ρ S => match fl with
      | .rt d => S = none ∧ ∃ ls lev, d = .tup [.str "some", .tup ls] ∧ KeepR n g E ((n + 1) * (n * n) * M) ls lev
      | .nx => S = none ∧ ∃ ls bs lap one other here, ρ = kR0 A n t lap ls bs (some (.imm (optD (BF.laps RatG g n (n + 1)).ch))) one other here ∧ KI n E M ((n + 1) * (n * n)) (BF.laps RatG g n (n + 1)) ls bs ∧ (BF.laps RatG g n (n + 1)).ch ≠ none
      | _ => False
def kInv (A : Ads) (n E M : Nat) (t : D) (g : Nat → Nat → Rat) : Nat → Lo → Sg → Prop := fun k ρ S => S = none ∧ k ≤ n + 1 ∧ ∃ ls bs lap ch one other here, ρ = kR0 A n t lap ls bs ch one other here ∧ KI n E M (k * (n * n)) (BF.laps RatG g n k) ls bs ∧ (0 < k → ch = some (.imm (optD (BF.laps RatG g n k).ch)) ∧ (BF.laps RatG g n k).ch ≠ none)
theorem lap_ev (bd : Bd E B) (hK : ((n + 1) * (n * n) + 1) * M ≤ B) (hn : n ≤ 1000) (ht : TabR t n g) (hg : ∀ i j, i < n → j < n → InD E M (g i j)) (hg0 : ∀ i, g i i = 0) {k : Nat} {d : D} {ρ : Lo} {S : Sg} (hd : (rangeL 0 ((n + 1 : Nat) : Int))[k]? = some d) (hI : kInv A n E M t g k ρ S) :
    ∃ ρ1 fl ρ2 S2, gNm 4 d ρ = some ρ1 ∧ kLap A ρ1 S = some (fl, ρ2, S2) ∧ match fl with | .nx | .ct => kInv A n E M t g (k + 1) ρ2 S2 | .bk => kP A n E M t g .nx ρ2 S2 | .rt d => kP A n E M t g (.rt d) ρ2 S2 := by
  have hgO : ∀ i, g i i = RatG.one := hg0
  obtain ⟨rfl, hk, ls, bs, lap, ch, one, other, here, rfl, I, hch⟩ := hI
  obtain ⟨hkn, rfl⟩ := rangeL_get hd
  have I0 : KI n E M (k * (n * n)) { BF.laps RatG g n k with ch := none } ls bs := ⟨I.ll, I.bl, I.lev, I.back⟩
  have hb : k * (n * n) + n * n ≤ (n + 1) * (n * n) := by
    have : (k + 1) * (n * n) ≤ (n + 1) * (n * n) := Nat.mul_le_mul_right _ hkn
    rw [Nat.succ_mul] at this
    exact this
  obtain ⟨ls2, bs2, o1, o2, h2, e, I2⟩ := outer_ev (A := A) (st := .kt [.int 0, .int 1]) bd hK hn ht hg hb I0 (lap := some (.imm (.int (k : Nat)))) (one := one) (other := other) (here := here)
  rw [out_lap] at e I2
  have eL : BF.lap RatG g n (BF.laps RatG g n k) = BF.laps RatG g n (k + 1) := rfl
  rw [eL] at e I2
  have e7 : sSet 7 (mPure .non) (kR0 A n t (some (.imm (.int (k : Nat)))) ls bs ch one other here) none = some (.nx, kR A n t (.kt [.int 0, .int 1]) (some (.imm (.int (k : Nat)))) ls bs none one other here, none) := by
    simp only [runP, startL, outF, mVar, mVarB, mPure, mOp1, mOp2, mCons, mCall, mTup, mLst, mTst, asB, mNot, mAnd, mOr, mAndV, mOrV, mIte, mSeq, sSq, sIf, sRet, sSet, sSetF, sNil, sFrz, frz, sExpr, sPar2, sPar3, sAsg, mkL, gNm, gTp, gCns, gNl, D.asT, itemsD, addD_int, subD_int, ltD_int, leD_int, gtD_int, geD_int, negD_int, gcdD_int, absD_int, Option.bind_some, Option.map_some, Option.bind_none, Option.map_none, List.map_cons, List.map_nil, List.length_cons, List.length_nil, List.cons_append, List.nil_append, List.getElem?_cons_zero, List.getElem?_cons_succ, List.set_cons_zero, List.set_cons_succ, List.replicate_succ, List.replicate_zero, Nat.reduceAdd, Nat.reduceSub, Nat.reduceLeDiff, if_true, if_false, ite_true, ite_false, Bool.false_eq_true, kR0, kR, optD]
  cases hc : (BF.laps RatG g n (k + 1)).ch with
  | none =>
    rw [hc] at e
    refine ⟨_, .rt (.tup [.str "some", .tup ls2]), kR A n t (.kt [.int 0, .int 1]) (some (.imm (.int (k : Nat)))) ls2 bs2 none o1 o2 h2, none, rfl, ?_, rfl, ls2, (BF.laps RatG g n (k + 1)).lev, rfl, I2.ll, fun j hj => ?_, fun i j hi hj => ?_⟩
    · have e7' : sSet 7 (mPure .non) (List.set (kR0 A n t lap ls bs ch one other here) 4 (some (.imm (.int (k : Nat))))) none = _ := e7
      unfold kLap
      show Option.bind (sSet 7 _ _ _) _ = _
      rw [e7']
      show sSq _ _ _ _ = _
      show Option.bind (sFor _ _ _ _ _) _ = _
      rw [e]
      simp only [runP, startL, outF, mVar, mVarB, mPure, mOp1, mOp2, mCons, mCall, mTup, mLst, mTst, asB, mNot, mAnd, mOr, mAndV, mOrV, mIte, mSeq, sSq, sIf, sRet, sSet, sSetF, sNil, sFrz, frz, sExpr, sPar2, sPar3, sAsg, mkL, gNm, gTp, gCns, gNl, D.asT, itemsD, addD_int, subD_int, ltD_int, leD_int, gtD_int, geD_int, negD_int, gcdD_int, absD_int, Option.bind_some, Option.map_some, Option.bind_none, Option.map_none, List.map_cons, List.map_nil, List.length_cons, List.length_nil, List.cons_append, List.nil_append, List.getElem?_cons_zero, List.getElem?_cons_succ, List.set_cons_zero, List.set_cons_succ, List.replicate_succ, List.replicate_zero, Nat.reduceAdd, Nat.reduceSub, Nat.reduceLeDiff, if_true, if_false, ite_true, ite_false, Bool.false_eq_true, kR, optD, isD, tupleD]
    · obtain ⟨d, a, b, c⟩ := I2.lev j hj
      exact ⟨d, a, b, c.mono (Nat.mul_le_mul_right M (by rw [← Nat.succ_mul] at hb; rw [← Nat.succ_mul]; exact hb))⟩
    · have := BF.laps_some (O := RatG) (g := g) (n := n) hgO hc i j hi hj
      exact Rat.not_lt.mp (of_decide_eq_false this)
  | some c =>
    rw [hc] at e
    refine ⟨_, .nx, kR A n t (.kt [.int 0, .int 1]) (some (.imm (.int (k : Nat)))) ls2 bs2 (some c) o1 o2 h2, none, rfl, ?_, rfl, hkn, ls2, bs2, some (.imm (.int (k : Nat))), _, o1, o2, h2, rfl, by rw [Nat.succ_mul]; exact I2, fun _ => ⟨by rw [hc], by rw [hc]; exact fun z => nomatch z⟩⟩
    have e7' : sSet 7 (mPure .non) (List.set (kR0 A n t lap ls bs ch one other here) 4 (some (.imm (.int (k : Nat))))) none = _ := e7
    unfold kLap
    show Option.bind (sSet 7 _ _ _) _ = _
    rw [e7']
    show sSq _ _ _ _ = _
    show Option.bind (sFor _ _ _ _ _) _ = _
    rw [e]
    simp only [runP, startL, outF, mVar, mVarB, mPure, mOp1, mOp2, mCons, mCall, mTup, mLst, mTst, asB, mNot, mAnd, mOr, mAndV, mOrV, mIte, mSeq, sSq, sIf, sRet, sSet, sSetF, sNil, sFrz, frz, sExpr, sPar2, sPar3, sAsg, mkL, gNm, gTp, gCns, gNl, D.asT, itemsD, addD_int, subD_int, ltD_int, leD_int, gtD_int, geD_int, negD_int, gcdD_int, absD_int, Option.bind_some, Option.map_some, Option.bind_none, Option.map_none, List.map_cons, List.map_nil, List.length_cons, List.length_nil, List.cons_append, List.nil_append, List.getElem?_cons_zero, List.getElem?_cons_succ, List.set_cons_zero, List.set_cons_succ, List.replicate_succ, List.replicate_zero, Nat.reduceAdd, Nat.reduceSub, Nat.reduceLeDiff, if_true, if_false, ite_true, ite_false, Bool.false_eq_true, kR, optD, isD, tupleD]
theorem kept_laps (bd : Bd E B) (hK : ((n + 1) * (n * n) + 1) * M ≤ B) (hn : n ≤ 1000) (ht : TabR t n g) (hg : ∀ i j, i < n → j < n → InD E M (g i j)) (hg0 : ∀ i, g i i = 0) : ∃ fl ρ' S', forGo (gNm 4) (kLap A) (rangeL 0 ((n + 1 : Nat) : Int)) (kR0 A n t none (List.replicate n (.kt [.int 0, .int 1])) (List.replicate n .non) none none none none) none = some (fl, ρ', S') ∧ kP A n E M t g fl ρ' S' :=
  for_run (g := gNm 4) (ms := kLap A) (ds := rangeL 0 ((n + 1 : Nat) : Int))
    (P := kP A n E M t g)
    (Inv := kInv A n E M t g) 0
    (fun k d ρ S hd hI => by
      rw [Nat.zero_add] at hI ⊢
      exact lap_ev bd hK hn ht hg hg0 hd hI)
    (fun ρ S hI => by
      rw [Nat.zero_add, rangeL_len] at hI
      obtain ⟨rfl, _, ls, bs, lap, ch, one, other, here, rfl, I, hch⟩ := hI
      obtain ⟨rfl, hne⟩ := hch (by omega)
      exact ⟨rfl, ls, bs, lap, one, other, here, rfl, I, hne⟩) (kR0 A n t none (List.replicate n (.kt [.int 0, .int 1])) (List.replicate n .non) none none none none) none
    ⟨rfl, Nat.zero_le _, _, _, _, _, _, _, _, rfl, ⟨by simp, by simp, fun j hj => ⟨_, by rw [List.getElem?_replicate, if_pos hj], isR_zero, inD_zero.mono (Nat.zero_le _)⟩, fun j hj => by rw [List.getElem?_replicate, if_pos hj]; rfl⟩, fun h => absurd h (Nat.lt_irrefl 0)⟩
theorem kept_hm : m_kept A = sSq (sSet 3 (mCall lenD (mCons (mVarB 0) (mPure [])))) (sSq (sPar2 5 6 true (mOp2 mulL (mLst (mCons (mVar 1) (mPure []))) (mVarB 3)) true (mOp2 mulL (mLst (mCons (mPure .non) (mPure []))) (mVarB 3))) (sSq (sFor (mRg1 (mCons (mOp2 addD (mVarB 3) (mPure (.int 1))) (mPure []))) (gNm 4) (kLap A)) (sFrz 6 (sRet (mTup (mCons (mPure (.str "ring")) (mCons (mCall f_ring_behind (mCons (mVar 6) (mCons (mVar 7) (mCons (mVar 3) (mPure []))))) (mPure [])))))))) := rfl
theorem kept_e1 (hlen : lenD [t] = some (.int (n : Nat))) : sSet 3 (mCall lenD (mCons (mVarB 0) (mPure []))) [some (.imm t), some (.imm (.kt [.int 0, .int 1])), some (.imm (.fn A.plus)), none, none, none, none, none, none, none, none] none = some (.nx, [some (.imm t), some (.imm (.kt [.int 0, .int 1])), some (.imm (.fn A.plus)), some (.imm (.int (n : Nat))), none, none, none, none, none, none, none], none) := by
  simp only [runP, startL, outF, mVar, mVarB, mPure, mOp1, mOp2, mCons, mCall, mTup, mLst, mTst, asB, mNot, mAnd, mOr, mAndV, mOrV, mIte, mSeq, sSq, sIf, sRet, sSet, sSetF, sNil, sFrz, frz, sExpr, sPar2, sPar3, sAsg, mkL, gNm, gTp, gCns, gNl, D.asT, itemsD, addD_int, subD_int, ltD_int, leD_int, gtD_int, geD_int, negD_int, gcdD_int, absD_int, Option.bind_some, Option.map_some, Option.bind_none, Option.map_none, List.map_cons, List.map_nil, List.length_cons, List.length_nil, List.cons_append, List.nil_append, List.getElem?_cons_zero, List.getElem?_cons_succ, List.set_cons_zero, List.set_cons_succ, List.replicate_succ, List.replicate_zero, Nat.reduceAdd, Nat.reduceSub, Nat.reduceLeDiff, if_true, if_false, ite_true, ite_false, Bool.false_eq_true, hlen]
theorem mOp2_of {f : D → D → Option D} {ma mb : ME} {ρ : Lo} {S S1 S2 : Sg} {d1 d2 d : D} (h1 : ma ρ S = some (d1, S1)) (h2 : mb ρ S1 = some (d2, S2)) (h : f d1 d2 = some d) : mOp2 f ma mb ρ S = some (d, S2) := by
  unfold mOp2
  rw [h1]
  simp only [Option.bind_some]
  rw [h2]
  simp only [Option.bind_some]
  rw [h]
  rfl
theorem sPar2_of {i j : Nat} {k1 k2 : Bool} {m1 m2 : ME} {ρ : Lo} {S S1 S2 : Sg} {d1 d2 : D} (h1 : m1 ρ S = some (d1, S1)) (h2 : m2 ρ S1 = some (d2, S2)) : sPar2 i j k1 m1 k2 m2 ρ S = some (.nx, (ρ.set i (some (mkL k1 d1))).set j (some (mkL k2 d2)), S2) := by
  unfold sPar2
  rw [h1]
  simp only [Option.bind_some]
  rw [h2]
  rfl
theorem lst1_of {m : ME} {ρ : Lo} {S S1 : Sg} {d : D} (h : m ρ S = some (d, S1)) : mLst (mCons m (mPure [])) ρ S = some (.lst [d], S1) := by
  unfold mLst mCons
  rw [h]
  rfl
theorem kept_e2 (hn : n ≤ 1000) : sPar2 5 6 true (mOp2 mulL (mLst (mCons (mVar 1) (mPure []))) (mVarB 3)) true (mOp2 mulL (mLst (mCons (mPure .non) (mPure []))) (mVarB 3)) [some (.imm t), some (.imm (.kt [.int 0, .int 1])), some (.imm (.fn A.plus)), some (.imm (.int (n : Nat))), none, none, none, none, none, none, none] none = some (.nx, kR0 A n t none (List.replicate n (.kt [.int 0, .int 1])) (List.replicate n .non) none none none none, none) :=
  sPar2_of (mOp2_of (lst1_of (ev_var rfl)) (ev_varB rfl) (mulL_one hn)) (mOp2_of (lst1_of rfl) (ev_varB rfl) (mulL_one hn))
theorem kept_st : startL 11 [t, .kt [.int 0, .int 1], .fn A.plus] = [some (.imm t), some (.imm (.kt [.int 0, .int 1])), some (.imm (.fn A.plus)), none, none, none, none, none, none, none, none] := rfl
theorem kept_rt (hn : n ≤ 1000) (hlen : lenD [t] = some (.int (n : Nat))) {d : D} {ρ' : Lo} {S' : Sg} (ef : sFor (mRg1 (mCons (mOp2 addD (mVarB 3) (mPure (.int 1))) (mPure []))) (gNm 4) (kLap A) (kR0 A n t none (List.replicate n (.kt [.int 0, .int 1])) (List.replicate n .non) none none none none) none = some (.rt d, ρ', S')) : f_kept A [t, .kt [.int 0, .int 1], .fn A.plus] = some d := by
  unfold f_kept runP
  rw [if_pos (show [t, D.kt [.int 0, .int 1], .fn A.plus].length = 3 from rfl), kept_hm, kept_st, sSq_nx (kept_e1 hlen), sSq_nx (kept_e2 hn), sSq_rt ef]
  rfl
theorem kept_nx (hn : n ≤ 1000) (hlen : lenD [t] = some (.int (n : Nat))) {ρ' : Lo} {S' : Sg} (ef : sFor (mRg1 (mCons (mOp2 addD (mVarB 3) (mPure (.int 1))) (mPure []))) (gNm 4) (kLap A) (kR0 A n t none (List.replicate n (.kt [.int 0, .int 1])) (List.replicate n .non) none none none none) none = some (.nx, ρ', S')) : f_kept A [t, .kt [.int 0, .int 1], .fn A.plus] = Option.bind ((sFrz 6 (sRet (mTup (mCons (mPure (.str "ring")) (mCons (mCall f_ring_behind (mCons (mVar 6) (mCons (mVar 7) (mCons (mVar 3) (mPure []))))) (mPure [])))))) ρ' S') (fun p => (outF p).map (·.1)) := by
  unfold f_kept runP
  rw [if_pos (show [t, D.kt [.int 0, .int 1], .fn A.plus].length = 3 from rfl), kept_hm, kept_st, sSq_nx (kept_e1 hlen), sSq_nx (kept_e2 hn), sSq_nx ef]
theorem kept_ev (bd : Bd E B) (hK : ((n + 1) * (n * n) + 1) * M ≤ B) (hn0 : 0 < n) (hn : n ≤ 1000) (hlen : lenD [t] = some (.int (n : Nat))) (ht : TabR t n g) (hg : ∀ i j, i < n → j < n → InD E M (g i j)) (hg0 : ∀ i, g i i = 0) :
    ∃ res, f_kept A [t, .kt [.int 0, .int 1], .fn A.plus] = some res ∧ ((∃ ls lev, res = .tup [.str "some", .tup ls] ∧ KeepR n g E ((n + 1) * (n * n) * M) ls lev) ∨ ∃ ring : List Nat, res = .tup [.str "ring", .tup (ring.map fun i => D.int (i : Nat))] ∧ RingR n g ring) := by
  have hgO : ∀ i, g i i = RatG.one := hg0
  obtain ⟨fl, ρ', S', e, hP⟩ := kept_laps (A := A) bd hK hn ht hg hg0
  have er : mRg1 (mCons (mOp2 addD (mVarB 3) (mPure (.int 1))) (mPure [])) (kR0 A n t none (List.replicate n (.kt [.int 0, .int 1])) (List.replicate n .non) none none none none) none = some (rangeL 0 ((n + 1 : Nat) : Int), none) := rg1_nat (by simp only [runP, startL, outF, mVar, mVarB, mPure, mOp1, mOp2, mCons, mCall, mTup, mLst, mTst, asB, mNot, mAnd, mOr, mAndV, mOrV, mIte, mSeq, sSq, sIf, sRet, sSet, sSetF, sNil, sFrz, frz, sExpr, sPar2, sPar3, sAsg, mkL, gNm, gTp, gCns, gNl, D.asT, itemsD, addD_int, subD_int, ltD_int, leD_int, gtD_int, geD_int, negD_int, gcdD_int, absD_int, Option.bind_some, Option.map_some, Option.bind_none, Option.map_none, List.map_cons, List.map_nil, List.length_cons, List.length_nil, List.cons_append, List.nil_append, List.getElem?_cons_zero, List.getElem?_cons_succ, List.set_cons_zero, List.set_cons_succ, List.replicate_succ, List.replicate_zero, Nat.reduceAdd, Nat.reduceSub, Nat.reduceLeDiff, if_true, if_false, ite_true, ite_false, Bool.false_eq_true, kR0, Int.natCast_add, Int.cast_ofNat_Int]) (by omega)
  have ef : sFor (mRg1 (mCons (mOp2 addD (mVarB 3) (mPure (.int 1))) (mPure []))) (gNm 4) (kLap A) (kR0 A n t none (List.replicate n (.kt [.int 0, .int 1])) (List.replicate n .non) none none none none) none = some (fl, ρ', S') := by
    show Option.bind (mRg1 _ _ _) _ = _
    rw [er]
    exact e
  cases fl with
  | rt d =>
    obtain ⟨rfl, ls, lev, rfl, K⟩ := hP
    exact ⟨_, kept_rt hn hlen ef, .inl ⟨ls, lev, rfl, K⟩⟩
  | nx =>
    obtain ⟨rfl, ls, bs, lap, one, other, here, rfl, I, hne⟩ := hP
    obtain ⟨c, hc⟩ := Option.ne_none_iff_exists'.mp hne
    obtain ⟨T, now, G⟩ := BF.laps_good (O := RatG) (g := g) (n := n) hgO (n + 1)
    have hcn := ((BF.laps_run (O := RatG) (g := g) (n := n) hgO n).some c hc).1
    obtain ⟨hb, hl, p0, hp0, hpn0, hcy0⟩ := BF.chain_cycle (BF.chain_root hgO hc) (fun j i h => (G.edge j i h).1) hcn
    obtain ⟨p, hp, hpp, hcy, hmin⟩ := BF.least (P := fun p => BF.chain (BF.laps RatG g n (n + 1)).back c (n + p) = BF.chain (BF.laps RatG g n (n + 1)).back c n) hp0 hcy0
    have hr := ring_ev hn I.bl I.back hb hl hp (Nat.le_trans hpp hpn0) hcy hmin
    refine ⟨_, ?_, .inr ⟨_, rfl, ring_of hg0 G hb hl hp (Nat.le_trans hpp hpn0) hcy hmin⟩⟩
    rw [kept_nx hn hlen ef, hc]
    simp only [runP, startL, outF, mVar, mVarB, mPure, mOp1, mOp2, mCons, mCall, mTup, mLst, mTst, asB, mNot, mAnd, mOr, mAndV, mOrV, mIte, mSeq, sSq, sIf, sRet, sSet, sSetF, sNil, sFrz, frz, sExpr, sPar2, sPar3, sAsg, mkL, gNm, gTp, gCns, gNl, D.asT, itemsD, addD_int, subD_int, ltD_int, leD_int, gtD_int, geD_int, negD_int, gcdD_int, absD_int, Option.bind_some, Option.map_some, Option.bind_none, Option.map_none, List.map_cons, List.map_nil, List.length_cons, List.length_nil, List.cons_append, List.nil_append, List.getElem?_cons_zero, List.getElem?_cons_succ, List.set_cons_zero, List.set_cons_succ, List.replicate_succ, List.replicate_zero, Nat.reduceAdd, Nat.reduceSub, Nat.reduceLeDiff, if_true, if_false, ite_true, ite_false, Bool.false_eq_true, kR0, optD, hr, List.map_reverse, List.map_map]
    rfl
  | ct => exact hP.elim
  | bk => exact hP.elim
end
end K25
namespace K25
open PySem PyProof.Rows L2 Dv

theorem bls_map {α : Type} (b : α → Bool) : ∀ xs : List α, blsD (xs.map fun a => D.bl (b a)) = some (xs.map b)
  | [] => rfl
  | a :: xs => by
    show (blsD (xs.map _)).map _ = _
    rw [bls_map b xs]; rfl
theorem all_map {α : Type} (b : α → Bool) (xs : List α) : allD [.lst (xs.map fun a => D.bl (b a))] = some (.bl (xs.all b)) := by
  unfold allD
  simp only [bls_map, Option.map_some, List.all_map]
  rfl
theorem any_map {α : Type} (b : α → Bool) (xs : List α) : anyD [.lst (xs.map fun a => D.bl (b a))] = some (.bl (xs.any b)) := by
  unfold anyD
  simp only [bls_map, Option.map_some, List.any_map]
  rfl
theorem isi_ii (i : Int) : isiD "int" (.int i) = some (.bl true) := by rfl
theorem isi_bi (i : Int) : isiD "bool" (.int i) = some (.bl false) := by rfl
theorem isi_tt (ds : List D) : isiD "tuple" (.tup ds) = some (.bl true) := by rfl
theorem isi_tk (ds : List D) : isiD "tuple" (.kt ds) = some (.bl true) := by rfl
theorem isi_ss (x : Str) : isiD "str" (.str x) = some (.bl true) := by rfl
theorem IsR.isi {d : D} {q : Rat} (h : IsR d q) : isiD "tuple" d = some (.bl true) := by rcases h with rfl | rfl <;> rfl
theorem IsR.len {d : D} {q : Rat} (h : IsR d q) : lenD [d] = some (.int 2) := len_items h.items
theorem whole_ev (i : Int) : f_is_whole [.int i] = some (.bl true) := by
  simp only [runP, startL, outF, mVar, mVarB, mPure, mOp1, mOp2, mCons, mCall, mTup, mLst, mTst, asB, mNot, mAnd, mOr, mAndV, mOrV, mIte, mSeq, sSq, sIf, sRet, sSet, sSetF, sNil, sFrz, frz, sExpr, sPar2, sPar3, sAsg, mkL, gNm, gTp, gCns, gNl, D.asT, itemsD, addD_int, subD_int, ltD_int, leD_int, gtD_int, geD_int, negD_int, gcdD_int, absD_int, Option.bind_some, Option.map_some, Option.bind_none, Option.map_none, List.map_cons, List.map_nil, List.length_cons, List.length_nil, List.cons_append, List.nil_append, List.getElem?_cons_zero, List.getElem?_cons_succ, List.set_cons_zero, List.set_cons_succ, List.replicate_succ, List.replicate_zero, Nat.reduceAdd, Nat.reduceSub, Nat.reduceLeDiff, if_true, if_false, ite_true, ite_false, Bool.false_eq_true, f_is_whole, m_is_whole, isi_ii, isi_bi, mNotV, Bool.not_false]
theorem num_pos {q : Rat} (h : 0 < q) : 0 < q.num := by
  have := (Rat.lt_iff 0 q).mp h
  simpa using this
theorem num_nonneg {q : Rat} (h : 0 ≤ q) : 0 ≤ q.num := by
  have := (Rat.le_iff 0 q).mp h
  simpa using this
theorem ratio_ev {d : D} {q : Rat} (h : IsR d q) : f_is_ratio [d] = some (.bl true) := by
  have el := lc_rel (g := gNm 1) (t := mPure true) (m := mCall f_is_whole (mCons (mVar 1) (mPure []))) (S := none) (ρ := [some (.imm d), none]) (R := fun d i => d = D.int i) (fun i : Int => D.bl ((fun _ => true) i)) (paired_mapL (e := D.int) (fun _ => rfl) [q.num, (q.den : Int)]) fun d i hd hm => by
    subst hd
    refine ⟨_, rfl, rfl, ?_⟩
    simp only [runP, startL, outF, mVar, mVarB, mPure, mOp1, mOp2, mCons, mCall, mTup, mLst, mTst, asB, mNot, mAnd, mOr, mAndV, mOrV, mIte, mSeq, sSq, sIf, sRet, sSet, sSetF, sNil, sFrz, frz, sExpr, sPar2, sPar3, sAsg, mkL, gNm, gTp, gCns, gNl, D.asT, itemsD, addD_int, subD_int, ltD_int, leD_int, gtD_int, geD_int, negD_int, gcdD_int, absD_int, Option.bind_some, Option.map_some, Option.bind_none, Option.map_none, List.map_cons, List.map_nil, List.length_cons, List.length_nil, List.cons_append, List.nil_append, List.getElem?_cons_zero, List.getElem?_cons_succ, List.set_cons_zero, List.set_cons_succ, List.replicate_succ, List.replicate_zero, Nat.reduceAdd, Nat.reduceSub, Nat.reduceLeDiff, if_true, if_false, ite_true, ite_false, Bool.false_eq_true, whole_ev]
  have hd : (0 : Int) < (q.den : Int) := by have := q.den_pos; omega
  have hg : ((Nat.gcd q.num.natAbs (q.den : Int).natAbs : Nat) : Int) = 1 := by
    rw [Int.natAbs_natCast, q.reduced]; rfl
  have ea := all_map (fun _ : Int => true) [q.num, (q.den : Int)]
  have ei := h.items
  have e1 : mSeq (mVar 0) [some (.imm d), none] none = some ([D.int q.num, D.int q.den], none) := by
    unfold mSeq mVar
    simp only [List.getElem?_cons_zero, Option.bind_some, ei, Option.map_some]
  have e2 : mLc (mSeq (mVar 0)) [1] (gNm 1) (mPure true) (mCall f_is_whole (mCons (mVar 1) (mPure []))) [some (.imm d), none] none = some (.lst ([q.num, (q.den : Int)].map fun i => D.bl true), none) := by
    unfold mLc
    rw [e1]
    simp only [Option.bind_some, wipeL, List.set_cons_succ, List.set_cons_zero]
    have el' : lcGo [some (LV.imm d), none] (gNm 1) (mPure true) (mCall f_is_whole (mCons (mVar 1) (mPure []))) [D.int q.num, D.int q.den] none = _ := el
    rw [el']
    rfl
  have ea' : allD [.lst [D.bl true, D.bl true]] = some (.bl true) := rfl
  unfold f_is_ratio m_is_ratio
  simp only [runP, startL, outF, mVar, mVarB, mPure, mOp1, mOp2, mCons, mCall, mTup, mLst, mTst, asB, mNot, mAnd, mOr, mAndV, mOrV, mIte, mSeq, sSq, sIf, sRet, sSet, sSetF, sNil, sFrz, frz, sExpr, sPar2, sPar3, sAsg, mkL, gNm, gTp, gCns, gNl, D.asT, itemsD, addD_int, subD_int, ltD_int, leD_int, gtD_int, geD_int, negD_int, gcdD_int, absD_int, Option.bind_some, Option.map_some, Option.bind_none, Option.map_none, List.map_cons, List.map_nil, List.length_cons, List.length_nil, List.cons_append, List.nil_append, List.getElem?_cons_zero, List.getElem?_cons_succ, List.set_cons_zero, List.set_cons_succ, List.replicate_succ, List.replicate_zero, Nat.reduceAdd, Nat.reduceSub, Nat.reduceLeDiff, if_true, if_false, ite_true, ite_false, Bool.false_eq_true, h.isi, Bool.not_true, h.len, neD_int, ne_eq, not_true_eq_false, decide_false, e2, ea', h.at0, h.at1, hd, decide_true, hg, eqD_int]
/-- all / any over a comprehension of tests -/
theorem lcB {α : Type} {R : D → α → Prop} {g : MG} {m : ME} {ρ : Lo} {ds : List D} {xs : List α} (b : α → Bool) (hp : Paired R ds xs) (h : ∀ d a, R d a → a ∈ xs → ∃ ρ1, g d ρ = some ρ1 ∧ m ρ1 none = some (.bl (b a), none)) : lcGo ρ g (mPure true) m ds none = some (xs.map (fun a => D.bl (b a)), none) :=
  lc_rel (fun a => D.bl (b a)) hp fun d a r ha => let ⟨ρ1, e1, e2⟩ := h d a r ha; ⟨ρ1, e1, rfl, e2⟩
/-- a vector of 2 to 4 goods -/
theorem vector_ev {x : D} {ps : List Rat} (hx : VecR x ps) (h1 : 1 ≤ ps.length) (h2 : ps.length ≤ 200) : f_is_vector [x] = some (.bl true) := by
  obtain ⟨ds, rfl, hr⟩ := hx.ex
  have hl : ds.length = ps.length := Paired.length hr
  have el := lcB (g := gNm 1) (m := mCall f_is_ratio (mCons (mVar 1) (mPure []))) (ρ := [some (.imm (.tup ds)), none]) (fun _ : Rat => true) hr fun d q hd hm => by
    refine ⟨_, rfl, ?_⟩
    simp only [runP, startL, outF, mVar, mVarB, mPure, mOp1, mOp2, mCons, mCall, mTup, mLst, mTst, asB, mNot, mAnd, mOr, mAndV, mOrV, mIte, mSeq, sSq, sIf, sRet, sSet, sSetF, sNil, sFrz, frz, sExpr, sPar2, sPar3, sAsg, mkL, gNm, gTp, gCns, gNl, D.asT, itemsD, addD_int, subD_int, ltD_int, leD_int, gtD_int, geD_int, negD_int, gcdD_int, absD_int, Option.bind_some, Option.map_some, Option.bind_none, Option.map_none, List.map_cons, List.map_nil, List.length_cons, List.length_nil, List.cons_append, List.nil_append, List.getElem?_cons_zero, List.getElem?_cons_succ, List.set_cons_zero, List.set_cons_succ, List.replicate_succ, List.replicate_zero, Nat.reduceAdd, Nat.reduceSub, Nat.reduceLeDiff, if_true, if_false, ite_true, ite_false, Bool.false_eq_true, ratio_ev hd]
  have ea := all_map (fun _ : Rat => true) ps
  have e3 : (ps.all fun _ => true) = true := by simp
  rw [e3] at ea
  have a1 : (1 : Int) ≤ (ps.length : Int) := by omega
  have a2 : (ps.length : Int) ≤ 200 := by omega
  simp only [runP, startL, outF, mVar, mVarB, mPure, mOp1, mOp2, mCons, mCall, mTup, mLst, mTst, asB, mNot, mAnd, mOr, mAndV, mOrV, mIte, mSeq, sSq, sIf, sRet, sSet, sSetF, sNil, sFrz, frz, sExpr, sPar2, sPar3, sAsg, mkL, gNm, gTp, gCns, gNl, D.asT, itemsD, addD_int, subD_int, ltD_int, leD_int, gtD_int, geD_int, negD_int, gcdD_int, absD_int, Option.bind_some, Option.map_some, Option.bind_none, Option.map_none, List.map_cons, List.map_nil, List.length_cons, List.length_nil, List.cons_append, List.nil_append, List.getElem?_cons_zero, List.getElem?_cons_succ, List.set_cons_zero, List.set_cons_succ, List.replicate_succ, List.replicate_zero, Nat.reduceAdd, Nat.reduceSub, Nat.reduceLeDiff, if_true, if_false, ite_true, ite_false, Bool.false_eq_true, f_is_vector, m_is_vector, isi_tt, mChn, len_items (d := .tup ds) rfl, hl, a1, a2, decide_true, mLc, wipeL, el, ea]
/-- a budget -/
structure RowP (goods : Nat) (r : Row) : Prop where
  pl : r.1.length = goods
  ql : r.2.length = goods
  pp : ∀ q ∈ r.1, 0 < q
  qp : ∀ q ∈ r.2, 0 ≤ q
  q1 : ∃ q ∈ r.2, 0 < q
theorem budget_ev {d : D} {r : Row} {goods m : Nat} (hd : RowR d r) (hp : RowP goods r) (h1 : 1 ≤ goods) (h2 : goods ≤ 200) : f_is_budget [d, .int (m : Nat)] = some (.bl (decide (goods = m))) := by
  obtain ⟨x, y, rfl, hx, hy⟩ := hd
  have vx := vector_ev hx (by rw [hp.pl]; exact h1) (by rw [hp.pl]; exact h2)
  have vy := vector_ev hy (by rw [hp.ql]; exact h1) (by rw [hp.ql]; exact h2)
  obtain ⟨ds, rfl, hrx⟩ := hx.ex
  obtain ⟨es, rfl, hry⟩ := hy.ex
  have lx : ds.length = goods := (Paired.length hrx).trans hp.pl
  have ly : es.length = goods := (Paired.length hry).trans hp.ql
  have e1 : ∀ ρ : Lo, ρ = [some (.imm (.tup [.tup ds, .tup es])), some (.imm (.int (m : Nat))), none] → lcGo ρ (gNm 2) (mPure true) (mCall f_is_vector (mCons (mVar 2) (mPure []))) [.tup ds, .tup es] none = some ([.bl true, .bl true], none) := fun ρ h => by
    subst h
    unfold lcGo lcGo lcGo
    simp only [runP, startL, outF, mVar, mVarB, mPure, mOp1, mOp2, mCons, mCall, mTup, mLst, mTst, asB, mNot, mAnd, mOr, mAndV, mOrV, mIte, mSeq, sSq, sIf, sRet, sSet, sSetF, sNil, sFrz, frz, sExpr, sPar2, sPar3, sAsg, mkL, gNm, gTp, gCns, gNl, D.asT, itemsD, addD_int, subD_int, ltD_int, leD_int, gtD_int, geD_int, negD_int, gcdD_int, absD_int, Option.bind_some, Option.map_some, Option.bind_none, Option.map_none, List.map_cons, List.map_nil, List.length_cons, List.length_nil, List.cons_append, List.nil_append, List.getElem?_cons_zero, List.getElem?_cons_succ, List.set_cons_zero, List.set_cons_succ, List.replicate_succ, List.replicate_zero, Nat.reduceAdd, Nat.reduceSub, Nat.reduceLeDiff, if_true, if_false, ite_true, ite_false, Bool.false_eq_true, vx, vy]
  have e2 : ∀ ρ : Lo, ρ = [some (.imm (.tup [.tup ds, .tup es])), some (.imm (.int (m : Nat))), none] → lcGo ρ (gNm 2) (mPure true) (mOp2 eqD (mCall lenD (mCons (mVarB 2) (mPure []))) (mVarB 1)) [.tup ds, .tup es] none = some ([.bl (decide ((goods : Int) = m)), .bl (decide ((goods : Int) = m))], none) := fun ρ h => by
    subst h
    unfold lcGo lcGo lcGo
    simp only [runP, startL, outF, mVar, mVarB, mPure, mOp1, mOp2, mCons, mCall, mTup, mLst, mTst, asB, mNot, mAnd, mOr, mAndV, mOrV, mIte, mSeq, sSq, sIf, sRet, sSet, sSetF, sNil, sFrz, frz, sExpr, sPar2, sPar3, sAsg, mkL, gNm, gTp, gCns, gNl, D.asT, itemsD, addD_int, subD_int, ltD_int, leD_int, gtD_int, geD_int, negD_int, gcdD_int, absD_int, Option.bind_some, Option.map_some, Option.bind_none, Option.map_none, List.map_cons, List.map_nil, List.length_cons, List.length_nil, List.cons_append, List.nil_append, List.getElem?_cons_zero, List.getElem?_cons_succ, List.set_cons_zero, List.set_cons_succ, List.replicate_succ, List.replicate_zero, Nat.reduceAdd, Nat.reduceSub, Nat.reduceLeDiff, if_true, if_false, ite_true, ite_false, Bool.false_eq_true, len_items (d := .tup ds) rfl, len_items (d := .tup es) rfl, lx, ly, eqD_int]
  have a1 : allD [.lst [.bl true, .bl true]] = some (.bl true) := rfl
  have a2 : ∀ b, allD [.lst [.bl b, .bl b]] = some (.bl b) := fun b => by cases b <;> rfl
  have l2 : lenD [.tup [.tup ds, .tup es]] = some (.int 2) := rfl
  have i0 : ixD (.tup [.tup ds, .tup es]) (.int 0) = some (.tup ds) := rfl
  have i1 : ixD (.tup [.tup ds, .tup es]) (.int 1) = some (.tup es) := rfl
  have e3 := lcB (g := gNm 2) (m := mOp2 gtD (mOp2 ixD (mVarB 2) (mPure (.int 0))) (mPure (.int 0))) (ρ := [some (.imm (.tup [.tup ds, .tup es])), some (.imm (.int (m : Nat))), none]) (fun q : Rat => decide (0 < q.num)) hrx fun d q hd hm => by
    refine ⟨_, rfl, ?_⟩
    simp only [runP, startL, outF, mVar, mVarB, mPure, mOp1, mOp2, mCons, mCall, mTup, mLst, mTst, asB, mNot, mAnd, mOr, mAndV, mOrV, mIte, mSeq, sSq, sIf, sRet, sSet, sSetF, sNil, sFrz, frz, sExpr, sPar2, sPar3, sAsg, mkL, gNm, gTp, gCns, gNl, D.asT, itemsD, addD_int, subD_int, ltD_int, leD_int, gtD_int, geD_int, negD_int, gcdD_int, absD_int, Option.bind_some, Option.map_some, Option.bind_none, Option.map_none, List.map_cons, List.map_nil, List.length_cons, List.length_nil, List.cons_append, List.nil_append, List.getElem?_cons_zero, List.getElem?_cons_succ, List.set_cons_zero, List.set_cons_succ, List.replicate_succ, List.replicate_zero, Nat.reduceAdd, Nat.reduceSub, Nat.reduceLeDiff, if_true, if_false, ite_true, ite_false, Bool.false_eq_true, hd.at0]
  have e4 := lcB (g := gNm 2) (m := mOp2 geD (mOp2 ixD (mVarB 2) (mPure (.int 0))) (mPure (.int 0))) (ρ := [some (.imm (.tup [.tup ds, .tup es])), some (.imm (.int (m : Nat))), none]) (fun q : Rat => decide (0 ≤ q.num)) hry fun d q hd hm => by
    refine ⟨_, rfl, ?_⟩
    simp only [runP, startL, outF, mVar, mVarB, mPure, mOp1, mOp2, mCons, mCall, mTup, mLst, mTst, asB, mNot, mAnd, mOr, mAndV, mOrV, mIte, mSeq, sSq, sIf, sRet, sSet, sSetF, sNil, sFrz, frz, sExpr, sPar2, sPar3, sAsg, mkL, gNm, gTp, gCns, gNl, D.asT, itemsD, addD_int, subD_int, ltD_int, leD_int, gtD_int, geD_int, negD_int, gcdD_int, absD_int, Option.bind_some, Option.map_some, Option.bind_none, Option.map_none, List.map_cons, List.map_nil, List.length_cons, List.length_nil, List.cons_append, List.nil_append, List.getElem?_cons_zero, List.getElem?_cons_succ, List.set_cons_zero, List.set_cons_succ, List.replicate_succ, List.replicate_zero, Nat.reduceAdd, Nat.reduceSub, Nat.reduceLeDiff, if_true, if_false, ite_true, ite_false, Bool.false_eq_true, hd.at0]
  have e5 := lcB (g := gNm 2) (m := mOp2 gtD (mOp2 ixD (mVarB 2) (mPure (.int 0))) (mPure (.int 0))) (ρ := [some (.imm (.tup [.tup ds, .tup es])), some (.imm (.int (m : Nat))), none]) (fun q : Rat => decide (0 < q.num)) hry fun d q hd hm => by
    refine ⟨_, rfl, ?_⟩
    simp only [runP, startL, outF, mVar, mVarB, mPure, mOp1, mOp2, mCons, mCall, mTup, mLst, mTst, asB, mNot, mAnd, mOr, mAndV, mOrV, mIte, mSeq, sSq, sIf, sRet, sSet, sSetF, sNil, sFrz, frz, sExpr, sPar2, sPar3, sAsg, mkL, gNm, gTp, gCns, gNl, D.asT, itemsD, addD_int, subD_int, ltD_int, leD_int, gtD_int, geD_int, negD_int, gcdD_int, absD_int, Option.bind_some, Option.map_some, Option.bind_none, Option.map_none, List.map_cons, List.map_nil, List.length_cons, List.length_nil, List.cons_append, List.nil_append, List.getElem?_cons_zero, List.getElem?_cons_succ, List.set_cons_zero, List.set_cons_succ, List.replicate_succ, List.replicate_zero, Nat.reduceAdd, Nat.reduceSub, Nat.reduceLeDiff, if_true, if_false, ite_true, ite_false, Bool.false_eq_true, hd.at0]
  have c3 : (r.1.all fun q => decide (0 < q.num)) = true := List.all_eq_true.mpr fun q hq => decide_eq_true (num_pos (hp.pp q hq))
  have c4 : (r.2.all fun q => decide (0 ≤ q.num)) = true := List.all_eq_true.mpr fun q hq => decide_eq_true (num_nonneg (hp.qp q hq))
  have c5 : (r.2.any fun q => decide (0 < q.num)) = true := by
    obtain ⟨q, hq, h⟩ := hp.q1
    exact List.any_eq_true.mpr ⟨q, hq, decide_eq_true (num_pos h)⟩
  have f3 := all_map (fun q : Rat => decide (0 < q.num)) r.1
  have f4 := all_map (fun q : Rat => decide (0 ≤ q.num)) r.2
  have f5 := any_map (fun q : Rat => decide (0 < q.num)) r.2
  rw [c3] at f3
  rw [c4] at f4
  rw [c5] at f5
  by_cases hgm : goods = m
  · subst hgm
    simp only [runP, startL, outF, mVar, mVarB, mPure, mOp1, mOp2, mCons, mCall, mTup, mLst, mTst, asB, mNot, mAnd, mOr, mAndV, mOrV, mIte, mSeq, sSq, sIf, sRet, sSet, sSetF, sNil, sFrz, frz, sExpr, sPar2, sPar3, sAsg, mkL, gNm, gTp, gCns, gNl, D.asT, itemsD, addD_int, subD_int, ltD_int, leD_int, gtD_int, geD_int, negD_int, gcdD_int, absD_int, Option.bind_some, Option.map_some, Option.bind_none, Option.map_none, List.map_cons, List.map_nil, List.length_cons, List.length_nil, List.cons_append, List.nil_append, List.getElem?_cons_zero, List.getElem?_cons_succ, List.set_cons_zero, List.set_cons_succ, List.replicate_succ, List.replicate_zero, Nat.reduceAdd, Nat.reduceSub, Nat.reduceLeDiff, if_true, if_false, ite_true, ite_false, Bool.false_eq_true, f_is_budget, m_is_budget, isi_tt, Bool.not_true, l2, neD_int, ne_eq, not_true_eq_false, decide_false, mLc, wipeL, e1 _ rfl, a1, e2 _ rfl, a2, decide_true, i0, i1, e3, f3, e4, f4, e5, f5]
  · have hgm' : ¬ ((goods : Int) = (m : Int)) := by omega
    simp only [runP, startL, outF, mVar, mVarB, mPure, mOp1, mOp2, mCons, mCall, mTup, mLst, mTst, asB, mNot, mAnd, mOr, mAndV, mOrV, mIte, mSeq, sSq, sIf, sRet, sSet, sSetF, sNil, sFrz, frz, sExpr, sPar2, sPar3, sAsg, mkL, gNm, gTp, gCns, gNl, D.asT, itemsD, addD_int, subD_int, ltD_int, leD_int, gtD_int, geD_int, negD_int, gcdD_int, absD_int, Option.bind_some, Option.map_some, Option.bind_none, Option.map_none, List.map_cons, List.map_nil, List.length_cons, List.length_nil, List.cons_append, List.nil_append, List.getElem?_cons_zero, List.getElem?_cons_succ, List.set_cons_zero, List.set_cons_succ, List.replicate_succ, List.replicate_zero, Nat.reduceAdd, Nat.reduceSub, Nat.reduceLeDiff, if_true, if_false, ite_true, ite_false, Bool.false_eq_true, f_is_budget, m_is_budget, isi_tt, Bool.not_true, l2, neD_int, ne_eq, not_true_eq_false, decide_false, mLc, wipeL, e1 _ rfl, a1, e2 _ rfl, a2, hgm', hgm, Bool.not_false]
end K25
namespace K25
open PySem PyProof.Rows L2 Dv

theorem str_ne {a b : Str} (ha : SeqAt.shaped (.str a) = true) (hb : SeqAt.shaped (.str b) = true) : neD (.str a) (.str b) = some (.bl (decide (a ≠ b))) := by
  have e : PyData.eqv (.str a) (.str b) = decide (a = b) := by
    simp only [PyData.eqv]
    exact Bool.eq_iff_iff.mpr (by simp)
  show (if (SeqAt.shaped (.str a) && SeqAt.shaped (.str b)) = true then some (D.bl (!PyData.eqv (.str a) (.str b))) else none) = _
  rw [ha, hb, e]
  by_cases h : a = b <;> simp [h]
theorem str_eq {a b : Str} (ha : SeqAt.shaped (.str a) = true) (hb : SeqAt.shaped (.str b) = true) : eqD (.str a) (.str b) = some (.bl (decide (a = b))) := by
  have e : PyData.eqv (.str a) (.str b) = decide (a = b) := by
    simp only [PyData.eqv]
    exact Bool.eq_iff_iff.mpr (by simp)
  show (if (SeqAt.shaped (.str a) && SeqAt.shaped (.str b)) = true then some (D.bl (PyData.eqv (.str a) (.str b))) else none) = _
  rw [ha, hb, e]
  rfl
theorem sh_bud : SeqAt.shaped (.str "budgets") = true := by decide +kernel
theorem sh_some : SeqAt.shaped (.str "some") = true := by decide +kernel
theorem sh_ring : SeqAt.shaped (.str "ring") = true := by decide +kernel
theorem ne_bud : neD (.str "budgets") (.str "budgets") = some (.bl false) := by
  rw [str_ne sh_bud sh_bud]; simp
/-! calls, without a look into what is called -/
theorem mCall_of {f : List D → Option D} {n : MA} {ρ : Lo} {S S1 : Sg} {ds : List D} {d : D} (h : n ρ S = some (ds, S1)) (hf : f ds = some d) : mCall f n ρ S = some (d, S1) := by
  unfold mCall; rw [h]; simp only [Option.bind_some]; rw [hf]; rfl
theorem sRet_of {m : ME} {ρ : Lo} {S S1 : Sg} {d : D} (h : m ρ S = some (d, S1)) : sRet m ρ S = some (.rt d, ρ, S1) := by
  unfold sRet; rw [h]; rfl
theorem runP_rt {k n : Nat} {m : MS} {ds : List D} {d : D} {ρ' : Lo} {S' : Sg} (hl : ds.length = k) (h : m (startL n ds) none = some (.rt d, ρ', S')) : runP k n m ds = some d := by
  unfold runP; rw [if_pos hl, h]; rfl
theorem cons_of {m : ME} {n : MA} {ρ : Lo} {S S1 S2 : Sg} {d : D} {ds : List D} (h : m ρ S = some (d, S1)) (h' : n ρ S1 = some (ds, S2)) : mCons m n ρ S = some (d :: ds, S2) := by
  unfold mCons; rw [h]; simp only [Option.bind_some]; rw [h']; rfl
theorem expr_of {m : ME} {ρ : Lo} {S S1 : Sg} {d : D} (h : m ρ S = some (d, S1)) : sExpr m ρ S = some (.nx, ρ, S1) := by
  unfold sExpr; rw [h]; rfl
/-- budgets -/
structure BudR (x : D) (rs : List Row) (goods : Nat) : Prop where
  ex : ∃ rds, x = .tup [.str "budgets", .tup rds] ∧ Paired RowR rds rs
  l1 : 1 ≤ rs.length
  l8 : rs.length ≤ 8
  rp : ∀ r ∈ rs, RowP goods r
  g2 : 2 ≤ goods
  g4 : goods ≤ 4
theorem budgets_of_ev {x : D} {rs : List Row} {goods : Nat} (h : BudR x rs goods) (m : Nat) : f_are_budgets_of [x, .int (m : Nat)] = some (.bl (decide (goods = m))) := by
  obtain ⟨rds, rfl, hr⟩ := h.ex
  have hl : rds.length = rs.length := Paired.length hr
  have el := lcB (g := gNm 2) (m := mCall f_is_budget (mCons (mVar 2) (mCons (mVar 1) (mPure [])))) (ρ := [some (.imm (.tup [.str "budgets", .tup rds])), some (.imm (.int (m : Nat))), none]) (fun _ : Row => decide (goods = m)) hr fun d r hd hm => by
    refine ⟨_, rfl, ?_⟩
    have := h.g2
    have := h.g4
    simp only [runP, startL, outF, mVar, mVarB, mPure, mOp1, mOp2, mCons, mCall, mTup, mLst, mTst, asB, mNot, mAnd, mOr, mAndV, mOrV, mIte, mSeq, sSq, sIf, sRet, sSet, sSetF, sNil, sFrz, frz, sExpr, sPar2, sPar3, sAsg, mkL, gNm, gTp, gCns, gNl, D.asT, itemsD, addD_int, subD_int, ltD_int, leD_int, gtD_int, geD_int, negD_int, gcdD_int, absD_int, Option.bind_some, Option.map_some, Option.bind_none, Option.map_none, List.map_cons, List.map_nil, List.length_cons, List.length_nil, List.cons_append, List.nil_append, List.getElem?_cons_zero, List.getElem?_cons_succ, List.set_cons_zero, List.set_cons_succ, List.replicate_succ, List.replicate_zero, Nat.reduceAdd, Nat.reduceSub, Nat.reduceLeDiff, if_true, if_false, ite_true, ite_false, Bool.false_eq_true, budget_ev hd (h.rp r hm) (by omega) (by omega)]
  have ea := all_map (fun _ : Row => decide (goods = m)) rs
  have e3 : (rs.all fun _ => decide (goods = m)) = decide (goods = m) := by
    cases rs with
    | nil => have := h.l1; simp at this
    | cons a l => by_cases e : goods = m <;> simp [e]
  rw [e3] at ea
  have l2 : lenD [.tup [.str "budgets", .tup rds]] = some (.int 2) := rfl
  have i0 : ixD (.tup [.str "budgets", .tup rds]) (.int 0) = some (.str "budgets") := rfl
  have i1 : ixD (.tup [.str "budgets", .tup rds]) (.int 1) = some (.tup rds) := rfl
  have := h.l1
  have := h.l8
  have a1 : (1 : Int) ≤ (rs.length : Int) := by omega
  have a2 : (rs.length : Int) ≤ 8 := by omega
  simp only [runP, startL, outF, mVar, mVarB, mPure, mOp1, mOp2, mCons, mCall, mTup, mLst, mTst, asB, mNot, mAnd, mOr, mAndV, mOrV, mIte, mSeq, sSq, sIf, sRet, sSet, sSetF, sNil, sFrz, frz, sExpr, sPar2, sPar3, sAsg, mkL, gNm, gTp, gCns, gNl, D.asT, itemsD, addD_int, subD_int, ltD_int, leD_int, gtD_int, geD_int, negD_int, gcdD_int, absD_int, Option.bind_some, Option.map_some, Option.bind_none, Option.map_none, List.map_cons, List.map_nil, List.length_cons, List.length_nil, List.cons_append, List.nil_append, List.getElem?_cons_zero, List.getElem?_cons_succ, List.set_cons_zero, List.set_cons_succ, List.replicate_succ, List.replicate_zero, Nat.reduceAdd, Nat.reduceSub, Nat.reduceLeDiff, if_true, if_false, ite_true, ite_false, Bool.false_eq_true, f_are_budgets_of, m_are_budgets_of, isi_tt, isi_ss, Bool.not_true, l2, neD_int, ne_bud, ne_eq, not_true_eq_false, decide_false, i0, i1, mChn, len_items (d := .tup rds) rfl, hl, a1, a2, decide_true, mLc, wipeL, el, ea]
theorem budgets_ev {x : D} {rs : List Row} {goods : Nat} (h : BudR x rs goods) : f_is_budgets [x] = some (.bl true) := by
  have e2 := budgets_of_ev h 2
  have e3 := budgets_of_ev h 3
  have e4 := budgets_of_ev h 4
  have el : lcGo [some (.imm x), none] (gNm 1) (mPure true) (mCall f_are_budgets_of (mCons (mVar 0) (mCons (mVar 1) (mPure [])))) [.int 2, .int 3, .int 4] none = some ([.bl (decide (goods = 2)), .bl (decide (goods = 3)), .bl (decide (goods = 4))], none) := by
    have e2 : f_are_budgets_of [x, .int 2] = _ := e2
    have e3 : f_are_budgets_of [x, .int 3] = _ := e3
    have e4 : f_are_budgets_of [x, .int 4] = _ := e4
    unfold lcGo lcGo lcGo lcGo
    simp only [runP, startL, outF, mVar, mVarB, mPure, mOp1, mOp2, mCons, mCall, mTup, mLst, mTst, asB, mNot, mAnd, mOr, mAndV, mOrV, mIte, mSeq, sSq, sIf, sRet, sSet, sSetF, sNil, sFrz, frz, sExpr, sPar2, sPar3, sAsg, mkL, gNm, gTp, gCns, gNl, D.asT, itemsD, addD_int, subD_int, ltD_int, leD_int, gtD_int, geD_int, negD_int, gcdD_int, absD_int, Option.bind_some, Option.map_some, Option.bind_none, Option.map_none, List.map_cons, List.map_nil, List.length_cons, List.length_nil, List.cons_append, List.nil_append, List.getElem?_cons_zero, List.getElem?_cons_succ, List.set_cons_zero, List.set_cons_succ, List.replicate_succ, List.replicate_zero, Nat.reduceAdd, Nat.reduceSub, Nat.reduceLeDiff, if_true, if_false, ite_true, ite_false, Bool.false_eq_true, e2, e3, e4]
  have er : mRg2 (mCons (mPure (.int 2)) (mCons (mOp2 addD (mPure (.int 4)) (mPure (.int 1))) (mPure []))) [some (.imm x), none] none = some ([.int 2, .int 3, .int 4], none) := rfl
  have ea : anyD [.lst [.bl (decide (goods = 2)), .bl (decide (goods = 3)), .bl (decide (goods = 4))]] = some (.bl true) := by
    have := h.g2
    have := h.g4
    have hg : goods = 2 ∨ goods = 3 ∨ goods = 4 := by omega
    rcases hg with rfl | rfl | rfl <;> rfl
  simp only [runP, startL, outF, mVar, mVarB, mPure, mOp1, mOp2, mCons, mCall, mTup, mLst, mTst, asB, mNot, mAnd, mOr, mAndV, mOrV, mIte, mSeq, sSq, sIf, sRet, sSet, sSetF, sNil, sFrz, frz, sExpr, sPar2, sPar3, sAsg, mkL, gNm, gTp, gCns, gNl, D.asT, itemsD, addD_int, subD_int, ltD_int, leD_int, gtD_int, geD_int, negD_int, gcdD_int, absD_int, Option.bind_some, Option.map_some, Option.bind_none, Option.map_none, List.map_cons, List.map_nil, List.length_cons, List.length_nil, List.cons_append, List.nil_append, List.getElem?_cons_zero, List.getElem?_cons_succ, List.set_cons_zero, List.set_cons_succ, List.replicate_succ, List.replicate_zero, Nat.reduceAdd, Nat.reduceSub, Nat.reduceLeDiff, if_true, if_false, ite_true, ite_false, Bool.false_eq_true, f_is_budgets, m_is_budgets, mLc, er, wipeL, el, ea]
theorem need_ev {x : D} {rs : List Row} {goods : Nat} (h : BudR x rs goods) : f_need_budgets [x] = some .non := by
  simp only [runP, startL, outF, mVar, mVarB, mPure, mOp1, mOp2, mCons, mCall, mTup, mLst, mTst, asB, mNot, mAnd, mOr, mAndV, mOrV, mIte, mSeq, sSq, sIf, sRet, sSet, sSetF, sNil, sFrz, frz, sExpr, sPar2, sPar3, sAsg, mkL, gNm, gTp, gCns, gNl, D.asT, itemsD, addD_int, subD_int, ltD_int, leD_int, gtD_int, geD_int, negD_int, gcdD_int, absD_int, Option.bind_some, Option.map_some, Option.bind_none, Option.map_none, List.map_cons, List.map_nil, List.length_cons, List.length_nil, List.cons_append, List.nil_append, List.getElem?_cons_zero, List.getElem?_cons_succ, List.set_cons_zero, List.set_cons_succ, List.replicate_succ, List.replicate_zero, Nat.reduceAdd, Nat.reduceSub, Nat.reduceLeDiff, if_true, if_false, ite_true, ite_false, Bool.false_eq_true, f_need_budgets, m_need_budgets, budgets_ev h, Bool.not_true]
theorem tab_gaps {rs : List Row} : TabR (gapsD rs) rs.length (fun i j => match rs[i]?, rs[j]? with | some r, some s => cst r s - cst r r | _, _ => 0) := by
  refine ⟨fun i j hi hj => ?_⟩
  have ei : rs[i]? = some rs[i] := List.getElem?_eq_getElem hi
  have ej : rs[j]? = some rs[j] := List.getElem?_eq_getElem hj
  refine ⟨.lst (rs.map fun s => mk (cst rs[i] s - cst rs[i] rs[i])), ix_nat rfl (by rw [List.getElem?_map, ei]; rfl), ix_nat rfl (by rw [List.getElem?_map, ej]; simp only [ei, ej]; rfl)⟩
/-- the gap of two rows -/
def gap (rs : List Row) (i j : Nat) : Rat := match rs[i]?, rs[j]? with | some r, some s => cst r s - cst r r | _, _ => 0
theorem gap_self (rs : List Row) (i : Nat) : gap rs i i = 0 := by
  unfold gap
  cases rs[i]? with
  | none => rfl
  | some r => exact Rat.sub_self
theorem gap_in {E N B : Nat} (b : Bnd E N B) {rs : List Row} (hb : ∀ r ∈ rs, RowB E N r) (i j : Nat) : InD (E * E) (8 * (N * N)) (gap rs i j) := by
  unfold gap
  split
  · rename_i r s e1 e2
    have h1 := hb r (List.mem_of_getElem? e1)
    have h2 := hb s (List.mem_of_getElem? e2)
    exact ((cst_in b h1 h2).sub b.b2.d0 (cst_in b h1 h1)).mono (by omega)
  · exact inD_zero.mono (Nat.zero_le _)
/-- what straight_paper answers -/
def StraightR (rs : List Row) (E N : Nat) (res : D) : Prop := (∃ ls lev, res = .tup [.str "some", .tup ls] ∧ KeepR rs.length (gap rs) (E * E) (5000 * (N * N)) ls lev) ∨ ∃ ring : List Nat, res = .tup [.str "ring", .tup (ring.map fun i => D.int (i : Nat))] ∧ RingR rs.length (gap rs) ring
theorem paper_ev {A : Ads} {E N B : Nat} (b : Bnd E N B) {x : D} {rs : List Row} {goods : Nat} (h : BudR x rs goods) (hb : ∀ r ∈ rs, RowB E N r) : ∃ res, f_straight_paper A [x] = some res ∧ StraightR rs E N res := by
  obtain ⟨rds, rfl, hr⟩ := h.ex
  have hn := need_ev h
  have hl1 := h.l1
  have hl8 := h.l8
  have hcube : (rs.length + 1) * (rs.length * rs.length) ≤ 9 * (8 * 8) := Nat.mul_le_mul (by omega) (Nat.mul_le_mul hl8 hl8)
  have hbig : ((rs.length + 1) * (rs.length * rs.length) + 1) * (8 * (N * N)) ≤ B := by
    refine Nat.le_trans (Nat.mul_le_mul_right _ (Nat.succ_le_succ hcube)) ?_
    have := b.big
    omega
  have hlen : lenD [gapsD rs] = some (.int (rs.length : Nat)) := by
    unfold gapsD
    rw [len_items rfl, List.length_map]
  obtain ⟨res, e, hk⟩ := kept_ev (A := A) b.b2 hbig (by omega) (by omega) hlen (tab_gaps (rs := rs)) (fun i j _ _ => gap_in b hb i j) (gap_self rs)
  refine ⟨res, ?_, ?_⟩
  · have i1 : ixD (.tup [.str "budgets", .tup rds]) (.int 1) = some (.tup rds) := rfl
    have hg := gaps_ev b hr hb
    have e1 : f_kept_differences A [gapsD rs] = some res := runP_rt rfl (sRet_of (mCall_of (cons_of (ev_var rfl) (cons_of rfl (cons_of rfl rfl))) e))
    have e2 : f_straight_of A [.tup rds] = some res := runP_rt rfl (sRet_of (mCall_of (cons_of (mCall_of (cons_of (ev_var rfl) rfl) hg) rfl) e1))
    exact runP_rt rfl ((sSq_nx (expr_of (mCall_of (cons_of (ev_var rfl) rfl) hn))).trans (sRet_of (mCall_of (cons_of (mOp2_of (ev_varB rfl) rfl i1) rfl) e2)))
  · rcases hk with ⟨ls, lev, rfl, K⟩ | hk
    · refine .inl ⟨ls, lev, rfl, K.len, fun j hj => ?_, K.keep⟩
      obtain ⟨d, a, c, z⟩ := K.at_ j hj
      refine ⟨d, a, c, z.mono (Nat.le_trans (Nat.mul_le_mul_right _ hcube) (by omega))⟩
    · exact .inr hk
end K25
namespace K25
open PySem PyProof.Rows L2 Dv

theorem ne_nil : neD (.lst []) (.lst []) = some (.bl false) := by
  have h : SeqAt.shaped (.list []) = true := by decide +kernel
  show (if (SeqAt.shaped (.list []) && SeqAt.shaped (.list [])) = true then some (D.bl (!PyData.eqv (.list []) (.list []))) else none) = _
  rw [h]
  simp [PyData.eqv, PyData.eqvAll]
/-- numbers that keep all: by value -/
def KeepL (rs : List Row) (vs : List Rat) : Prop := ∀ p ∈ rs.zip vs, ∀ q ∈ rs.zip vs, q.2 ≤ p.2 + (cst p.1 q.1 - cst p.1 p.1)
structure NumR (rs : List Row) (E N : Nat) (ls : List D) (vs : List Rat) : Prop where
  rl : RL ls vs
  len : vs.length = rs.length
  ind : ∀ v ∈ vs, InD (E * E) (5000 * (N * N)) v
  keep : KeepL rs vs
theorem keepL_of {rs : List Row} {E N : Nat} {ls : List D} {lev : Nat → Rat} (K : KeepR rs.length (gap rs) (E * E) (5000 * (N * N)) ls lev) : NumR rs E N ls ((List.range rs.length).map lev) := by
  refine ⟨paired_of (by rw [K.len]; simp) fun i x y h1 h2 => ?_, by simp, fun v hv => ?_, fun p hp q hq => ?_⟩
  · rw [List.getElem?_map] at h2
    obtain ⟨j, hj, rfl⟩ := Option.map_eq_some_iff.mp h2
    obtain ⟨hi, e⟩ := List.getElem?_eq_some_iff.mp hj
    have e : i = j := by simpa using e
    subst e
    obtain ⟨d, a, b, _⟩ := K.at_ i (by simpa using hi)
    rw [a] at h1; cases h1
    exact b
  · obtain ⟨j, hj, rfl⟩ := List.mem_map.mp hv
    obtain ⟨d, _, _, c⟩ := K.at_ j (List.mem_range.mp hj)
    exact c
  · obtain ⟨i, hi⟩ := List.mem_iff_getElem?.mp hp
    (obtain ⟨j, hj⟩ := List.mem_iff_getElem?.mp hq); rw [List.getElem?_zip_eq_some] at hi hj
    obtain ⟨i1, i2⟩ := hi
    obtain ⟨j1, j2⟩ := hj
    have hil := (List.getElem?_eq_some_iff.mp i1).1
    have hjl := (List.getElem?_eq_some_iff.mp j1).1
    have e2 : ∀ {k : Nat} {v : Rat}, k < rs.length → ((List.range rs.length).map lev)[k]? = some v → v = lev k := fun {k v} hk h => by
      rw [List.getElem?_map, List.getElem?_range hk] at h
      simpa using h.symm
    have a1 := e2 hil i2
    have a2 := e2 hjl j2
    have := K.keep i j hil hjl
    unfold gap at this
    rw [i1, j1] at this
    rw [a1, a2]
    exact this
theorem gaps_pair (rs : List Row) : Paired (fun d r => d = D.lst (rs.map fun s => mk (cst r s - cst r r))) (rs.map fun r => D.lst (rs.map fun s => mk (cst r s - cst r r))) rs   := paired_mapL (α := Row) (R := fun d r => d = D.lst (rs.map fun s => mk (cst r s - cst r r))) (e := fun r => D.lst (rs.map fun s => mk (cst r s - cst r r))) (fun _ => rfl) rs
theorem are_straight_ev {E N B : Nat} (b : Bnd E N B) {rds ls : List D} {rs : List Row} {vs : List Rat} (hr : Paired RowR rds rs) (hb : ∀ r ∈ rs, RowB E N r) (hn : NumR rs E N ls vs) : f_are_straight [.tup rds, .tup ls] = some (.bl true) := by
  have hl1 : rds.length = rs.length := Paired.length hr
  have hl2 : ls.length = rs.length := (Paired.length hn.rl).trans hn.len
  have hg := gaps_ev b hr hb
  have big := b.big
  have smv : ∀ {v}, v ∈ vs → Sm v := fun h => b.b2.sm (hn.ind _ h) (by omega)
  have ea := lcB (g := gNm 3) (m := mCall f_is_ratio (mCons (mVar 3) (mPure []))) (ρ := [some (.imm (.tup rds)), some (.imm (.tup ls)), none, none, none, none]) (fun _ : Rat => true) hn.rl fun d q hd hm => by
    refine ⟨_, rfl, ?_⟩
    simp only [runP, startL, outF, mVar, mVarB, mPure, mOp1, mOp2, mCons, mCall, mTup, mLst, mTst, asB, mNot, mAnd, mOr, mAndV, mOrV, mIte, mSeq, sSq, sIf, sRet, sSet, sSetF, sNil, sFrz, frz, sExpr, sPar2, sPar3, sAsg, mkL, gNm, gTp, gCns, gNl, D.asT, itemsD, addD_int, subD_int, ltD_int, leD_int, gtD_int, geD_int, negD_int, gcdD_int, absD_int, Option.bind_some, Option.map_some, Option.bind_none, Option.map_none, List.map_cons, List.map_nil, List.length_cons, List.length_nil, List.cons_append, List.nil_append, List.getElem?_cons_zero, List.getElem?_cons_succ, List.set_cons_zero, List.set_cons_succ, List.replicate_succ, List.replicate_zero, Nat.reduceAdd, Nat.reduceSub, Nat.reduceLeDiff, if_true, if_false, ite_true, ite_false, Bool.false_eq_true, ratio_ev hd]
  have eall := all_map (fun _ : Rat => true) vs
  rw [show (vs.all fun _ => true) = true by simp] at eall
  have hinner : ∀ (r : Row) (v : Rat) (d : D), (r, v) ∈ rs.zip vs → IsR d v → mTst (mCall anyD (mCons (mLc (mZip2 (mCons (mVar 2) (mCons (mVar 1) (mPure [])))) [4, 5] (gTp 2 (gCns (gNm 4) (gCns (gNm 5) gNl))) (mPure true) (mCall f_is_less (mCons (mCall f_plus (mCons (mVar 3) (mCons (mVar 4) (mPure [])))) (mCons (mVar 5) (mPure []))))) (mPure [])))
      [some (.imm (.tup rds)), some (.imm (.tup ls)), some (.imm (.lst (rs.map fun s => mk (cst r s - cst r r)))), some (.imm d), none, none] none = some (false, none) := fun r v d hm hd => by
    have hrm := (List.of_mem_zip hm).1
    have hvm := (List.of_mem_zip hm).2
    have el := lcB (g := gTp 2 (gCns (gNm 4) (gCns (gNm 5) gNl))) (m := mCall f_is_less (mCons (mCall f_plus (mCons (mVar 3) (mCons (mVar 4) (mPure [])))) (mCons (mVar 5) (mPure []))))
      (ρ := [some (.imm (.tup rds)), some (.imm (.tup ls)), some (.imm (.lst (rs.map fun s => mk (cst r s - cst r r)))), some (.imm d), none, none]) (fun p : Row × Rat => decide (v + (cst r p.1 - cst r r) < p.2))
      (paired_zip (paired_mapL (α := Row) (R := fun d s => d = mk (cst r s - cst r r)) (e := fun s => mk (cst r s - cst r r)) (fun _ => rfl) rs) hn.rl) fun e p he hp => by
        obtain ⟨x, y, rfl, rfl, hy⟩ := he
        have hsm := (List.of_mem_zip (show (p.1, p.2) ∈ _ from hp)).1
        have hwm := (List.of_mem_zip (show (p.1, p.2) ∈ _ from hp)).2
        have ig : InD (E * E) (8 * (N * N)) (cst r p.1 - cst r r) := ((cst_in b (hb r hrm) (hb _ hsm)).sub b.b2.d0 (cst_in b (hb r hrm) (hb r hrm))).mono (by omega)
        have e1 := plus_ev hd (isR_mk (cst r p.1 - cst r r)) (smv hvm) (b.b2.sm ig (by omega))
        have e2 := less_ev (isR_mk (v + (cst r p.1 - cst r r))) hy (b.b2.sm ((hn.ind _ hvm).add b.b2.d0 ig) (by omega)) (smv hwm)
        refine ⟨[some (.imm (.tup rds)), some (.imm (.tup ls)), some (.imm (.lst (rs.map fun s => mk (cst r s - cst r r)))), some (.imm d), some (.imm (mk (cst r p.1 - cst r r))), some (.imm y)], rfl, ?_⟩
        simp only [runP, startL, outF, mVar, mVarB, mPure, mOp1, mOp2, mCons, mCall, mTup, mLst, mTst, asB, mNot, mAnd, mOr, mAndV, mOrV, mIte, mSeq, sSq, sIf, sRet, sSet, sSetF, sNil, sFrz, frz, sExpr, sPar2, sPar3, sAsg, mkL, gNm, gTp, gCns, gNl, D.asT, itemsD, addD_int, subD_int, ltD_int, leD_int, gtD_int, geD_int, negD_int, gcdD_int, absD_int, Option.bind_some, Option.map_some, Option.bind_none, Option.map_none, List.map_cons, List.map_nil, List.length_cons, List.length_nil, List.cons_append, List.nil_append, List.getElem?_cons_zero, List.getElem?_cons_succ, List.set_cons_zero, List.set_cons_succ, List.replicate_succ, List.replicate_zero, Nat.reduceAdd, Nat.reduceSub, Nat.reduceLeDiff, if_true, if_false, ite_true, ite_false, Bool.false_eq_true, e1, e2]
    have hany : ((rs.zip vs).any fun p => decide (v + (cst r p.1 - cst r r) < p.2)) = false := by
      refine List.any_eq_false.mpr fun q hq => ?_
      have := hn.keep (r, v) hm q hq
      simp only [decide_eq_true_eq]
      exact Rat.not_lt.mpr this
    have ea2 := any_map (fun p : Row × Rat => decide (v + (cst r p.1 - cst r r) < p.2)) (rs.zip vs)
    rw [hany] at ea2
    simp only [runP, startL, outF, mVar, mVarB, mPure, mOp1, mOp2, mCons, mCall, mTup, mLst, mTst, asB, mNot, mAnd, mOr, mAndV, mOrV, mIte, mSeq, sSq, sIf, sRet, sSet, sSetF, sNil, sFrz, frz, sExpr, sPar2, sPar3, sAsg, mkL, gNm, gTp, gCns, gNl, D.asT, itemsD, addD_int, subD_int, ltD_int, leD_int, gtD_int, geD_int, negD_int, gcdD_int, absD_int, Option.bind_some, Option.map_some, Option.bind_none, Option.map_none, List.map_cons, List.map_nil, List.length_cons, List.length_nil, List.cons_append, List.nil_append, List.getElem?_cons_zero, List.getElem?_cons_succ, List.set_cons_zero, List.set_cons_succ, List.replicate_succ, List.replicate_zero, Nat.reduceAdd, Nat.reduceSub, Nat.reduceLeDiff, if_true, if_false, ite_true, ite_false, Bool.false_eq_true, mLc, mZip2, wipeL, el, ea2]
  have hloop := for_run (g := gTp 2 (gCns (gNm 2) (gCns (gNm 3) gNl))) (ms := sIf (mTst (mCall anyD (mCons (mLc (mZip2 (mCons (mVar 2) (mCons (mVar 1) (mPure [])))) [4, 5] (gTp 2 (gCns (gNm 4) (gCns (gNm 5) gNl))) (mPure true) (mCall f_is_less (mCons (mCall f_plus (mCons (mVar 3) (mCons (mVar 4) (mPure [])))) (mCons (mVar 5) (mPure []))))) (mPure [])))) (sRet (mPure (.bl false))) sNil)
    (ds := List.zipWith (fun a b => D.tup [a, b]) (rs.map fun r => D.lst (rs.map fun s => mk (cst r s - cst r r))) ls)
    (P := fun fl ρ S => fl = .nx ∧ S = none) (Inv := fun _ ρ S => S = none ∧ ∃ a c, ρ = [some (.imm (.tup rds)), some (.imm (.tup ls)), a, c, none, none]) 0
    (fun i d ρ S hd hI => by
      obtain ⟨rfl, a, c, rfl⟩ := hI
      obtain ⟨p, hp, x, y, rfl, rfl, hy⟩ := paired_get'' (paired_zip (gaps_pair rs) hn.rl) hd
      have hm := List.mem_of_getElem? hp
      refine ⟨_, .nx, [some (LV.imm (D.tup rds)), some (LV.imm (D.tup ls)), some (LV.imm (D.lst (rs.map fun s => mk (cst p.1 s - cst p.1 p.1)))), some (LV.imm y), none, none], none, rfl, ?_, rfl, _, _, rfl⟩
      have e := hinner p.1 p.2 y hm hy
      show Option.bind (mTst _ _ _) _ = _
      rw [show ([some (LV.imm (D.tup rds)), some (LV.imm (D.tup ls)), a, c, none, none].set 2 (some (LV.imm (D.lst (rs.map fun s => mk (cst p.1 s - cst p.1 p.1)))))).set 3 (some (LV.imm y)) = [some (LV.imm (D.tup rds)), some (LV.imm (D.tup ls)), some (LV.imm (D.lst (rs.map fun s => mk (cst p.1 s - cst p.1 p.1)))), some (LV.imm y), none, none] from rfl, e]
      rfl)
    (fun ρ S hI => ⟨rfl, hI.1⟩) [some (.imm (.tup rds)), some (.imm (.tup ls)), none, none, none, none] none ⟨rfl, none, none, rfl⟩
  obtain ⟨fl, ρ', S', e, rfl, rfl⟩ := hloop
  have ez : mZip2 (mCons (mCall f_gaps_of (mCons (mVar 0) (mPure []))) (mCons (mVar 1) (mPure []))) [some (.imm (.tup rds)), some (.imm (.tup ls)), none, none, none, none] none = some (List.zipWith (fun a b => D.tup [a, b]) (rs.map fun r => D.lst (rs.map fun s => mk (cst r s - cst r r))) ls, none) := by
    simp only [runP, startL, outF, mVar, mVarB, mPure, mOp1, mOp2, mCons, mCall, mTup, mLst, mTst, asB, mNot, mAnd, mOr, mAndV, mOrV, mIte, mSeq, sSq, sIf, sRet, sSet, sSetF, sNil, sFrz, frz, sExpr, sPar2, sPar3, sAsg, mkL, gNm, gTp, gCns, gNl, D.asT, itemsD, addD_int, subD_int, ltD_int, leD_int, gtD_int, geD_int, negD_int, gcdD_int, absD_int, Option.bind_some, Option.map_some, Option.bind_none, Option.map_none, List.map_cons, List.map_nil, List.length_cons, List.length_nil, List.cons_append, List.nil_append, List.getElem?_cons_zero, List.getElem?_cons_succ, List.set_cons_zero, List.set_cons_succ, List.replicate_succ, List.replicate_zero, Nat.reduceAdd, Nat.reduceSub, Nat.reduceLeDiff, if_true, if_false, ite_true, ite_false, Bool.false_eq_true, mZip2, hg, gapsD]
  simp only [runP, startL, outF, mVar, mVarB, mPure, mOp1, mOp2, mCons, mCall, mTup, mLst, mTst, asB, mNot, mAnd, mOr, mAndV, mOrV, mIte, mSeq, sSq, sIf, sRet, sSet, sSetF, sNil, sFrz, frz, sExpr, sPar2, sPar3, sAsg, mkL, gNm, gTp, gCns, gNl, D.asT, itemsD, addD_int, subD_int, ltD_int, leD_int, gtD_int, geD_int, negD_int, gcdD_int, absD_int, Option.bind_some, Option.map_some, Option.bind_none, Option.map_none, List.map_cons, List.map_nil, List.length_cons, List.length_nil, List.cons_append, List.nil_append, List.getElem?_cons_zero, List.getElem?_cons_succ, List.set_cons_zero, List.set_cons_succ, List.replicate_succ, List.replicate_zero, Nat.reduceAdd, Nat.reduceSub, Nat.reduceLeDiff, if_true, if_false, ite_true, ite_false, Bool.false_eq_true, f_are_straight, m_are_straight, isi_tt, Bool.not_true, len_items (d := .tup ls) rfl, len_items (d := .tup rds) rfl, hl1, hl2, neD_int, ne_eq, not_true_eq_false, decide_false, mLc, wipeL, ea, eall, sFor, ez, e]
end K25
namespace K25
open PySem PyProof.Rows L2 Dv

theorem eq_rat {d : D} {q : Rat} (h : IsR d q) : eqD (mk q) d = some (.bl true) := by
  have hs : SeqAt.shaped (.tuple [.int q.num, .int q.den]) = true := rfl
  have he : PyData.eqv (.tuple [.int q.num, .int q.den]) (.tuple [.int q.num, .int q.den]) = true := by simp [PyData.eqv, PyData.eqvAll]
  rcases h with rfl | rfl
  · show (if (SeqAt.shaped (.tuple [.int q.num, .int q.den]) && SeqAt.shaped (.tuple [.int q.num, .int q.den])) = true then some (D.bl (PyData.eqv (.tuple [.int q.num, .int q.den]) (.tuple [.int q.num, .int q.den]))) else none) = _
    rw [hs, he]; rfl
  · show (if (SeqAt.shaped (.tuple [.int q.num, .int q.den]) && SeqAt.shaped (.tuple [.int q.num, .int q.den])) = true then some (D.bl (PyData.eqv (.tuple [.int q.num, .int q.den]) (.tuple [.int q.num, .int q.den]))) else none) = _
    rw [hs, he]; rfl
theorem law_ratio_ev {d : D} {q : Rat} (h : IsR d q) (hs : Sm q) : f_law_is_ratio [d] = some (.bl true) := by
  have el := lc_if (g := gNm 1) (t := mOr (mNot (mTst (mOp1 (isiD "int") (mVarB 1)))) (mTst (mOp1 (isiD "bool") (mVarB 1)))) (m := mPure (.int 1)) (S := none) (ρ := [some (.imm d), none]) (R := fun d i => d = D.int i) (fun _ : Int => false) (fun _ => D.int 1) (paired_mapL (e := D.int) (fun _ => rfl) [q.num, (q.den : Int)]) fun d i hd hm => by
    subst hd
    refine ⟨_, rfl, ?_, fun h => nomatch h⟩
    simp only [runP, startL, outF, mVar, mVarB, mPure, mOp1, mOp2, mCons, mCall, mTup, mLst, mTst, asB, mNot, mAnd, mOr, mAndV, mOrV, mIte, mSeq, sSq, sIf, sRet, sSet, sSetF, sNil, sFrz, frz, sExpr, sPar2, sPar3, sAsg, mkL, gNm, gTp, gCns, gNl, D.asT, itemsD, addD_int, subD_int, ltD_int, leD_int, gtD_int, geD_int, negD_int, gcdD_int, absD_int, Option.bind_some, Option.map_some, Option.bind_none, Option.map_none, List.map_cons, List.map_nil, List.length_cons, List.length_nil, List.cons_append, List.nil_append, List.getElem?_cons_zero, List.getElem?_cons_succ, List.set_cons_zero, List.set_cons_succ, List.replicate_succ, List.replicate_zero, Nat.reduceAdd, Nat.reduceSub, Nat.reduceLeDiff, if_true, if_false, ite_true, ite_false, Bool.false_eq_true, isi_ii, isi_bi, Bool.not_true]
  have ei := h.items
  have e1 : mSeq (mVar 0) [some (.imm d), none] none = some ([D.int q.num, D.int q.den], none) := by
    unfold mSeq mVar
    simp only [List.getElem?_cons_zero, Option.bind_some, ei, Option.map_some]
  have e2 : mLc (mSeq (mVar 0)) [1] (gNm 1) (mOr (mNot (mTst (mOp1 (isiD "int") (mVarB 1)))) (mTst (mOp1 (isiD "bool") (mVarB 1)))) (mPure (.int 1)) [some (.imm d), none] none = some (.lst [], none) := by
    unfold mLc
    rw [e1]
    simp only [Option.bind_some, wipeL, List.set_cons_succ, List.set_cons_zero]
    have el' : lcGo [some (LV.imm d), none] (gNm 1) (mOr (mNot (mTst (mOp1 (isiD "int") (mVarB 1)))) (mTst (mOp1 (isiD "bool") (mVarB 1)))) (mPure (.int 1)) [D.int q.num, D.int q.den] none = _ := el
    rw [el']
    rfl
  have hd : (0 : Int) < (q.den : Int) := by have := q.den_pos; omega
  have hq := q_nat (n := q.num) (k := q.den) q.den_nz (by have := hs.den; omega)
  rw [Rat.mkRat_self] at hq
  simp only [runP, startL, outF, mVar, mVarB, mPure, mOp1, mOp2, mCons, mCall, mTup, mLst, mTst, asB, mNot, mAnd, mOr, mAndV, mOrV, mIte, mSeq, sSq, sIf, sRet, sSet, sSetF, sNil, sFrz, frz, sExpr, sPar2, sPar3, sAsg, mkL, gNm, gTp, gCns, gNl, D.asT, itemsD, addD_int, subD_int, ltD_int, leD_int, gtD_int, geD_int, negD_int, gcdD_int, absD_int, Option.bind_some, Option.map_some, Option.bind_none, Option.map_none, List.map_cons, List.map_nil, List.length_cons, List.length_nil, List.cons_append, List.nil_append, List.getElem?_cons_zero, List.getElem?_cons_succ, List.set_cons_zero, List.set_cons_succ, List.replicate_succ, List.replicate_zero, Nat.reduceAdd, Nat.reduceSub, Nat.reduceLeDiff, if_true, if_false, ite_true, ite_false, Bool.false_eq_true, f_law_is_ratio, m_law_is_ratio, h.isi, Bool.not_true, h.len, neD_int, ne_eq, not_true_eq_false, decide_false, e2, ne_nil, h.at0, h.at1, hd, decide_true, hq, eq_rat h]
theorem law_keeps_ev {E N B : Nat} (b : Bnd E N B) {rds ls : List D} {rs : List Row} {vs : List Rat} (hr : Paired RowR rds rs) (hb : ∀ r ∈ rs, RowB E N r) (hn : NumR rs E N ls vs) : f_law_keeps [.tup rds, .tup ls] = some (.bl true) := by
  have hl1 : rds.length = rs.length := Paired.length hr
  have hl2 : ls.length = rs.length := (Paired.length hn.rl).trans hn.len
  have hg := law_gaps_ev b hr hb
  have big := b.big
  have smv : ∀ {v}, v ∈ vs → Sm v := fun h => b.b2.sm (hn.ind _ h) (by omega)
  have ea := lc_if (g := gNm 3) (t := mNot (mTst (mCall f_law_is_ratio (mCons (mVar 3) (mPure []))))) (m := mPure (.int 1)) (S := none) (ρ := [some (.imm (.tup rds)), some (.imm (.tup ls)), none, none, none, none]) (fun _ : Rat => false) (fun _ => D.int 1) hn.rl fun d q hd hm => by
    refine ⟨_, rfl, ?_, fun h => nomatch h⟩
    simp only [runP, startL, outF, mVar, mVarB, mPure, mOp1, mOp2, mCons, mCall, mTup, mLst, mTst, asB, mNot, mAnd, mOr, mAndV, mOrV, mIte, mSeq, sSq, sIf, sRet, sSet, sSetF, sNil, sFrz, frz, sExpr, sPar2, sPar3, sAsg, mkL, gNm, gTp, gCns, gNl, D.asT, itemsD, addD_int, subD_int, ltD_int, leD_int, gtD_int, geD_int, negD_int, gcdD_int, absD_int, Option.bind_some, Option.map_some, Option.bind_none, Option.map_none, List.map_cons, List.map_nil, List.length_cons, List.length_nil, List.cons_append, List.nil_append, List.getElem?_cons_zero, List.getElem?_cons_succ, List.set_cons_zero, List.set_cons_succ, List.replicate_succ, List.replicate_zero, Nat.reduceAdd, Nat.reduceSub, Nat.reduceLeDiff, if_true, if_false, ite_true, ite_false, Bool.false_eq_true, law_ratio_ev hd (smv hm), Bool.not_true]
  rw [show vs.filter (fun _ => false) = [] by simp] at ea
  have hinner : ∀ (r : Row) (v : Rat) (d : D), (r, v) ∈ rs.zip vs → IsR d v → mTst (mOp2 neD (mLc (mZip2 (mCons (mVar 2) (mCons (mVar 1) (mPure [])))) [4, 5] (gTp 2 (gCns (gNm 4) (gCns (gNm 5) gNl))) (mTst (mCall f_law_less (mCons (mCall f_law_plus (mCons (mVar 3) (mCons (mVar 4) (mPure [])))) (mCons (mVar 5) (mPure []))))) (mPure (.int 1))) (mLst (mPure [])))
      [some (.imm (.tup rds)), some (.imm (.tup ls)), some (.imm (.lst (rs.map fun s => mk (cst r s - cst r r)))), some (.imm d), none, none] none = some (false, none) := fun r v d hm hd => by
    have hrm := (List.of_mem_zip hm).1
    have hvm := (List.of_mem_zip hm).2
    have el := lc_if (g := gTp 2 (gCns (gNm 4) (gCns (gNm 5) gNl))) (t := mTst (mCall f_law_less (mCons (mCall f_law_plus (mCons (mVar 3) (mCons (mVar 4) (mPure [])))) (mCons (mVar 5) (mPure []))))) (m := mPure (.int 1)) (S := none)
      (ρ := [some (.imm (.tup rds)), some (.imm (.tup ls)), some (.imm (.lst (rs.map fun s => mk (cst r s - cst r r)))), some (.imm d), none, none]) (fun p : Row × Rat => decide (v + (cst r p.1 - cst r r) < p.2)) (fun _ => D.int 1)
      (paired_zip (paired_mapL (α := Row) (R := fun d s => d = mk (cst r s - cst r r)) (e := fun s => mk (cst r s - cst r r)) (fun _ => rfl) rs) hn.rl) fun e p he hp => by
        obtain ⟨x, y, rfl, rfl, hy⟩ := he
        have hsm := (List.of_mem_zip (show (p.1, p.2) ∈ _ from hp)).1
        have hwm := (List.of_mem_zip (show (p.1, p.2) ∈ _ from hp)).2
        have ig : InD (E * E) (8 * (N * N)) (cst r p.1 - cst r r) := ((cst_in b (hb r hrm) (hb _ hsm)).sub b.b2.d0 (cst_in b (hb r hrm) (hb r hrm))).mono (by omega)
        have e1 := law_plus_ev hd (isR_mk (cst r p.1 - cst r r)) (smv hvm) (b.b2.sm ig (by omega))
        have e2 := law_less_ev (isR_mk (v + (cst r p.1 - cst r r))) hy (b.b2.sm ((hn.ind _ hvm).add b.b2.d0 ig) (by omega)) (smv hwm)
        refine ⟨[some (.imm (.tup rds)), some (.imm (.tup ls)), some (.imm (.lst (rs.map fun s => mk (cst r s - cst r r)))), some (.imm d), some (.imm (mk (cst r p.1 - cst r r))), some (.imm y)], rfl, ?_, fun _ => rfl⟩
        simp only [runP, startL, outF, mVar, mVarB, mPure, mOp1, mOp2, mCons, mCall, mTup, mLst, mTst, asB, mNot, mAnd, mOr, mAndV, mOrV, mIte, mSeq, sSq, sIf, sRet, sSet, sSetF, sNil, sFrz, frz, sExpr, sPar2, sPar3, sAsg, mkL, gNm, gTp, gCns, gNl, D.asT, itemsD, addD_int, subD_int, ltD_int, leD_int, gtD_int, geD_int, negD_int, gcdD_int, absD_int, Option.bind_some, Option.map_some, Option.bind_none, Option.map_none, List.map_cons, List.map_nil, List.length_cons, List.length_nil, List.cons_append, List.nil_append, List.getElem?_cons_zero, List.getElem?_cons_succ, List.set_cons_zero, List.set_cons_succ, List.replicate_succ, List.replicate_zero, Nat.reduceAdd, Nat.reduceSub, Nat.reduceLeDiff, if_true, if_false, ite_true, ite_false, Bool.false_eq_true, e1, e2]
    have hany : (rs.zip vs).filter (fun p => decide (v + (cst r p.1 - cst r r) < p.2)) = [] := by
      refine List.filter_eq_nil_iff.mpr fun q hq => ?_
      have := hn.keep (r, v) hm q hq
      simp only [decide_eq_true_eq]
      exact Rat.not_lt.mpr this
    rw [hany] at el
    simp only [runP, startL, outF, mVar, mVarB, mPure, mOp1, mOp2, mCons, mCall, mTup, mLst, mTst, asB, mNot, mAnd, mOr, mAndV, mOrV, mIte, mSeq, sSq, sIf, sRet, sSet, sSetF, sNil, sFrz, frz, sExpr, sPar2, sPar3, sAsg, mkL, gNm, gTp, gCns, gNl, D.asT, itemsD, addD_int, subD_int, ltD_int, leD_int, gtD_int, geD_int, negD_int, gcdD_int, absD_int, Option.bind_some, Option.map_some, Option.bind_none, Option.map_none, List.map_cons, List.map_nil, List.length_cons, List.length_nil, List.cons_append, List.nil_append, List.getElem?_cons_zero, List.getElem?_cons_succ, List.set_cons_zero, List.set_cons_succ, List.replicate_succ, List.replicate_zero, Nat.reduceAdd, Nat.reduceSub, Nat.reduceLeDiff, if_true, if_false, ite_true, ite_false, Bool.false_eq_true, mLc, mZip2, wipeL, el, ne_nil]
  have hloop := for_run (g := gTp 2 (gCns (gNm 2) (gCns (gNm 3) gNl))) (ms := sIf (mTst (mOp2 neD (mLc (mZip2 (mCons (mVar 2) (mCons (mVar 1) (mPure [])))) [4, 5] (gTp 2 (gCns (gNm 4) (gCns (gNm 5) gNl))) (mTst (mCall f_law_less (mCons (mCall f_law_plus (mCons (mVar 3) (mCons (mVar 4) (mPure [])))) (mCons (mVar 5) (mPure []))))) (mPure (.int 1))) (mLst (mPure [])))) (sRet (mPure (.bl false))) sNil)
    (ds := List.zipWith (fun a b => D.tup [a, b]) (rs.map fun r => D.lst (rs.map fun s => mk (cst r s - cst r r))) ls)
    (P := fun fl ρ S => fl = .nx ∧ S = none) (Inv := fun _ ρ S => S = none ∧ ∃ a c, ρ = [some (.imm (.tup rds)), some (.imm (.tup ls)), a, c, none, none]) 0
    (fun i d ρ S hd hI => by
      obtain ⟨rfl, a, c, rfl⟩ := hI
      obtain ⟨p, hp, x, y, rfl, rfl, hy⟩ := paired_get'' (paired_zip (gaps_pair rs) hn.rl) hd
      have hm := List.mem_of_getElem? hp
      refine ⟨_, .nx, [some (LV.imm (D.tup rds)), some (LV.imm (D.tup ls)), some (LV.imm (D.lst (rs.map fun s => mk (cst p.1 s - cst p.1 p.1)))), some (LV.imm y), none, none], none, rfl, ?_, rfl, _, _, rfl⟩
      have e := hinner p.1 p.2 y hm hy
      show Option.bind (mTst _ _ _) _ = _
      rw [show ([some (LV.imm (D.tup rds)), some (LV.imm (D.tup ls)), a, c, none, none].set 2 (some (LV.imm (D.lst (rs.map fun s => mk (cst p.1 s - cst p.1 p.1)))))).set 3 (some (LV.imm y)) = [some (LV.imm (D.tup rds)), some (LV.imm (D.tup ls)), some (LV.imm (D.lst (rs.map fun s => mk (cst p.1 s - cst p.1 p.1)))), some (LV.imm y), none, none] from rfl, e]
      rfl)
    (fun ρ S hI => ⟨rfl, hI.1⟩) [some (.imm (.tup rds)), some (.imm (.tup ls)), none, none, none, none] none ⟨rfl, none, none, rfl⟩
  obtain ⟨fl, ρ', S', e, rfl, rfl⟩ := hloop
  have ez : mZip2 (mCons (mCall f_law_bu_gaps (mCons (mVar 0) (mPure []))) (mCons (mVar 1) (mPure []))) [some (.imm (.tup rds)), some (.imm (.tup ls)), none, none, none, none] none = some (List.zipWith (fun a b => D.tup [a, b]) (rs.map fun r => D.lst (rs.map fun s => mk (cst r s - cst r r))) ls, none) := by
    simp only [runP, startL, outF, mVar, mVarB, mPure, mOp1, mOp2, mCons, mCall, mTup, mLst, mTst, asB, mNot, mAnd, mOr, mAndV, mOrV, mIte, mSeq, sSq, sIf, sRet, sSet, sSetF, sNil, sFrz, frz, sExpr, sPar2, sPar3, sAsg, mkL, gNm, gTp, gCns, gNl, D.asT, itemsD, addD_int, subD_int, ltD_int, leD_int, gtD_int, geD_int, negD_int, gcdD_int, absD_int, Option.bind_some, Option.map_some, Option.bind_none, Option.map_none, List.map_cons, List.map_nil, List.length_cons, List.length_nil, List.cons_append, List.nil_append, List.getElem?_cons_zero, List.getElem?_cons_succ, List.set_cons_zero, List.set_cons_succ, List.replicate_succ, List.replicate_zero, Nat.reduceAdd, Nat.reduceSub, Nat.reduceLeDiff, if_true, if_false, ite_true, ite_false, Bool.false_eq_true, mZip2, hg, gapsD]
  simp only [runP, startL, outF, mVar, mVarB, mPure, mOp1, mOp2, mCons, mCall, mTup, mLst, mTst, asB, mNot, mAnd, mOr, mAndV, mOrV, mIte, mSeq, sSq, sIf, sRet, sSet, sSetF, sNil, sFrz, frz, sExpr, sPar2, sPar3, sAsg, mkL, gNm, gTp, gCns, gNl, D.asT, itemsD, addD_int, subD_int, ltD_int, leD_int, gtD_int, geD_int, negD_int, gcdD_int, absD_int, Option.bind_some, Option.map_some, Option.bind_none, Option.map_none, List.map_cons, List.map_nil, List.length_cons, List.length_nil, List.cons_append, List.nil_append, List.getElem?_cons_zero, List.getElem?_cons_succ, List.set_cons_zero, List.set_cons_succ, List.replicate_succ, List.replicate_zero, Nat.reduceAdd, Nat.reduceSub, Nat.reduceLeDiff, if_true, if_false, ite_true, ite_false, Bool.false_eq_true, f_law_keeps, m_law_keeps, isi_tt, Bool.not_true, len_items (d := .tup ls) rfl, len_items (d := .tup rds) rfl, hl1, hl2, neD_int, ne_eq, not_true_eq_false, decide_false, mLc, wipeL, ea, ne_nil, sFor, ez, e]

/-! ### rings -/
def ringD (ring : List Nat) : List D := ring.map fun i => D.int (i : Nat)
end K25
namespace K25
open PySem PyProof.Rows L2 Dv


theorem six_1 (n : Nat) (h : 1 ≤ n) : HT.sIx n 0 (some 1) = 1 := by
  unfold HT.sIx
  simp
  omega
theorem six_1e (n : Nat) (h : 1 ≤ n) : HT.sIx n n (some 1) = 1 := by
  unfold HT.sIx
  simp
  omega
theorem six_n0 (n : Nat) : HT.sIx n 0 none = 0 := rfl
theorem six_nn (n : Nat) : HT.sIx n n none = n := rfl
theorem sl_tail (x : D) (xs : List D) : slD (.tup (x :: xs)) (some 1) none = some (.tup xs) := by
  have h : slT (.tup (x :: xs)) (some 1) none = some (.tup xs) := by
    unfold slT
    simp only [D.asT]
    rw [six_1 _ (by simp), six_nn, if_neg (by omega)]
    unfold cutG
    rw [six_1 _ (by simp), six_nn]
    simp
  unfold slD
  rw [h]; rfl
theorem sl_head (x : D) (xs : List D) (h0 : xs ≠ []) : slD (.tup (x :: xs)) none (some 1) = some (.tup [x]) := by
  have hl := List.length_pos_iff.mpr h0
  have h : slT (.tup (x :: xs)) none (some 1) = some (.tup [x]) := by
    unfold slT
    simp only [D.asT]
    rw [six_1e _ (by simp), six_n0, if_neg (by simp; omega)]
    unfold cutG
    rw [six_1e _ (by simp), six_n0]
    simp
  unfold slD
  rw [h]; rfl
theorem add_tup {xs ys : List D} (h1 : xs ≠ []) (h2 : ys ≠ []) (hl : xs.length + ys.length ≤ 4000) : addD (.tup xs) (.tup ys) = some (.tup (xs ++ ys)) := by
  have hz : xs.length + ys.length ≤ sizeLine := Nat.le_trans hl (by decide)
  have e1 : xs.isEmpty = false := by cases xs with | nil => exact absurd rfl h1 | cons _ _ => rfl
  have e2 : ys.isEmpty = false := by cases ys with | nil => exact absurd rfl h2 | cons _ _ => rfl
  have h : addT (.tup xs) (.tup ys) = some (.tup (xs ++ ys)) := by
    unfold addT
    simp only [D.asT]
    rw [if_pos hz, e1, e2]
    rfl
  have h3 : addI (.tup xs) (.tup ys) = none := rfl
  have h4 : addS (.tup xs) (.tup ys) = none := rfl
  unfold addD
  rw [h, h3, h4]
  rfl
theorem mSl_of {f : D → Option Int → Option Int → Option D} {m : ME} {l u : MO} {ρ : Lo} {S : Sg} {d0 d : D} {lo hi : Option Int} (h1 : m ρ S = some (d0, S)) (h2 : l ρ S = some (lo, S)) (h3 : u ρ S = some (hi, S)) (h : f d0 lo hi = some d) : mSl f m l u ρ S = some (d, S) := by
  unfold mSl
  rw [h1]; simp only [Option.bind_some]
  rw [h2]; simp only [Option.bind_some]
  rw [h3]; simp only [Option.bind_some]
  rw [h]; rfl
theorem mLz_of {m : MA} {ρ : Lo} {S : Sg} {xs ys : List D} (h : m ρ S = some ([.tup xs, .tup ys], S)) : mLz m ρ S = some (.lst (List.zipWith (fun a b => D.tup [a, b]) xs ys), S) := by
  unfold mLz
  rw [h]; rfl
theorem steps_zip (ring : List Nat) : List.zipWith (fun a b => D.tup [a, b]) (ringD ring) (ringD ring.tail ++ ringD (ring.take 1)) = (stepsR ring).map fun p => D.tup [.int (p.1 : Nat), .int (p.2 : Nat)] := by
  unfold ringD stepsR
  rw [← List.map_append, List.zipWith_map, List.map_zip_eq_zipWith]
  rfl
theorem round_ev {m : MS} {ring : List Nat} (hl : ring.length ≤ 1000) (h2 : 2 ≤ ring.length) (hm : m = sRet (mLz (mCons (mVar 0) (mCons (mOp2 addD (mSl slD (mVarB 0) (mPart (mPure (.int 1))) (mPure none)) (mSl slD (mVarB 0) (mPure none) (mPart (mPure (.int 1))))) (mPure []))))) :
    runP 1 1 m [.tup (ringD ring)] = some (.lst ((stepsR ring).map fun p => D.tup [.int (p.1 : Nat), .int (p.2 : Nat)])) := by
  subst hm
  match ring, h2 with
  | x :: y :: r, _ =>
    have e1 := sl_tail (.int (x : Nat)) (ringD (y :: r))
    have e2 := sl_head (.int (x : Nat)) (ringD (y :: r)) (by simp [ringD])
    have e3 := add_tup (xs := ringD (y :: r)) (ys := [.int (x : Nat)]) (by simp [ringD]) (by simp) (by simp [ringD] at hl ⊢; omega)
    have ez := steps_zip (x :: y :: r)
    refine runP_rt (S' := none) rfl (sRet_of (S1 := none) ?_)
    refine (mLz_of (xs := ringD (x :: y :: r)) (ys := ringD (y :: r) ++ [.int (x : Nat)]) (cons_of (ev_var rfl) (cons_of (mOp2_of (mSl_of (ev_varB rfl) rfl rfl e1) (mSl_of (ev_varB rfl) rfl rfl e2) e3) rfl))).trans ?_
    rw [← ez]
    rfl
theorem around_ev {ring : List Nat} (hl : ring.length ≤ 1000) (h2 : 2 ≤ ring.length) : f_law_bu_around [.tup (ringD ring)] = some (.lst ((stepsR ring).map fun p => D.tup [.int (p.1 : Nat), .int (p.2 : Nat)])) := round_ev hl h2 rfl
theorem steps_ev {ring : List Nat} (hl : ring.length ≤ 1000) (h2 : 2 ≤ ring.length) : f_steps_of [.tup (ringD ring)] = some (.lst ((stepsR ring).map fun p => D.tup [.int (p.1 : Nat), .int (p.2 : Nat)])) := round_ev hl h2 rfl
theorem ints_ring (ring : List Nat) : intsD (ringD ring) = some (ring.map fun i : Nat => (i : Int)) := by
  have : ringD ring = (ring.map fun i : Nat => (i : Int)).map D.int := by unfold ringD; rw [List.map_map]; rfl
  rw [this, intsD_of]
theorem nodup_cast {ring : List Nat} (h : ring.Nodup) : (ring.map fun i : Nat => (i : Int)).Nodup := by
  rw [List.nodup_iff_pairwise_ne] at h ⊢
  exact List.pairwise_map.mpr (h.imp fun {a b} hab => by omega)
theorem lenset_ev {ring : List Nat} (h : ring.Nodup) (hl : ring.length ≤ 1000) : lenSetD (.tup (ringD ring)) = some (.int (ring.length : Nat)) := by
  unfold lenSetD
  simp only [D.asT, Option.bind_some, ints_ring]
  rw [if_pos ⟨nodup_cast h, by simpa using hl⟩, List.length_map]
theorem law_places_ev {n : Nat} {g : Nat → Nat → Rat} {ring : List Nat} (hn : n ≤ 1000) (h : RingR n g ring) : f_law_bu_are_places [.tup (ringD ring), .int (n : Nat), .int 2] = some (.bl true) := by
  have hlen : (ringD ring).length = ring.length := by simp [ringD]
  have h2 := h.two
  have h3 := h.len
  have el := lc_if (g := gNm 3) (t := mOr (mTst (mOp1 (isiD "bool") (mVarB 3))) (mOr (mNot (mTst (mOp1 (isiD "int") (mVarB 3)))) (mNot (mTst (mChn leD ltD (mPure (.int 0)) (mVarB 3) (mVarB 1)))))) (m := mPure (.int 1)) (S := none)
    (ρ := [some (.imm (.tup (ringD ring))), some (.imm (.int (n : Nat))), some (.imm (.int 2)), none]) (R := fun d i => d = D.int (i : Nat)) (fun _ : Nat => false) (fun _ => D.int 1) (paired_mapL (e := fun i : Nat => D.int (i : Nat)) (fun _ => rfl) ring) fun d i hd hm => by
      subst hd
      have hi := h.lt i hm
      have a0 : (0 : Int) ≤ (i : Int) := by omega
      have a1 : (i : Int) < (n : Int) := by omega
      refine ⟨_, rfl, ?_, fun h => nomatch h⟩
      simp only [runP, startL, outF, mVar, mVarB, mPure, mOp1, mOp2, mCons, mCall, mTup, mLst, mTst, asB, mNot, mAnd, mOr, mAndV, mOrV, mIte, mSeq, sSq, sIf, sRet, sSet, sSetF, sNil, sFrz, frz, sExpr, sPar2, sPar3, sAsg, mkL, gNm, gTp, gCns, gNl, D.asT, itemsD, addD_int, subD_int, ltD_int, leD_int, gtD_int, geD_int, negD_int, gcdD_int, absD_int, Option.bind_some, Option.map_some, Option.bind_none, Option.map_none, List.map_cons, List.map_nil, List.length_cons, List.length_nil, List.cons_append, List.nil_append, List.getElem?_cons_zero, List.getElem?_cons_succ, List.set_cons_zero, List.set_cons_succ, List.replicate_succ, List.replicate_zero, Nat.reduceAdd, Nat.reduceSub, Nat.reduceLeDiff, if_true, if_false, ite_true, ite_false, Bool.false_eq_true, isi_bi, isi_ii, Bool.not_true, mChn, a0, a1, decide_true]
  rw [show ring.filter (fun _ => false) = [] by simp] at el
  have el' : lcGo [some (LV.imm (.tup (ringD ring))), some (.imm (.int (n : Nat))), some (.imm (.int 2)), none] (gNm 3) (mOr (mTst (mOp1 (isiD "bool") (mVarB 3))) (mOr (mNot (mTst (mOp1 (isiD "int") (mVarB 3)))) (mNot (mTst (mChn leD ltD (mPure (.int 0)) (mVarB 3) (mVarB 1)))))) (mPure (.int 1)) (ringD ring) none = some ([], none) := el
  have a2 : ¬ ((ring.length : Int) < 2) := by omega
  have es := lenset_ev h.nd (by omega)
  have en : len_items (d := .tup (ringD ring)) rfl = len_items (d := .tup (ringD ring)) rfl := rfl
  simp only [runP, startL, outF, mVar, mVarB, mPure, mOp1, mOp2, mCons, mCall, mTup, mLst, mTst, asB, mNot, mAnd, mOr, mAndV, mOrV, mIte, mSeq, sSq, sIf, sRet, sSet, sSetF, sNil, sFrz, frz, sExpr, sPar2, sPar3, sAsg, mkL, gNm, gTp, gCns, gNl, D.asT, itemsD, addD_int, subD_int, ltD_int, leD_int, gtD_int, geD_int, negD_int, gcdD_int, absD_int, Option.bind_some, Option.map_some, Option.bind_none, Option.map_none, List.map_cons, List.map_nil, List.length_cons, List.length_nil, List.cons_append, List.nil_append, List.getElem?_cons_zero, List.getElem?_cons_succ, List.set_cons_zero, List.set_cons_succ, List.replicate_succ, List.replicate_zero, Nat.reduceAdd, Nat.reduceSub, Nat.reduceLeDiff, if_true, if_false, ite_true, ite_false, Bool.false_eq_true, f_law_bu_are_places, m_law_bu_are_places, isi_tt, Bool.not_true, len_items (d := .tup (ringD ring)) rfl, hlen, a2, decide_false, mLc, wipeL, el', ne_nil, es, eqD_int, decide_true]
/-- the sum round the ring, in a table -/
theorem ring_table {rs : List Row} {ring : List Nat} (hlt : ∀ i ∈ ring, i < rs.length) {ρ : Lo} {k i j : Nat} (h0 : ρ[k]? = some (some (.imm (gapsD rs)))) (hs : ∀ u v : D, ((ρ.set i (some (.imm u))).set j (some (.imm v)))[k]? = some (some (.imm (gapsD rs))) ∧ ((ρ.set i (some (.imm u))).set j (some (.imm v)))[i]? = some (some (.imm u)) ∧ ((ρ.set i (some (.imm u))).set j (some (.imm v)))[j]? = some (some (.imm v))) :
    lcGo ρ (gTp 2 (gCns (gNm i) (gCns (gNm j) gNl))) (mPure true) (mOp2 ixD (mOp2 ixD (mVarB k) (mVarB i)) (mVarB j)) ((stepsR ring).map fun p => D.tup [.int (p.1 : Nat), .int (p.2 : Nat)]) none = some ((stepsR ring).map fun p => mk (gap rs p.1 p.2), none) := by
  refine lc_rel (R := fun d p => d = D.tup [.int (p.1 : Nat), .int (p.2 : Nat)]) (fun p : Nat × Nat => mk (gap rs p.1 p.2)) (paired_mapL (α := Nat × Nat) (e := fun p => D.tup [.int (p.1 : Nat), .int (p.2 : Nat)]) (fun _ => rfl) (stepsR ring)) fun d p hd hm => ?_
  subst hd
  have hm1 := (List.of_mem_zip (show (p.1, p.2) ∈ ring.zip _ from hm)).1
  have hm2 := (List.of_mem_zip (show (p.1, p.2) ∈ ring.zip _ from hm)).2
  have hp1 := hlt _ hm1
  have hp2 : p.2 < rs.length := by
    rcases List.mem_append.mp hm2 with h | h
    · exact hlt _ (List.mem_of_mem_tail h)
    · exact hlt _ (List.mem_of_mem_take h)
  obtain ⟨r, e1, e2⟩ := (tab_gaps (rs := rs)).at_ p.1 p.2 hp1 hp2
  obtain ⟨a, b, c⟩ := hs (.int (p.1 : Nat)) (.int (p.2 : Nat))
  exact ⟨_, rfl, rfl, mOp2_of (mOp2_of (ev_varB a) (ev_varB b) e1) (ev_varB c) e2⟩
end K25
namespace K25
open PySem PyProof.Rows L2 Dv

theorem num_neg {q : Rat} (h : q < 0) : q.num < 0 := by
  have := (Rat.lt_iff q 0).mp h
  simpa using this
theorem steps_len (ring : List Nat) : (stepsR ring).length ≤ ring.length := by
  unfold stepsR; rw [List.length_zip]; omega
theorem map_mk (f : Nat × Nat → Rat) (l : List (Nat × Nat)) : l.map (fun p => mk (f p)) = (l.map f).map mk := by rw [List.map_map]; rfl
theorem law_loop_ev {E N B : Nat} (b : Bnd E N B) {rds : List D} {rs : List Row} (hr : Paired RowR rds rs) (hb : ∀ r ∈ rs, RowB E N r) (h8 : rs.length ≤ 8) {ring : List Nat} (h : RingR rs.length (gap rs) ring) : f_law_is_loop [.tup rds, .tup (ringD ring)] = some (.bl true) := by
  have hl1 : rds.length = rs.length := Paired.length hr
  have hg := law_gaps_ev b hr hb
  have big := b.big
  have hp := law_places_ev (by omega) h
  have h3 := h.len
  have ha := around_ev (ring := ring) (by omega) h.two
  have et := ring_table (ρ := [some (.imm (.tup rds)), some (.imm (.tup (ringD ring))), some (.imm (gapsD rs)), none, none]) (k := 2) (i := 3) (j := 4) h.lt rfl (fun u v => ⟨rfl, rfl, rfl⟩)
  rw [map_mk (fun p => gap rs p.1 p.2)] at et
  have hin : ∀ q ∈ (stepsR ring).map (fun p => gap rs p.1 p.2), InD (E * E) (8 * (N * N)) q := fun q hq => by
    obtain ⟨p, _, rfl⟩ := List.mem_map.mp hq
    exact gap_in b hb p.1 p.2
  have hsl : ((stepsR ring).map fun p => gap rs p.1 p.2).length * (8 * (N * N)) ≤ B := by
    have h5 : ((stepsR ring).map fun p => gap rs p.1 p.2).length ≤ 8 := by
      rw [List.length_map]; have := steps_len ring; omega
    exact Nat.le_trans (Nat.mul_le_mul_right _ h5) (by omega)
  obtain ⟨d, es, hd, _⟩ := law_sum_ev b.b2 (rl_mk ((stepsR ring).map fun p => gap rs p.1 p.2)) hin hsl (by omega)
  have hneg := num_neg h.less
  have e1 : sIf (mNot (mTst (mCall f_law_bu_are_places (mCons (mVar 1) (mCons (mCall lenD (mCons (mVarB 0) (mPure []))) (mCons (mPure (.int 2)) (mPure []))))))) (sRet (mPure (.bl false))) sNil [some (.imm (.tup rds)), some (.imm (.tup (ringD ring))), none, none, none] none = some (.nx, [some (.imm (.tup rds)), some (.imm (.tup (ringD ring))), none, none, none], none) := by
    simp only [runP, startL, outF, mVar, mVarB, mPure, mOp1, mOp2, mCons, mCall, mTup, mLst, mTst, asB, mNot, mAnd, mOr, mAndV, mOrV, mIte, mSeq, sSq, sIf, sRet, sSet, sSetF, sNil, sFrz, frz, sExpr, sPar2, sPar3, sAsg, mkL, gNm, gTp, gCns, gNl, D.asT, itemsD, addD_int, subD_int, ltD_int, leD_int, gtD_int, geD_int, negD_int, gcdD_int, absD_int, Option.bind_some, Option.map_some, Option.bind_none, Option.map_none, List.map_cons, List.map_nil, List.length_cons, List.length_nil, List.cons_append, List.nil_append, List.getElem?_cons_zero, List.getElem?_cons_succ, List.set_cons_zero, List.set_cons_succ, List.replicate_succ, List.replicate_zero, Nat.reduceAdd, Nat.reduceSub, Nat.reduceLeDiff, if_true, if_false, ite_true, ite_false, Bool.false_eq_true, len_items (d := .tup rds) rfl, hl1, hp, Bool.not_true]
  have e2 : sSet 2 (mCall f_law_bu_gaps (mCons (mVar 0) (mPure []))) [some (.imm (.tup rds)), some (.imm (.tup (ringD ring))), none, none, none] none = some (.nx, [some (.imm (.tup rds)), some (.imm (.tup (ringD ring))), some (.imm (gapsD rs)), none, none], none) := by
    simp only [runP, startL, outF, mVar, mVarB, mPure, mOp1, mOp2, mCons, mCall, mTup, mLst, mTst, asB, mNot, mAnd, mOr, mAndV, mOrV, mIte, mSeq, sSq, sIf, sRet, sSet, sSetF, sNil, sFrz, frz, sExpr, sPar2, sPar3, sAsg, mkL, gNm, gTp, gCns, gNl, D.asT, itemsD, addD_int, subD_int, ltD_int, leD_int, gtD_int, geD_int, negD_int, gcdD_int, absD_int, Option.bind_some, Option.map_some, Option.bind_none, Option.map_none, List.map_cons, List.map_nil, List.length_cons, List.length_nil, List.cons_append, List.nil_append, List.getElem?_cons_zero, List.getElem?_cons_succ, List.set_cons_zero, List.set_cons_succ, List.replicate_succ, List.replicate_zero, Nat.reduceAdd, Nat.reduceSub, Nat.reduceLeDiff, if_true, if_false, ite_true, ite_false, Bool.false_eq_true, hg]
  have e3 : sRet (mOp2 ltD (mOp2 ixD (mCall f_law_sum (mCons (mLc (mSeq (mCall f_law_bu_around (mCons (mVar 1) (mPure [])))) [3, 4] (gTp 2 (gCns (gNm 3) (gCns (gNm 4) gNl))) (mPure true) (mOp2 ixD (mOp2 ixD (mVarB 2) (mVarB 3)) (mVarB 4))) (mPure []))) (mPure (.int 0))) (mPure (.int 0))) [some (.imm (.tup rds)), some (.imm (.tup (ringD ring))), some (.imm (gapsD rs)), none, none] none = some (.rt (.bl true), [some (.imm (.tup rds)), some (.imm (.tup (ringD ring))), some (.imm (gapsD rs)), none, none], none) := by
    simp only [runP, startL, outF, mVar, mVarB, mPure, mOp1, mOp2, mCons, mCall, mTup, mLst, mTst, asB, mNot, mAnd, mOr, mAndV, mOrV, mIte, mSeq, sSq, sIf, sRet, sSet, sSetF, sNil, sFrz, frz, sExpr, sPar2, sPar3, sAsg, mkL, gNm, gTp, gCns, gNl, D.asT, itemsD, addD_int, subD_int, ltD_int, leD_int, gtD_int, geD_int, negD_int, gcdD_int, absD_int, Option.bind_some, Option.map_some, Option.bind_none, Option.map_none, List.map_cons, List.map_nil, List.length_cons, List.length_nil, List.cons_append, List.nil_append, List.getElem?_cons_zero, List.getElem?_cons_succ, List.set_cons_zero, List.set_cons_succ, List.replicate_succ, List.replicate_zero, Nat.reduceAdd, Nat.reduceSub, Nat.reduceLeDiff, if_true, if_false, ite_true, ite_false, Bool.false_eq_true, ha, mLc, wipeL, et, es, hd.at0, hneg, decide_true]
  exact runP_rt rfl ((sSq_nx e1).trans ((sSq_nx e2).trans e3))
end K25
namespace K25
open PySem PyProof.Rows L2 Dv

theorem putG_new {κ : Type} [DecidableEq κ] {acc : List (κ × D)} {k : κ} {d : D} (h : ∀ p ∈ acc, p.1 ≠ k) : putG acc k d = acc ++ [(k, d)] := by
  unfold putG
  rw [if_neg]
  simp only [List.any_eq_true, decide_eq_true_eq, not_exists, not_and]
  exact h
theorem dc_ring {ρ : Lo} (h3 : 3 < ρ.length) : ∀ (ring : List Nat) (acc : List (Key × D)), ring.Nodup → (∀ p ∈ acc, ∀ i ∈ ring, p.1 ≠ (Sum.inl (i : Int) : Key)) → ∃ out, dcGo ρ (gNm 3) (mPure true) (mVar 3) (mPure (.bl true)) (ringD ring) acc none = some (out, none) ∧ out.length = acc.length + ring.length
  | [], acc, _, _ => ⟨acc, rfl, by simp⟩
  | i :: r, acc, hn, ha => by
    (have hn' := List.nodup_cons.mp hn); have e := putG_new (d := .bl true) (fun p hp => ha p hp i List.mem_cons_self)
    obtain ⟨out, h1, h2⟩ := dc_ring h3 r (acc ++ [(Sum.inl (i : Int), .bl true)]) hn'.2 fun p hp j hj => by
      (rcases List.mem_append.mp hp with hp | hp)
      · exact ha p hp j (List.mem_cons_of_mem _ hj)
      · (rw [List.mem_singleton.mp hp]); intro z
        have z := Sum.inl.inj z
        have : i = j := by omega
        exact hn'.1 (this ▸ hj)
    refine ⟨out, ?_, by rw [h2]; simp; omega⟩
    have hv : (ρ.set 3 (some (.imm (.int (i : Nat)))))[3]? = some (some (.imm (.int (i : Nat)))) := List.getElem?_set_self h3
    show Option.bind (gNm 3 (.int (i : Nat)) ρ) _ = _
    simp only [gNm, Option.bind_some, mPure, if_true]
    rw [ev_var hv]
    simp only [Option.bind_some, keyD]
    rw [e]
    exact h1
theorem places_ev {n : Nat} {g : Nat → Nat → Rat} {ring : List Nat} (hn : n ≤ 1000) (h : RingR n g ring) : f_is_places [.tup (ringD ring), .int (n : Nat), .int 2] = some (.bl true) := by
  have hlen : (ringD ring).length = ring.length := by simp [ringD]
  have h2 := h.two
  have h3 := h.len
  have el := lcB (g := gNm 3) (m := mAndV (mOp1 (isiD "int") (mVarB 3)) (mAndV (mNotV (mOp1 (isiD "bool") (mVarB 3))) (mChn leD ltD (mPure (.int 0)) (mVarB 3) (mVarB 1))))
    (ρ := [some (.imm (.tup (ringD ring))), some (.imm (.int (n : Nat))), some (.imm (.int 2)), none]) (R := fun d i => d = D.int (i : Nat)) (fun _ : Nat => true) (paired_mapL (e := fun i : Nat => D.int (i : Nat)) (fun _ => rfl) ring) fun d i hd hm => by
      subst hd
      have hi := h.lt i hm
      have a0 : (0 : Int) ≤ (i : Int) := by omega
      have a1 : (i : Int) < (n : Int) := by omega
      refine ⟨_, rfl, ?_⟩
      simp only [runP, startL, outF, mVar, mVarB, mPure, mOp1, mOp2, mCons, mCall, mTup, mLst, mTst, asB, mNot, mAnd, mOr, mAndV, mOrV, mIte, mSeq, sSq, sIf, sRet, sSet, sSetF, sNil, sFrz, frz, sExpr, sPar2, sPar3, sAsg, mkL, gNm, gTp, gCns, gNl, D.asT, itemsD, addD_int, subD_int, ltD_int, leD_int, gtD_int, geD_int, negD_int, gcdD_int, absD_int, Option.bind_some, Option.map_some, Option.bind_none, Option.map_none, List.map_cons, List.map_nil, List.length_cons, List.length_nil, List.cons_append, List.nil_append, List.getElem?_cons_zero, List.getElem?_cons_succ, List.set_cons_zero, List.set_cons_succ, List.replicate_succ, List.replicate_zero, Nat.reduceAdd, Nat.reduceSub, Nat.reduceLeDiff, if_true, if_false, ite_true, ite_false, Bool.false_eq_true, isi_bi, isi_ii, mNotV, Bool.not_false, mChn, a0, a1, decide_true]
  have ea := all_map (fun _ : Nat => true) ring
  rw [show (ring.all fun _ => true) = true by simp] at ea
  have el' : lcGo [some (LV.imm (.tup (ringD ring))), some (.imm (.int (n : Nat))), some (.imm (.int 2)), none] (gNm 3) (mPure true) (mAndV (mOp1 (isiD "int") (mVarB 3)) (mAndV (mNotV (mOp1 (isiD "bool") (mVarB 3))) (mChn leD ltD (mPure (.int 0)) (mVarB 3) (mVarB 1)))) (ringD ring) none = some (ring.map (fun _ => D.bl true), none) := el
  have a2 : ¬ ((ring.length : Int) < 2) := by omega
  obtain ⟨out, ed, eo⟩ := dc_ring (ρ := [some (LV.imm (.tup (ringD ring))), some (.imm (.int (n : Nat))), some (.imm (.int 2)), none]) (by simp) ring [] h.nd (fun _ hp => by cases hp)
  have lo : lenD [.dK out] = some (.int (ring.length : Nat)) := by
    have : lenD [.dK out] = some (.int (out.length : Nat)) := rfl
    rw [this, eo]; simp
  simp only [runP, startL, outF, mVar, mVarB, mPure, mOp1, mOp2, mCons, mCall, mTup, mLst, mTst, asB, mNot, mAnd, mOr, mAndV, mOrV, mIte, mSeq, sSq, sIf, sRet, sSet, sSetF, sNil, sFrz, frz, sExpr, sPar2, sPar3, sAsg, mkL, gNm, gTp, gCns, gNl, D.asT, itemsD, addD_int, subD_int, ltD_int, leD_int, gtD_int, geD_int, negD_int, gcdD_int, absD_int, Option.bind_some, Option.map_some, Option.bind_none, Option.map_none, List.map_cons, List.map_nil, List.length_cons, List.length_nil, List.cons_append, List.nil_append, List.getElem?_cons_zero, List.getElem?_cons_succ, List.set_cons_zero, List.set_cons_succ, List.replicate_succ, List.replicate_zero, Nat.reduceAdd, Nat.reduceSub, Nat.reduceLeDiff, if_true, if_false, ite_true, ite_false, Bool.false_eq_true, f_is_places, m_is_places, isi_tt, Bool.not_true, len_items (d := .tup (ringD ring)) rfl, hlen, a2, decide_false, mLc, mDc, wipeL, el', ea, ed, lo, eqD_int, decide_true]
theorem sh_lit : True := trivial
theorem eq_some_some : eqD (.str "some") (.str "some") = some (.bl true) := by rw [str_eq sh_some sh_some]; simp
theorem eq_ring_some : eqD (.str "ring") (.str "some") = some (.bl false) := by
  rw [str_eq sh_ring sh_some]
  have : decide ((("ring" : Str)) = "some") = false := by decide +kernel
  rw [this]
theorem ne_ring_ring : neD (.str "ring") (.str "ring") = some (.bl false) := by rw [str_ne sh_ring sh_ring]; simp
theorem is_paper_ev {E N B : Nat} (b : Bnd E N B) {x : D} {rs : List Row} {goods : Nat} (h : BudR x rs goods) (hb : ∀ r ∈ rs, RowB E N r) {res : D} (hs : StraightR rs E N res) : f_is_straight_paper [x, res] = some (.bl true) := by
  obtain ⟨rds, rfl, hr⟩ := h.ex
  have hn := need_ev h
  have h8 := h.l8
  have i1 : ixD (.tup [.str "budgets", .tup rds]) (.int 1) = some (.tup rds) := rfl
  have hl1 : rds.length = rs.length := Paired.length hr
  have hg := gaps_ev b hr hb
  have big := b.big
  rcases hs with ⟨ls, lev, rfl, K⟩ | ⟨ring, rfl, R⟩
  · have e := are_straight_ev b hr hb (keepL_of K)
    have j0 : ixD (.tup [.str "some", .tup ls]) (.int 0) = some (.str "some") := rfl
    have j1 : ixD (.tup [.str "some", .tup ls]) (.int 1) = some (.tup ls) := rfl
    have l2 : lenD [.tup [.str "some", .tup ls]] = some (.int 2) := rfl
    simp only [runP, startL, outF, mVar, mVarB, mPure, mOp1, mOp2, mCons, mCall, mTup, mLst, mTst, asB, mNot, mAnd, mOr, mAndV, mOrV, mIte, mSeq, sSq, sIf, sRet, sSet, sSetF, sNil, sFrz, frz, sExpr, sPar2, sPar3, sAsg, mkL, gNm, gTp, gCns, gNl, D.asT, itemsD, addD_int, subD_int, ltD_int, leD_int, gtD_int, geD_int, negD_int, gcdD_int, absD_int, Option.bind_some, Option.map_some, Option.bind_none, Option.map_none, List.map_cons, List.map_nil, List.length_cons, List.length_nil, List.cons_append, List.nil_append, List.getElem?_cons_zero, List.getElem?_cons_succ, List.set_cons_zero, List.set_cons_succ, List.replicate_succ, List.replicate_zero, Nat.reduceAdd, Nat.reduceSub, Nat.reduceLeDiff, if_true, if_false, ite_true, ite_false, Bool.false_eq_true, f_is_straight_paper, m_is_straight_paper, hn, i1, isi_tt, isi_ss, Bool.not_true, l2, neD_int, ne_eq, not_true_eq_false, decide_false, j0, j1, eq_some_some, e]
  · have j0 : ixD (.tup [.str "ring", .tup (ringD ring)]) (.int 0) = some (.str "ring") := rfl
    have j1 : ixD (.tup [.str "ring", .tup (ringD ring)]) (.int 1) = some (.tup (ringD ring)) := rfl
    have l2 : lenD [.tup [.str "ring", .tup (ringD ring)]] = some (.int 2) := rfl
    have h3 := R.len
    have hp := places_ev (by omega) R
    have ha := steps_ev (ring := ring) (by omega) R.two
    have et := ring_table (ρ := [some (.imm (.tup [.str "budgets", .tup rds])), some (.imm (.tup [.str "ring", .tup (ringD ring)])), some (.imm (.tup rds)), some (.imm (gapsD rs)), none, none]) (k := 3) (i := 4) (j := 5) R.lt rfl (fun u v => ⟨rfl, rfl, rfl⟩)
    rw [map_mk (fun p => gap rs p.1 p.2)] at et
    have hin : ∀ q ∈ (stepsR ring).map (fun p => gap rs p.1 p.2), InD (E * E) (8 * (N * N)) q := fun q hq => by
      obtain ⟨p, _, rfl⟩ := List.mem_map.mp hq
      exact gap_in b hb p.1 p.2
    have hsl : ((stepsR ring).map fun p => gap rs p.1 p.2).length * (8 * (N * N)) ≤ B := by
      have h5 : ((stepsR ring).map fun p => gap rs p.1 p.2).length ≤ 8 := by
        rw [List.length_map]; have := steps_len ring; omega
      exact Nat.le_trans (Nat.mul_le_mul_right _ h5) (by omega)
    obtain ⟨d, es, hd, _⟩ := total_ev b.b2 (rl_mk ((stepsR ring).map fun p => gap rs p.1 p.2)) hin hsl (by omega)
    have hneg := num_neg R.less
    show f_is_straight_paper [.tup [.str "budgets", .tup rds], .tup [.str "ring", .tup (ringD ring)]] = _
    simp only [runP, startL, outF, mVar, mVarB, mPure, mOp1, mOp2, mCons, mCall, mTup, mLst, mTst, asB, mNot, mAnd, mOr, mAndV, mOrV, mIte, mSeq, sSq, sIf, sRet, sSet, sSetF, sNil, sFrz, frz, sExpr, sPar2, sPar3, sAsg, mkL, gNm, gTp, gCns, gNl, D.asT, itemsD, addD_int, subD_int, ltD_int, leD_int, gtD_int, geD_int, negD_int, gcdD_int, absD_int, Option.bind_some, Option.map_some, Option.bind_none, Option.map_none, List.map_cons, List.map_nil, List.length_cons, List.length_nil, List.cons_append, List.nil_append, List.getElem?_cons_zero, List.getElem?_cons_succ, List.set_cons_zero, List.set_cons_succ, List.replicate_succ, List.replicate_zero, Nat.reduceAdd, Nat.reduceSub, Nat.reduceLeDiff, if_true, if_false, ite_true, ite_false, Bool.false_eq_true, f_is_straight_paper, m_is_straight_paper, hn, i1, isi_tt, isi_ss, Bool.not_true, l2, neD_int, ne_eq, not_true_eq_false, decide_false, j0, j1, eq_ring_some, ne_ring_ring, len_items (d := .tup rds) rfl, hl1, hp, hg, ha, mLc, wipeL, et, es, hd.at0, hneg, decide_true]
end K25
namespace K25
open PySem PyProof.Rows L2 Dv

def rmin (a : Rat) (l : List Rat) : Rat := l.foldl (fun a q => if decide (q < a) then q else a) a
theorem rmin_cons (a q : Rat) (l : List Rat) : rmin a (q :: l) = rmin (if decide (q < a) then q else a) l := rfl
theorem rmin_le : ∀ (l : List Rat) (a : Rat), rmin a l ≤ a ∧ ∀ q ∈ l, rmin a l ≤ q
  | [], a => ⟨Rat.le_refl, fun q h => by cases h⟩
  | x :: l, a => by
    rw [rmin_cons]
    by_cases h : x < a
    · simp only [h, decide_true, if_true]
      obtain ⟨h1, h2⟩ := rmin_le l x
      (refine ⟨Rat.le_trans h1 (Rat.le_of_lt h), fun q hq => ?_⟩); rcases List.mem_cons.mp hq with rfl | hq
      · exact h1
      · exact h2 q hq
    · simp only [h, decide_false, Bool.false_eq_true, if_false]
      obtain ⟨h1, h2⟩ := rmin_le l a
      (refine ⟨h1, fun q hq => ?_⟩); rcases List.mem_cons.mp hq with rfl | hq
      · exact Rat.le_trans h1 (Rat.not_lt.mp h)
      · exact h2 q hq
theorem rmin_mem : ∀ (l : List Rat) (a : Rat), rmin a l = a ∨ rmin a l ∈ l
  | [], a => .inl rfl
  | x :: l, a => by
    rw [rmin_cons]
    by_cases h : x < a
    · simp only [h, decide_true, if_true]
      rcases rmin_mem l x with e | e
      · exact .inr (by rw [e]; exact List.mem_cons_self)
      · exact .inr (List.mem_cons_of_mem _ e)
    · simp only [h, decide_false, Bool.false_eq_true, if_false]
      rcases rmin_mem l a with e | e
      · exact .inl e
      · exact .inr (List.mem_cons_of_mem _ e)
theorem least_go {d0 : D} : ∀ (l : List Rat) (a : Rat) (z : Option LV), Sm a → (∀ q ∈ l, Sm q) → ∃ z', forGo (gNm 2) (sSet 1 (mIte (mTst (mCall f_is_less (mCons (mVar 2) (mCons (mVar 1) (mPure []))))) (mVar 2) (mVar 1))) (l.map mk) [some (.imm d0), some (.imm (mk a)), z] none = some (.nx, [some (.imm d0), some (.imm (mk (rmin a l))), z'], none)
  | [], a, z, _, _ => ⟨z, rfl⟩
  | q :: l, a, z, sa, sl => by
    have e := less_ev (isR_mk q) (isR_mk a) (sl q List.mem_cons_self) sa
    obtain ⟨z', h⟩ := least_go (d0 := d0) l (if decide (q < a) then q else a) (some (.imm (mk q))) (by split; exact sl q List.mem_cons_self; exact sa) fun p hp => sl p (List.mem_cons_of_mem _ hp)
    refine ⟨z', ?_⟩
    rw [rmin_cons, ← h]
    show Option.bind (gNm 2 (mk q) [some (.imm d0), some (.imm (mk a)), z]) _ = _
    cases hd : decide (q < a) with
    | true => rw [hd] at e; simp only [runP, startL, outF, mVar, mVarB, mPure, mOp1, mOp2, mCons, mCall, mTup, mLst, mTst, asB, mNot, mAnd, mOr, mAndV, mOrV, mIte, mSeq, sSq, sIf, sRet, sSet, sSetF, sNil, sFrz, frz, sExpr, sPar2, sPar3, sAsg, mkL, gNm, gTp, gCns, gNl, D.asT, itemsD, addD_int, subD_int, ltD_int, leD_int, gtD_int, geD_int, negD_int, gcdD_int, absD_int, Option.bind_some, Option.map_some, Option.bind_none, Option.map_none, List.map_cons, List.map_nil, List.length_cons, List.length_nil, List.cons_append, List.nil_append, List.getElem?_cons_zero, List.getElem?_cons_succ, List.set_cons_zero, List.set_cons_succ, List.replicate_succ, List.replicate_zero, Nat.reduceAdd, Nat.reduceSub, Nat.reduceLeDiff, if_true, if_false, ite_true, ite_false, Bool.false_eq_true, e]
    | false => rw [hd] at e; simp only [runP, startL, outF, mVar, mVarB, mPure, mOp1, mOp2, mCons, mCall, mTup, mLst, mTst, asB, mNot, mAnd, mOr, mAndV, mOrV, mIte, mSeq, sSq, sIf, sRet, sSet, sSetF, sNil, sFrz, frz, sExpr, sPar2, sPar3, sAsg, mkL, gNm, gTp, gCns, gNl, D.asT, itemsD, addD_int, subD_int, ltD_int, leD_int, gtD_int, geD_int, negD_int, gcdD_int, absD_int, Option.bind_some, Option.map_some, Option.bind_none, Option.map_none, List.map_cons, List.map_nil, List.length_cons, List.length_nil, List.cons_append, List.nil_append, List.getElem?_cons_zero, List.getElem?_cons_succ, List.set_cons_zero, List.set_cons_succ, List.replicate_succ, List.replicate_zero, Nat.reduceAdd, Nat.reduceSub, Nat.reduceLeDiff, if_true, if_false, ite_true, ite_false, Bool.false_eq_true, e]
theorem sl_tailL (x : D) (xs : List D) : slD (.lst (x :: xs)) (some 1) none = some (.lst xs) := by
  have h : slL (.lst (x :: xs)) (some 1) none = some (.lst xs) := by
    unfold slL
    simp only [cutG]
    rw [six_1 _ (by simp), six_nn]
    simp
  unfold slD
  rw [h]; rfl
theorem least_ev {w : Rat} {ws : List Rat} (hs : ∀ q ∈ w :: ws, Sm q) : f_least_of [.lst ((w :: ws).map mk)] = some (mk (rmin w ws)) := by
  have e0 : ixD (.lst ((w :: ws).map mk)) (.int 0) = some (mk w) := ix_nat (n := 0) rfl rfl
  have e1 : slD (.lst ((w :: ws).map mk)) (some 1) none = some (.lst (ws.map mk)) := sl_tailL _ _
  obtain ⟨z, e2⟩ := least_go (d0 := .lst ((w :: ws).map mk)) ws w none (hs w List.mem_cons_self) fun q hq => hs q (List.mem_cons_of_mem _ hq)
  have e3 : mSeq (mSl slD (mVarB 0) (mPart (mPure (.int 1))) (mPure none)) [some (.imm (.lst ((w :: ws).map mk))), some (.imm (mk w)), none] none = some (ws.map mk, none) := by
    unfold mSeq
    rw [mSl_of (ev_varB rfl) rfl rfl e1]
    rfl
  have a1 : sSet 1 (mOp2 ixD (mVarB 0) (mPure (.int 0))) [some (.imm (.lst ((w :: ws).map mk))), none, none] none = some (.nx, [some (.imm (.lst ((w :: ws).map mk))), some (.imm (mk w)), none], none) := by
    unfold sSet
    rw [mOp2_of (ev_varB rfl) rfl e0]
    rfl
  have a2 : sFor (mSeq (mSl slD (mVarB 0) (mPart (mPure (.int 1))) (mPure none))) (gNm 2) (sSet 1 (mIte (mTst (mCall f_is_less (mCons (mVar 2) (mCons (mVar 1) (mPure []))))) (mVar 2) (mVar 1))) [some (.imm (.lst ((w :: ws).map mk))), some (.imm (mk w)), none] none = some (.nx, [some (.imm (.lst ((w :: ws).map mk))), some (.imm (mk (rmin w ws))), z], none) := by
    show Option.bind (mSeq _ _ _) _ = _
    rw [e3]
    exact e2
  exact runP_rt (S' := none) rfl ((sSq_nx a1).trans ((sSq_nx a2).trans (sRet_of (S1 := none) (ev_var rfl))))
/-- the wish at a bundle: one number a row -/
def wish1 (q : List Rat) (p : Row × Rat) : Rat := p.2 + (rdot p.1.1 q - rdot p.1.1 p.1.2)
end K25
namespace K25
open PySem PyProof.Rows L2 Dv

/-- a bundle -/
structure BunR (E N goods : Nat) (y : D) (qs : List Rat) : Prop where
  vec : VecR y qs
  len : qs.length = goods
  ind : ∀ q ∈ qs, InD E N q
  nn : ∀ q ∈ qs, 0 ≤ q
theorem goods_ev {x : D} {rs : List Row} {goods : Nat} (h : BudR x rs goods) : f_goods_of [x] = some (.int (goods : Nat)) := by
  obtain ⟨rds, rfl, hr⟩ := h.ex
  have i1 : ixD (.tup [.str "budgets", .tup rds]) (.int 1) = some (.tup rds) := rfl
  cases hr with
  | nil => have := h.l1; simp at this
  | @cons d r rds rs hd hr =>
    obtain ⟨u, v, rfl, hu, hv⟩ := hd
    obtain ⟨ds, rfl, hrl⟩ := hu.ex
    have hp := (h.rp r List.mem_cons_self).pl
    have hl : ds.length = goods := (Paired.length hrl).trans hp
    have i2 : ixD (.tup (.tup [.tup ds, v] :: rds)) (.int 0) = some (.tup [.tup ds, v]) := ix_nat (n := 0) rfl rfl
    have i3 : ixD (.tup [.tup ds, v]) (.int 0) = some (.tup ds) := rfl
    simp only [runP, startL, outF, mVar, mVarB, mPure, mOp1, mOp2, mCons, mCall, mTup, mLst, mTst, asB, mNot, mAnd, mOr, mAndV, mOrV, mIte, mSeq, sSq, sIf, sRet, sSet, sSetF, sNil, sFrz, frz, sExpr, sPar2, sPar3, sAsg, mkL, gNm, gTp, gCns, gNl, D.asT, itemsD, addD_int, subD_int, ltD_int, leD_int, gtD_int, geD_int, negD_int, gcdD_int, absD_int, Option.bind_some, Option.map_some, Option.bind_none, Option.map_none, List.map_cons, List.map_nil, List.length_cons, List.length_nil, List.cons_append, List.nil_append, List.getElem?_cons_zero, List.getElem?_cons_succ, List.set_cons_zero, List.set_cons_succ, List.replicate_succ, List.replicate_zero, Nat.reduceAdd, Nat.reduceSub, Nat.reduceLeDiff, if_true, if_false, ite_true, ite_false, Bool.false_eq_true, f_goods_of, m_goods_of, i1, i2, i3, len_items (d := .tup ds) rfl, hl]
theorem bundle_ev {E N goods : Nat} {y : D} {qs : List Rat} (h : BunR E N goods y qs) : f_is_bundle [y, .int (goods : Nat)] = some (.bl true) := by
  obtain ⟨ds, rfl, hr⟩ := h.vec.ex
  have hl : ds.length = goods := (Paired.length hr).trans h.len
  have el := lcB (g := gNm 2) (m := mAndV (mCall f_is_ratio (mCons (mVar 2) (mPure []))) (mOp2 geD (mOp2 ixD (mVarB 2) (mPure (.int 0))) (mPure (.int 0)))) (ρ := [some (.imm (.tup ds)), some (.imm (.int (goods : Nat))), none]) (fun q : Rat => decide (0 ≤ q.num)) hr fun d q hd hm => by
    refine ⟨_, rfl, ?_⟩
    simp only [runP, startL, outF, mVar, mVarB, mPure, mOp1, mOp2, mCons, mCall, mTup, mLst, mTst, asB, mNot, mAnd, mOr, mAndV, mOrV, mIte, mSeq, sSq, sIf, sRet, sSet, sSetF, sNil, sFrz, frz, sExpr, sPar2, sPar3, sAsg, mkL, gNm, gTp, gCns, gNl, D.asT, itemsD, addD_int, subD_int, ltD_int, leD_int, gtD_int, geD_int, negD_int, gcdD_int, absD_int, Option.bind_some, Option.map_some, Option.bind_none, Option.map_none, List.map_cons, List.map_nil, List.length_cons, List.length_nil, List.cons_append, List.nil_append, List.getElem?_cons_zero, List.getElem?_cons_succ, List.set_cons_zero, List.set_cons_succ, List.replicate_succ, List.replicate_zero, Nat.reduceAdd, Nat.reduceSub, Nat.reduceLeDiff, if_true, if_false, ite_true, ite_false, Bool.false_eq_true, ratio_ev hd, hd.at0]
  have ea := all_map (fun q : Rat => decide (0 ≤ q.num)) qs
  rw [show (qs.all fun q => decide (0 ≤ q.num)) = true from List.all_eq_true.mpr fun q hq => decide_eq_true (num_nonneg (h.nn q hq))] at ea
  simp only [runP, startL, outF, mVar, mVarB, mPure, mOp1, mOp2, mCons, mCall, mTup, mLst, mTst, asB, mNot, mAnd, mOr, mAndV, mOrV, mIte, mSeq, sSq, sIf, sRet, sSet, sSetF, sNil, sFrz, frz, sExpr, sPar2, sPar3, sAsg, mkL, gNm, gTp, gCns, gNl, D.asT, itemsD, addD_int, subD_int, ltD_int, leD_int, gtD_int, geD_int, negD_int, gcdD_int, absD_int, Option.bind_some, Option.map_some, Option.bind_none, Option.map_none, List.map_cons, List.map_nil, List.length_cons, List.length_nil, List.cons_append, List.nil_append, List.getElem?_cons_zero, List.getElem?_cons_succ, List.set_cons_zero, List.set_cons_succ, List.replicate_succ, List.replicate_zero, Nat.reduceAdd, Nat.reduceSub, Nat.reduceLeDiff, if_true, if_false, ite_true, ite_false, Bool.false_eq_true, f_is_bundle, m_is_bundle, isi_tt, Bool.not_true, len_items (d := .tup ds) rfl, hl, neD_int, ne_eq, not_true_eq_false, decide_false, mLc, wipeL, el, ea]
theorem need_bundle_ev {E N goods : Nat} {x y : D} {rs : List Row} {qs : List Rat} (h : BudR x rs goods) (hq : BunR E N goods y qs) : f_need_bundle [x, y] = some .non := by
  simp only [runP, startL, outF, mVar, mVarB, mPure, mOp1, mOp2, mCons, mCall, mTup, mLst, mTst, asB, mNot, mAnd, mOr, mAndV, mOrV, mIte, mSeq, sSq, sIf, sRet, sSet, sSetF, sNil, sFrz, frz, sExpr, sPar2, sPar3, sAsg, mkL, gNm, gTp, gCns, gNl, D.asT, itemsD, addD_int, subD_int, ltD_int, leD_int, gtD_int, geD_int, negD_int, gcdD_int, absD_int, Option.bind_some, Option.map_some, Option.bind_none, Option.map_none, List.map_cons, List.map_nil, List.length_cons, List.length_nil, List.cons_append, List.nil_append, List.getElem?_cons_zero, List.getElem?_cons_succ, List.set_cons_zero, List.set_cons_succ, List.replicate_succ, List.replicate_zero, Nat.reduceAdd, Nat.reduceSub, Nat.reduceLeDiff, if_true, if_false, ite_true, ite_false, Bool.false_eq_true, f_need_bundle, m_need_bundle, goods_ev h, bundle_ev hq, Bool.not_true]
theorem wish_in {E N B : Nat} (b : Bnd E N B) {r : Row} {qs : List Rat} {v : Rat} (hr : RowB E N r) (hq : ∀ q ∈ qs, InD E N q) (hv : InD (E * E) (5000 * (N * N)) v) : InD (E * E) (5008 * (N * N)) (wish1 qs (r, v)) := by
  have h1 := (rdot_in b.b1.d0 hr.pb hq).mono (Nat.mul_le_mul_right (N * N) hr.p4)
  have h2 := (rdot_in b.b1.d0 hr.pb hr.qb).mono (Nat.mul_le_mul_right (N * N) hr.p4)
  exact (hv.add b.b2.d0 (h1.sub b.b2.d0 h2)).mono (by omega)
theorem wish1_ev {E N B : Nat} (b : Bnd E N B) {r : Row} {u w y d : D} {qs : List Rat} {v : Rat} (hu : VecR u r.1) (hw : VecR w r.2) (hr : RowB E N r) (hy : VecR y qs) (hq : ∀ q ∈ qs, InD E N q) (q0 : qs ≠ []) (hd : IsR d v) (hv : InD (E * E) (5000 * (N * N)) v) :
    ∃ a c e, f_dot [u, y] = some a ∧ f_dot [u, w] = some c ∧ f_minus [a, c] = some e ∧ f_plus [d, e] = some (mk (wish1 qs (r, v))) := by
  have big := b.big
  have l4 : r.1.length * (N * N) ≤ B := Nat.le_trans (Nat.mul_le_mul_right (N * N) hr.p4) (by omega)
  have i1 := (rdot_in b.b1.d0 hr.pb hq).mono (Nat.mul_le_mul_right (N * N) hr.p4)
  have i2 := (rdot_in b.b1.d0 hr.pb hr.qb).mono (Nat.mul_le_mul_right (N * N) hr.p4)
  exact ⟨_, _, _, dot_ev b.b1 b.b2 hu hy hr.pb hq l4 (by omega) ⟨hr.p0, q0⟩, dot_ev b.b1 b.b2 hu hw hr.pb hr.qb l4 (by omega) ⟨hr.p0, hr.q0⟩, minus_ev (isR_mk _) (isR_mk _) (b.b2.sm i1 (by omega)) (b.b2.sm i2 (by omega)), plus_ev hd (isR_mk _) (b.b2.sm hv (by omega)) (b.b2.sm (i1.sub b.b2.d0 i2) (by omega))⟩
theorem law_wish1_ev {E N B : Nat} (b : Bnd E N B) {r : Row} {u w y d : D} {qs : List Rat} {v : Rat} (hu : VecR u r.1) (hw : VecR w r.2) (hr : RowB E N r) (hy : VecR y qs) (hq : ∀ q ∈ qs, InD E N q) (q0 : qs ≠ []) (hd : IsR d v) (hv : InD (E * E) (5000 * (N * N)) v) :
    ∃ a c e, f_law_dot [u, y] = some a ∧ f_law_dot [u, w] = some c ∧ f_law_minus [a, c] = some e ∧ f_law_plus [d, e] = some (mk (wish1 qs (r, v))) := by
  have big := b.big
  have l4 : r.1.length * (N * N) ≤ B := Nat.le_trans (Nat.mul_le_mul_right (N * N) hr.p4) (by omega)
  have i1 := (rdot_in b.b1.d0 hr.pb hq).mono (Nat.mul_le_mul_right (N * N) hr.p4)
  have i2 := (rdot_in b.b1.d0 hr.pb hr.qb).mono (Nat.mul_le_mul_right (N * N) hr.p4)
  exact ⟨_, _, _, law_dot_ev b.b1 b.b2 hu hy hr.pb hq l4 (by omega) ⟨hr.p0, q0⟩, law_dot_ev b.b1 b.b2 hu hw hr.pb hr.qb l4 (by omega) ⟨hr.p0, hr.q0⟩, law_minus_ev (isR_mk _) (isR_mk _) (b.b2.sm i1 (by omega)) (b.b2.sm i2 (by omega)), law_plus_ev hd (isR_mk _) (b.b2.sm hv (by omega)) (b.b2.sm (i1.sub b.b2.d0 i2) (by omega))⟩
/-- all the wishes -/
def wishes (rs : List Row) (vs qs : List Rat) : List Rat := (rs.zip vs).map (wish1 qs)
theorem wish_go {E N B goods : Nat} (b : Bnd E N B) {x y : D} {rds ls : List D} {rs : List Row} {vs qs : List Rat} (hr : Paired RowR rds rs) (hb : ∀ r ∈ rs, RowB E N r) (hn : NumR rs E N ls vs) (hq : BunR E N goods y qs) (q0 : qs ≠ []) (hz : rs.length ≤ 1000) :
    ∃ a c e, forGo (gTp 2 (gCns (gTp 2 (gCns (gNm 5) (gCns (gNm 6) gNl))) (gCns (gNm 4) gNl))) (sApp 3 (mCall f_plus (mCons (mVar 4) (mCons (mCall f_minus (mCons (mCall f_dot (mCons (mVar 5) (mCons (mVar 2) (mPure [])))) (mCons (mCall f_dot (mCons (mVar 5) (mCons (mVar 6) (mPure [])))) (mPure [])))) (mPure [])))))
      (List.zipWith (fun a b => D.tup [a, b]) rds ls) [some (.imm x), some (.imm (.tup ls)), some (.imm y), some (.own (.lst [])), none, none, none] none = some (.nx, [some (.imm x), some (.imm (.tup ls)), some (.imm y), some (.own (.lst ((wishes rs vs qs).map mk))), a, c, e], none) := by
  have hzl : (rs.zip vs).length ≤ 1000 := by rw [List.length_zip]; omega
  have h := for_run (g := gTp 2 (gCns (gTp 2 (gCns (gNm 5) (gCns (gNm 6) gNl))) (gCns (gNm 4) gNl))) (ms := sApp 3 (mCall f_plus (mCons (mVar 4) (mCons (mCall f_minus (mCons (mCall f_dot (mCons (mVar 5) (mCons (mVar 2) (mPure [])))) (mCons (mCall f_dot (mCons (mVar 5) (mCons (mVar 6) (mPure [])))) (mPure [])))) (mPure [])))))
    (ds := List.zipWith (fun a b => D.tup [a, b]) rds ls)
    (P := fun fl ρ S => fl = .nx ∧ S = none ∧ ∃ a c e, ρ = [some (.imm x), some (.imm (.tup ls)), some (.imm y), some (.own (.lst ((wishes rs vs qs).map mk))), a, c, e])
    (Inv := fun k ρ S => S = none ∧ ∃ a c e, ρ = [some (.imm x), some (.imm (.tup ls)), some (.imm y), some (.own (.lst (((rs.zip vs).take k).map fun p => mk (wish1 qs p)))), a, c, e]) 0
    (fun k d ρ S hd hI => by
      rw [Nat.zero_add] at hI ⊢
      obtain ⟨rfl, a, c, e, rfl⟩ := hI
      obtain ⟨p, hp, u0, w0, rfl, ⟨u, w, rfl, hu, hw⟩, hdv⟩ := paired_get'' (paired_zip hr hn.rl) hd
      have hm := List.mem_of_getElem? hp
      have hrm := (List.of_mem_zip (show (p.1, p.2) ∈ _ from hm)).1
      have hvm := (List.of_mem_zip (show (p.1, p.2) ∈ _ from hm)).2
      obtain ⟨a1, c1, e1, h1, h2, h3, h4⟩ := wish1_ev b hu hw (hb _ hrm) hq.vec hq.ind q0 hdv (hn.ind _ hvm)
      have ht : ((rs.zip vs).take (k + 1)).map (fun p => mk (wish1 qs p)) = ((rs.zip vs).take k).map (fun p => mk (wish1 qs p)) ++ [mk (wish1 qs p)] := by
        rw [List.take_add_one, hp, List.map_append]; rfl
      have hl : (((rs.zip vs).take k).map fun p => mk (wish1 qs p)).length < 1000000 := by
        rw [List.length_map, List.length_take]; omega
      refine ⟨[some (.imm x), some (.imm (.tup ls)), some (.imm y), some (.own (.lst (((rs.zip vs).take k).map fun p => mk (wish1 qs p)))), some (.imm w0), some (.imm u), some (.imm w)], .nx, [some (.imm x), some (.imm (.tup ls)), some (.imm y), some (.own (.lst (((rs.zip vs).take (k + 1)).map fun p => mk (wish1 qs p)))), some (.imm w0), some (.imm u), some (.imm w)], none, rfl, ?_, rfl, _, _, _, rfl⟩
      rw [ht]
      simp only [runP, startL, outF, mVar, mVarB, mPure, mOp1, mOp2, mCons, mCall, mTup, mLst, mTst, asB, mNot, mAnd, mOr, mAndV, mOrV, mIte, mSeq, sSq, sIf, sRet, sSet, sSetF, sNil, sFrz, frz, sExpr, sPar2, sPar3, sAsg, mkL, gNm, gTp, gCns, gNl, D.asT, itemsD, addD_int, subD_int, ltD_int, leD_int, gtD_int, geD_int, negD_int, gcdD_int, absD_int, Option.bind_some, Option.map_some, Option.bind_none, Option.map_none, List.map_cons, List.map_nil, List.length_cons, List.length_nil, List.cons_append, List.nil_append, List.getElem?_cons_zero, List.getElem?_cons_succ, List.set_cons_zero, List.set_cons_succ, List.replicate_succ, List.replicate_zero, Nat.reduceAdd, Nat.reduceSub, Nat.reduceLeDiff, if_true, if_false, ite_true, ite_false, Bool.false_eq_true, sApp, h1, h2, h3, h4, hl])
    (fun ρ S hI => by
      rw [Nat.zero_add] at hI
      obtain ⟨rfl, a, c, e, rfl⟩ := hI
      refine ⟨rfl, rfl, a, c, e, ?_⟩
      have hlz : (List.zipWith (fun a b => D.tup [a, b]) rds ls).length = (rs.zip vs).length := by
        rw [List.length_zipWith, List.length_zip, Paired.length hr, Paired.length hn.rl]
      rw [hlz, List.take_length]
      unfold wishes
      rw [List.map_map]
      rfl) [some (.imm x), some (.imm (.tup ls)), some (.imm y), some (.own (.lst [])), none, none, none] none ⟨rfl, none, none, none, rfl⟩
  obtain ⟨fl, ρ', S', e, rfl, rfl, a, c, e', rfl⟩ := h
  exact ⟨a, c, e', e⟩
end K25
namespace K25
open PySem PyProof.Rows L2 Dv

theorem wishes_sm {E N B goods : Nat} (b : Bnd E N B) {y : D} {ls : List D} {rs : List Row} {vs qs : List Rat} (hb : ∀ r ∈ rs, RowB E N r) (hn : NumR rs E N ls vs) (hq : BunR E N goods y qs) : ∀ q ∈ wishes rs vs qs, Sm q := fun q hm => by
  obtain ⟨p, hp, rfl⟩ := List.mem_map.mp hm
  have h1 := (List.of_mem_zip (show (p.1, p.2) ∈ _ from hp)).1
  have h2 := (List.of_mem_zip (show (p.1, p.2) ∈ _ from hp)).2
  have := b.big
  exact b.b2.sm (wish_in b (hb _ h1) hq.ind (hn.ind _ h2)) (by omega)
/-- the least of the wishes -/
def wmin (rs : List Row) (vs qs : List Rat) : Rat := match wishes rs vs qs with
  | [] => 0
  | w :: ws => rmin w ws
theorem wish_ev {E N B goods : Nat} (b : Bnd E N B) {x y : D} {ls : List D} {rs : List Row} {vs qs : List Rat} (h : BudR x rs goods) (hb : ∀ r ∈ rs, RowB E N r) (hn : NumR rs E N ls vs) (hq : BunR E N goods y qs) : f_straight_wish [x, .tup ls, y] = some (mk (wmin rs vs qs)) := by
  obtain ⟨rds, ex, hr⟩ := h.ex
  have hnb := need_ev h
  have hbn := need_bundle_ev h hq
  have h8 := h.l8
  have h1 := h.l1
  have g2 := h.g2
  have q0 : qs ≠ [] := fun z => by have := hq.len; rw [z] at this; simp at this; omega
  have i1 : ixD x (.int 1) = some (.tup rds) := by rw [ex]; rfl
  have ha := are_straight_ev b hr hb hn
  have sm := wishes_sm b hb hn hq
  obtain ⟨a, c, e, eg⟩ := wish_go b (x := x) hr hb hn hq q0 (by omega)
  have s1 : sExpr (mCall f_need_budgets (mCons (mVar 0) (mPure []))) [some (.imm x), some (.imm (.tup ls)), some (.imm y), none, none, none, none] none = some (.nx, [some (.imm x), some (.imm (.tup ls)), some (.imm y), none, none, none, none], none) := by simp only [runP, startL, outF, mVar, mVarB, mPure, mOp1, mOp2, mCons, mCall, mTup, mLst, mTst, asB, mNot, mAnd, mOr, mAndV, mOrV, mIte, mSeq, sSq, sIf, sRet, sSet, sSetF, sNil, sFrz, frz, sExpr, sPar2, sPar3, sAsg, mkL, gNm, gTp, gCns, gNl, D.asT, itemsD, addD_int, subD_int, ltD_int, leD_int, gtD_int, geD_int, negD_int, gcdD_int, absD_int, Option.bind_some, Option.map_some, Option.bind_none, Option.map_none, List.map_cons, List.map_nil, List.length_cons, List.length_nil, List.cons_append, List.nil_append, List.getElem?_cons_zero, List.getElem?_cons_succ, List.set_cons_zero, List.set_cons_succ, List.replicate_succ, List.replicate_zero, Nat.reduceAdd, Nat.reduceSub, Nat.reduceLeDiff, if_true, if_false, ite_true, ite_false, Bool.false_eq_true, hnb]
  have s2 : sIf (mNot (mTst (mCall f_are_straight (mCons (mOp2 ixD (mVarB 0) (mPure (.int 1))) (mCons (mVar 1) (mPure [])))))) sNever sNil [some (.imm x), some (.imm (.tup ls)), some (.imm y), none, none, none, none] none = some (.nx, [some (.imm x), some (.imm (.tup ls)), some (.imm y), none, none, none, none], none) := by simp only [runP, startL, outF, mVar, mVarB, mPure, mOp1, mOp2, mCons, mCall, mTup, mLst, mTst, asB, mNot, mAnd, mOr, mAndV, mOrV, mIte, mSeq, sSq, sIf, sRet, sSet, sSetF, sNil, sFrz, frz, sExpr, sPar2, sPar3, sAsg, mkL, gNm, gTp, gCns, gNl, D.asT, itemsD, addD_int, subD_int, ltD_int, leD_int, gtD_int, geD_int, negD_int, gcdD_int, absD_int, Option.bind_some, Option.map_some, Option.bind_none, Option.map_none, List.map_cons, List.map_nil, List.length_cons, List.length_nil, List.cons_append, List.nil_append, List.getElem?_cons_zero, List.getElem?_cons_succ, List.set_cons_zero, List.set_cons_succ, List.replicate_succ, List.replicate_zero, Nat.reduceAdd, Nat.reduceSub, Nat.reduceLeDiff, if_true, if_false, ite_true, ite_false, Bool.false_eq_true, i1, ha, Bool.not_true]
  have s3 : sExpr (mCall f_need_bundle (mCons (mVar 0) (mCons (mVar 2) (mPure [])))) [some (.imm x), some (.imm (.tup ls)), some (.imm y), none, none, none, none] none = some (.nx, [some (.imm x), some (.imm (.tup ls)), some (.imm y), none, none, none, none], none) := by simp only [runP, startL, outF, mVar, mVarB, mPure, mOp1, mOp2, mCons, mCall, mTup, mLst, mTst, asB, mNot, mAnd, mOr, mAndV, mOrV, mIte, mSeq, sSq, sIf, sRet, sSet, sSetF, sNil, sFrz, frz, sExpr, sPar2, sPar3, sAsg, mkL, gNm, gTp, gCns, gNl, D.asT, itemsD, addD_int, subD_int, ltD_int, leD_int, gtD_int, geD_int, negD_int, gcdD_int, absD_int, Option.bind_some, Option.map_some, Option.bind_none, Option.map_none, List.map_cons, List.map_nil, List.length_cons, List.length_nil, List.cons_append, List.nil_append, List.getElem?_cons_zero, List.getElem?_cons_succ, List.set_cons_zero, List.set_cons_succ, List.replicate_succ, List.replicate_zero, Nat.reduceAdd, Nat.reduceSub, Nat.reduceLeDiff, if_true, if_false, ite_true, ite_false, Bool.false_eq_true, hbn]
  have s4 : sSetF 3 (mLst (mPure [])) [some (.imm x), some (.imm (.tup ls)), some (.imm y), none, none, none, none] none = some (.nx, [some (.imm x), some (.imm (.tup ls)), some (.imm y), some (.own (.lst [])), none, none, none], none) := rfl
  have s5 : sFor (mZip2 (mCons (mOp2 ixD (mVarB 0) (mPure (.int 1))) (mCons (mVar 1) (mPure [])))) (gTp 2 (gCns (gTp 2 (gCns (gNm 5) (gCns (gNm 6) gNl))) (gCns (gNm 4) gNl))) (sApp 3 (mCall f_plus (mCons (mVar 4) (mCons (mCall f_minus (mCons (mCall f_dot (mCons (mVar 5) (mCons (mVar 2) (mPure [])))) (mCons (mCall f_dot (mCons (mVar 5) (mCons (mVar 6) (mPure [])))) (mPure [])))) (mPure []))))) [some (.imm x), some (.imm (.tup ls)), some (.imm y), some (.own (.lst [])), none, none, none] none = some (.nx, [some (.imm x), some (.imm (.tup ls)), some (.imm y), some (.own (.lst ((wishes rs vs qs).map mk))), a, c, e], none) := by
    have ez : mZip2 (mCons (mOp2 ixD (mVarB 0) (mPure (.int 1))) (mCons (mVar 1) (mPure []))) [some (.imm x), some (.imm (.tup ls)), some (.imm y), some (.own (.lst [])), none, none, none] none = some (List.zipWith (fun a b => D.tup [a, b]) rds ls, none) := by simp only [runP, startL, outF, mVar, mVarB, mPure, mOp1, mOp2, mCons, mCall, mTup, mLst, mTst, asB, mNot, mAnd, mOr, mAndV, mOrV, mIte, mSeq, sSq, sIf, sRet, sSet, sSetF, sNil, sFrz, frz, sExpr, sPar2, sPar3, sAsg, mkL, gNm, gTp, gCns, gNl, D.asT, itemsD, addD_int, subD_int, ltD_int, leD_int, gtD_int, geD_int, negD_int, gcdD_int, absD_int, Option.bind_some, Option.map_some, Option.bind_none, Option.map_none, List.map_cons, List.map_nil, List.length_cons, List.length_nil, List.cons_append, List.nil_append, List.getElem?_cons_zero, List.getElem?_cons_succ, List.set_cons_zero, List.set_cons_succ, List.replicate_succ, List.replicate_zero, Nat.reduceAdd, Nat.reduceSub, Nat.reduceLeDiff, if_true, if_false, ite_true, ite_false, Bool.false_eq_true, mZip2, i1]
    show Option.bind (mZip2 _ _ _) _ = _
    rw [ez]
    exact eg
  have hw : ∃ w ws, wishes rs vs qs = w :: ws := by
    cases hh : wishes rs vs qs with
    | nil =>
      have := congrArg List.length hh
      unfold wishes at this
      rw [List.length_map, List.length_zip, hn.len, List.length_nil] at this
      omega
    | cons w ws => exact ⟨w, ws, rfl⟩
  obtain ⟨w, ws, hw⟩ := hw
  have hl := least_ev (w := w) (ws := ws) (by rw [← hw]; exact sm)
  have hm : wmin rs vs qs = rmin w ws := by unfold wmin; rw [hw]
  rw [hm]
  rw [hw] at s5
  have s6 : sFrz 3 (sRet (mCall f_least_of (mCons (mVar 3) (mPure [])))) [some (.imm x), some (.imm (.tup ls)), some (.imm y), some (.own (.lst ((w :: ws).map mk))), a, c, e] none = some (.rt (mk (rmin w ws)), [some (.imm x), some (.imm (.tup ls)), some (.imm y), some (.imm (.lst ((w :: ws).map mk))), a, c, e], none) := by
    show sRet _ [some (.imm x), some (.imm (.tup ls)), some (.imm y), some (.imm (.lst ((w :: ws).map mk))), a, c, e] none = _
    exact sRet_of (mCall_of (cons_of (ev_var rfl) rfl) hl)
  exact runP_rt rfl ((sSq_nx s1).trans ((sSq_nx s2).trans ((sSq_nx s3).trans ((sSq_nx s4).trans ((sSq_nx s5).trans s6)))))
end K25
namespace K25
open PySem PyProof.Rows L2 Dv

def optmin : List Rat → D
  | [] => .non
  | w :: ws => mk (rmin w ws)
theorem rmin_snoc (w : Rat) (ws : List Rat) (q : Rat) : rmin w (ws ++ [q]) = if decide (q < rmin w ws) then q else rmin w ws := by
  unfold rmin; rw [List.foldl_append]; rfl
noncomputable def lStep : MS := sSet 3 (mIte (mOr (mTst (mOp2 isD (mVarB 3) (mPure .non))) (mTst (mCall f_law_less (mCons (mVar 5) (mCons (mVar 3) (mPure [])))))) (mVar 5) (mVar 3))
theorem lstep_ev {l : List Rat} {q : Rat} (sl : ∀ p ∈ l, Sm p) (sq : Sm q) {a b c n u w : Option LV} : lStep [a, b, c, some (.imm (optmin l)), n, some (.imm (mk q)), u, w] none = some (.nx, [a, b, c, some (.imm (optmin (l ++ [q]))), n, some (.imm (mk q)), u, w], none) := by
  cases l with
  | nil =>
    show lStep [a, b, c, some (.imm .non), n, some (.imm (mk q)), u, w] none = some (.nx, [a, b, c, some (.imm (mk q)), n, some (.imm (mk q)), u, w], none)
    simp only [runP, startL, outF, mVar, mVarB, mPure, mOp1, mOp2, mCons, mCall, mTup, mLst, mTst, asB, mNot, mAnd, mOr, mAndV, mOrV, mIte, mSeq, sSq, sIf, sRet, sSet, sSetF, sNil, sFrz, frz, sExpr, sPar2, sPar3, sAsg, mkL, gNm, gTp, gCns, gNl, D.asT, itemsD, addD_int, subD_int, ltD_int, leD_int, gtD_int, geD_int, negD_int, gcdD_int, absD_int, Option.bind_some, Option.map_some, Option.bind_none, Option.map_none, List.map_cons, List.map_nil, List.length_cons, List.length_nil, List.cons_append, List.nil_append, List.getElem?_cons_zero, List.getElem?_cons_succ, List.set_cons_zero, List.set_cons_succ, List.replicate_succ, List.replicate_zero, Nat.reduceAdd, Nat.reduceSub, Nat.reduceLeDiff, if_true, if_false, ite_true, ite_false, Bool.false_eq_true, lStep, isD]
  | cons v vs =>
    have sm : Sm (rmin v vs) := by
      rcases rmin_mem vs v with e | e
      · rw [e]; exact sl v List.mem_cons_self
      · exact sl _ (List.mem_cons_of_mem _ e)
    have e := law_less_ev (isR_mk q) (isR_mk (rmin v vs)) sq sm
    have ei : isD (mk (rmin v vs)) .non = some (.bl false) := rfl
    show lStep [a, b, c, some (.imm (mk (rmin v vs))), n, some (.imm (mk q)), u, w] none = some (.nx, [a, b, c, some (.imm (mk (rmin v (vs ++ [q])))), n, some (.imm (mk q)), u, w], none)
    rw [rmin_snoc]
    cases hd : decide (q < rmin v vs) with
    | true => rw [hd] at e; simp only [runP, startL, outF, mVar, mVarB, mPure, mOp1, mOp2, mCons, mCall, mTup, mLst, mTst, asB, mNot, mAnd, mOr, mAndV, mOrV, mIte, mSeq, sSq, sIf, sRet, sSet, sSetF, sNil, sFrz, frz, sExpr, sPar2, sPar3, sAsg, mkL, gNm, gTp, gCns, gNl, D.asT, itemsD, addD_int, subD_int, ltD_int, leD_int, gtD_int, geD_int, negD_int, gcdD_int, absD_int, Option.bind_some, Option.map_some, Option.bind_none, Option.map_none, List.map_cons, List.map_nil, List.length_cons, List.length_nil, List.cons_append, List.nil_append, List.getElem?_cons_zero, List.getElem?_cons_succ, List.set_cons_zero, List.set_cons_succ, List.replicate_succ, List.replicate_zero, Nat.reduceAdd, Nat.reduceSub, Nat.reduceLeDiff, if_true, if_false, ite_true, ite_false, Bool.false_eq_true, lStep, ei, e]
    | false => rw [hd] at e; simp only [runP, startL, outF, mVar, mVarB, mPure, mOp1, mOp2, mCons, mCall, mTup, mLst, mTst, asB, mNot, mAnd, mOr, mAndV, mOrV, mIte, mSeq, sSq, sIf, sRet, sSet, sSetF, sNil, sFrz, frz, sExpr, sPar2, sPar3, sAsg, mkL, gNm, gTp, gCns, gNl, D.asT, itemsD, addD_int, subD_int, ltD_int, leD_int, gtD_int, geD_int, negD_int, gcdD_int, absD_int, Option.bind_some, Option.map_some, Option.bind_none, Option.map_none, List.map_cons, List.map_nil, List.length_cons, List.length_nil, List.cons_append, List.nil_append, List.getElem?_cons_zero, List.getElem?_cons_succ, List.set_cons_zero, List.set_cons_succ, List.replicate_succ, List.replicate_zero, Nat.reduceAdd, Nat.reduceSub, Nat.reduceLeDiff, if_true, if_false, ite_true, ite_false, Bool.false_eq_true, lStep, ei, e]
theorem law_least_ev {E N B goods : Nat} (b : Bnd E N B) {y : D} {rds ls : List D} {rs : List Row} {vs qs : List Rat} (hr : Paired RowR rds rs) (hb : ∀ r ∈ rs, RowB E N r) (hn : NumR rs E N ls vs) (hq : BunR E N goods y qs) (q0 : qs ≠ []) (h1 : 1 ≤ rs.length) : f_law_least [.tup rds, .tup ls, y] = some (mk (wmin rs vs qs)) := by
  have sm := wishes_sm b hb hn hq
  have h := for_run (g := gTp 2 (gCns (gTp 2 (gCns (gNm 6) (gCns (gNm 7) gNl))) (gCns (gNm 4) gNl))) (ms := sSq (sSet 5 (mCall f_law_plus (mCons (mVar 4) (mCons (mCall f_law_minus (mCons (mCall f_law_dot (mCons (mVar 6) (mCons (mVar 2) (mPure [])))) (mCons (mCall f_law_dot (mCons (mVar 6) (mCons (mVar 7) (mPure [])))) (mPure [])))) (mPure []))))) lStep)
    (ds := List.zipWith (fun a b => D.tup [a, b]) rds ls)
    (P := fun fl ρ S => fl = .nx ∧ S = none ∧ ∃ a c e k, ρ = [some (.imm (.tup rds)), some (.imm (.tup ls)), some (.imm y), some (.imm (optmin (wishes rs vs qs))), a, c, e, k])
    (Inv := fun k ρ S => S = none ∧ ∃ a c e z, ρ = [some (.imm (.tup rds)), some (.imm (.tup ls)), some (.imm y), some (.imm (optmin ((wishes rs vs qs).take k))), a, c, e, z]) 0
    (fun k d ρ S hd hI => by
      rw [Nat.zero_add] at hI ⊢
      obtain ⟨rfl, a, c, e, z, rfl⟩ := hI
      obtain ⟨p, hp, u0, w0, rfl, ⟨u, w, rfl, hu, hw⟩, hdv⟩ := paired_get'' (paired_zip hr hn.rl) hd
      have hm := List.mem_of_getElem? hp
      have hrm := (List.of_mem_zip (show (p.1, p.2) ∈ _ from hm)).1
      have hvm := (List.of_mem_zip (show (p.1, p.2) ∈ _ from hm)).2
      obtain ⟨a1, c1, e1, x1, x2, x3, x4⟩ := law_wish1_ev b hu hw (hb _ hrm) hq.vec hq.ind q0 hdv (hn.ind _ hvm)
      have hpk : (wishes rs vs qs)[k]? = some (wish1 qs p) := by unfold wishes; rw [List.getElem?_map, hp]; rfl
      have ht : (wishes rs vs qs).take (k + 1) = (wishes rs vs qs).take k ++ [wish1 qs p] := by
        rw [List.take_add_one, hpk]; rfl
      have es : sSet 5 (mCall f_law_plus (mCons (mVar 4) (mCons (mCall f_law_minus (mCons (mCall f_law_dot (mCons (mVar 6) (mCons (mVar 2) (mPure [])))) (mCons (mCall f_law_dot (mCons (mVar 6) (mCons (mVar 7) (mPure [])))) (mPure [])))) (mPure []))))
          [some (.imm (.tup rds)), some (.imm (.tup ls)), some (.imm y), some (.imm (optmin ((wishes rs vs qs).take k))), some (.imm w0), c, some (.imm u), some (.imm w)] none = some (.nx, [some (.imm (.tup rds)), some (.imm (.tup ls)), some (.imm y), some (.imm (optmin ((wishes rs vs qs).take k))), some (.imm w0), some (.imm (mk (wish1 qs p))), some (.imm u), some (.imm w)], none) := by
        simp only [runP, startL, outF, mVar, mVarB, mPure, mOp1, mOp2, mCons, mCall, mTup, mLst, mTst, asB, mNot, mAnd, mOr, mAndV, mOrV, mIte, mSeq, sSq, sIf, sRet, sSet, sSetF, sNil, sFrz, frz, sExpr, sPar2, sPar3, sAsg, mkL, gNm, gTp, gCns, gNl, D.asT, itemsD, addD_int, subD_int, ltD_int, leD_int, gtD_int, geD_int, negD_int, gcdD_int, absD_int, Option.bind_some, Option.map_some, Option.bind_none, Option.map_none, List.map_cons, List.map_nil, List.length_cons, List.length_nil, List.cons_append, List.nil_append, List.getElem?_cons_zero, List.getElem?_cons_succ, List.set_cons_zero, List.set_cons_succ, List.replicate_succ, List.replicate_zero, Nat.reduceAdd, Nat.reduceSub, Nat.reduceLeDiff, if_true, if_false, ite_true, ite_false, Bool.false_eq_true, x1, x2, x3, x4]
      have e2 := lstep_ev (l := (wishes rs vs qs).take k) (q := wish1 qs p) (fun q hq' => sm q (List.mem_of_mem_take hq')) (sm _ (List.mem_of_getElem? hpk)) (a := some (.imm (.tup rds))) (b := some (.imm (.tup ls))) (c := some (.imm y)) (n := some (.imm w0)) (u := some (.imm u)) (w := some (.imm w))
      rw [← ht] at e2
      exact ⟨_, .nx, _, none, rfl, (sSq_nx es).trans e2, rfl, _, _, _, _, rfl⟩)
    (fun ρ S hI => by
      rw [Nat.zero_add] at hI
      obtain ⟨rfl, a, c, e, z, rfl⟩ := hI
      refine ⟨rfl, rfl, a, c, e, z, ?_⟩
      have hlz : (List.zipWith (fun a b => D.tup [a, b]) rds ls).length = (wishes rs vs qs).length := by
        unfold wishes
        rw [List.length_zipWith, List.length_map, List.length_zip, Paired.length hr, Paired.length hn.rl]
      rw [hlz, List.take_length]) [some (.imm (.tup rds)), some (.imm (.tup ls)), some (.imm y), some (.imm .non), none, none, none, none] none ⟨rfl, none, none, none, none, rfl⟩
  obtain ⟨fl, ρ', S', e, rfl, rfl, a, c, e', k, rfl⟩ := h
  have ho : optmin (wishes rs vs qs) = mk (wmin rs vs qs) := by
    unfold wmin
    cases hh : wishes rs vs qs with
    | nil =>
      have := congrArg List.length hh
      unfold wishes at this
      rw [List.length_map, List.length_zip, hn.len, List.length_nil] at this
      omega
    | cons w ws => rfl
  rw [ho] at e
  have s1 : sSet 3 (mPure .non) [some (.imm (.tup rds)), some (.imm (.tup ls)), some (.imm y), none, none, none, none, none] none = some (.nx, [some (.imm (.tup rds)), some (.imm (.tup ls)), some (.imm y), some (.imm .non), none, none, none, none], none) := rfl
  have ez : mZip2 (mCons (mVar 0) (mCons (mVar 1) (mPure []))) [some (.imm (.tup rds)), some (.imm (.tup ls)), some (.imm y), some (.imm .non), none, none, none, none] none = some (List.zipWith (fun a b => D.tup [a, b]) rds ls, none) := rfl
  have s2 : sFor (mZip2 (mCons (mVar 0) (mCons (mVar 1) (mPure [])))) (gTp 2 (gCns (gTp 2 (gCns (gNm 6) (gCns (gNm 7) gNl))) (gCns (gNm 4) gNl))) (sSq (sSet 5 (mCall f_law_plus (mCons (mVar 4) (mCons (mCall f_law_minus (mCons (mCall f_law_dot (mCons (mVar 6) (mCons (mVar 2) (mPure [])))) (mCons (mCall f_law_dot (mCons (mVar 6) (mCons (mVar 7) (mPure [])))) (mPure [])))) (mPure []))))) lStep)
      [some (.imm (.tup rds)), some (.imm (.tup ls)), some (.imm y), some (.imm .non), none, none, none, none] none = some (.nx, [some (.imm (.tup rds)), some (.imm (.tup ls)), some (.imm y), some (.imm (mk (wmin rs vs qs))), a, c, e', k], none) := by
    show Option.bind (mZip2 _ _ _) _ = _
    rw [ez]
    exact e
  exact runP_rt (S' := none) rfl ((sSq_nx s1).trans ((sSq_nx s2).trans (sRet_of (S1 := none) (ev_var rfl))))
end K25
namespace K25
open PySem PyProof.Rows L2 Dv

theorem wmin_le {rs : List Row} {vs qs : List Rat} {p : Row × Rat} (hp : p ∈ rs.zip vs) : wmin rs vs qs ≤ wish1 qs p := by
  have hm : wish1 qs p ∈ wishes rs vs qs := List.mem_map.mpr ⟨p, hp, rfl⟩
  unfold wmin
  cases hh : wishes rs vs qs with
  | nil => rw [hh] at hm; cases hm
  | cons w ws =>
    rw [hh] at hm
    (obtain ⟨h1, h2⟩ := rmin_le ws w); rcases List.mem_cons.mp hm with e | e
    · rw [e]; exact h1
    · exact h2 _ e
theorem wmin_mem {rs : List Row} {vs qs : List Rat} {p : Row × Rat} (hp : p ∈ rs.zip vs) : ∃ q ∈ rs.zip vs, wmin rs vs qs = wish1 qs q := by
  have hm : wish1 qs p ∈ wishes rs vs qs := List.mem_map.mpr ⟨p, hp, rfl⟩
  have : wmin rs vs qs ∈ wishes rs vs qs := by
    unfold wmin
    cases hh : wishes rs vs qs with
    | nil => rw [hh] at hm; cases hm
    | cons w ws =>
      show rmin w ws ∈ w :: ws
      rcases rmin_mem ws w with e | e
      · rw [e]; exact List.mem_cons_self
      · exact List.mem_cons_of_mem _ e
  (obtain ⟨q, hq, e⟩ := List.mem_map.mp this); exact ⟨q, hq, e.symm⟩
/-- at a row's own bundle the wish is worth the row's number -/
theorem wmin_own {rs : List Row} {vs : List Rat} (hk : KeepL rs vs) {p : Row × Rat} (hp : p ∈ rs.zip vs) : wmin rs vs p.1.2 = p.2 := by
  refine Rat.le_antisymm ?_ ?_
  · have h := wmin_le (qs := p.1.2) hp
    have e : wish1 p.1.2 p = p.2 := by
      show p.2 + (rdot p.1.1 p.1.2 - rdot p.1.1 p.1.2) = p.2
      rw [Rat.sub_self, Rat.add_zero]
    rw [e] at h; exact h
  · obtain ⟨q, hq, e⟩ := wmin_mem (qs := p.1.2) hp
    rw [e]
    exact hk q hq p hp
/-- none is better with less money -/
theorem wmin_money {rs : List Row} {vs qs : List Rat} {p : Row × Rat} (hp : p ∈ rs.zip vs) : ¬ (p.2 - rdot p.1.1 p.1.2 < wmin rs vs qs - rdot p.1.1 qs) := by
  have h := wmin_le (qs := qs) hp
  have e : wish1 qs p = p.2 + (rdot p.1.1 qs - rdot p.1.1 p.1.2) := rfl
  rw [e] at h
  grind
/-- a ring and levels exclude each other -/
theorem sum_steps {n : Nat} {g : Nat → Nat → Rat} {lev : Nat → Rat} (hk : ∀ i j, i < n → j < n → lev j ≤ lev i + g i j) : ∀ (x : Nat) (r : List Nat) (z : Nat), x < n → (∀ i ∈ r, i < n) → z < n → lev z - lev x ≤ rsum (((x :: r).zip (r ++ [z])).map fun p => g p.1 p.2)
  | x, [], z, hx, _, hz => by
    have h := hk x z hx hz
    show lev z - lev x ≤ rsum [g x z]
    rw [rsum_cons]
    show lev z - lev x ≤ g x z + (0 : Rat)
    grind
  | x, y :: r, z, hx, hr, hz => by
    have h := hk x y hx (hr y List.mem_cons_self)
    have ih := sum_steps hk y r z (hr y List.mem_cons_self) (fun i hi => hr i (List.mem_cons_of_mem _ hi)) hz
    show lev z - lev x ≤ rsum (g x y :: ((y :: r).zip (r ++ [z])).map fun p => g p.1 p.2)
    rw [rsum_cons]
    grind
theorem no_both {n : Nat} {g : Nat → Nat → Rat} {lev : Nat → Rat} (hk : ∀ i j, i < n → j < n → lev j ≤ lev i + g i j) {ring : List Nat} (h : RingR n g ring) : False := by
  have h2 := h.two
  match ring, h with
  | x :: r, h =>
    have hx := h.lt x List.mem_cons_self
    have e := sum_steps hk x r x hx (fun i hi => h.lt i (List.mem_cons_of_mem _ hi)) hx
    have hl := h.less
    unfold stepsR at hl
    simp only [List.tail_cons, List.take_succ_cons, List.take_zero] at hl
    have e0 : lev x - lev x = 0 := Rat.sub_self
    rw [e0] at e
    exact absurd hl (Rat.not_lt.mpr e)
  | [], h => have := h.two; simp at this
theorem ne_rat {d : D} {q : Rat} (h : IsR d q) : neD (mk q) d = some (.bl false) := by
  have hs : SeqAt.shaped (.tuple [.int q.num, .int q.den]) = true := rfl
  have he : PyData.eqv (.tuple [.int q.num, .int q.den]) (.tuple [.int q.num, .int q.den]) = true := by simp [PyData.eqv, PyData.eqvAll]
  rcases h with rfl | rfl
  · show (if (SeqAt.shaped (.tuple [.int q.num, .int q.den]) && SeqAt.shaped (.tuple [.int q.num, .int q.den])) = true then some (D.bl (!PyData.eqv (.tuple [.int q.num, .int q.den]) (.tuple [.int q.num, .int q.den]))) else none) = _
    rw [hs, he]; rfl
  · show (if (SeqAt.shaped (.tuple [.int q.num, .int q.den]) && SeqAt.shaped (.tuple [.int q.num, .int q.den])) = true then some (D.bl (!PyData.eqv (.tuple [.int q.num, .int q.den]) (.tuple [.int q.num, .int q.den]))) else none) = _
    rw [hs, he]; rfl
end K25
namespace K25
open PySem PyProof.Rows L2 Dv

theorem eq_mk (a b : Rat) : eqD (mk a) (mk b) = some (.bl (decide (a = b))) := by
  have hs : ∀ q : Rat, SeqAt.shaped (.tuple [.int q.num, .int q.den]) = true := fun _ => rfl
  have he : PyData.eqv (.tuple [.int a.num, .int a.den]) (.tuple [.int b.num, .int b.den]) = decide (a = b) := by
    refine Bool.eq_iff_iff.mpr ?_
    simp only [PyData.eqv, PyData.eqvAll, Bool.and_eq_true, beq_iff_eq, decide_eq_true_eq, Bool.and_true]
    constructor
    · rintro ⟨h1, h2⟩
      exact Rat.ext h1 (by omega)
    · rintro rfl
      exact ⟨rfl, rfl⟩
  show (if (SeqAt.shaped (.tuple [.int a.num, .int a.den]) && SeqAt.shaped (.tuple [.int b.num, .int b.den])) = true then some (D.bl (PyData.eqv (.tuple [.int a.num, .int a.den]) (.tuple [.int b.num, .int b.den]))) else none) = _
  rw [hs, hs, he]; rfl
def pD (p : Nat × Nat) : D := .tup [.int (p.1 : Nat), .int (p.2 : Nat)]
structure PairsR (rs : List Row) (strict : Bool) (L : List (Nat × Nat)) (k : Nat) : Prop where
  len : L.length ≤ k
  ok : ∀ p ∈ L, p.1 < rs.length ∧ p.2 < rs.length ∧ gap rs p.1 p.2 ≤ 0 ∧ (strict = true → gap rs p.1 p.2 < 0)
noncomputable def pBody : MS := (sIf (mAnd (mTst (mOp2 neD (mVarB 2) (mVarB 5))) (mOr (mTst (mCall f_law_less (mCons (mOp2 ixD (mOp2 ixD (mVarB 3) (mVarB 2)) (mVarB 5)) (mCons (mOp2 ixD (mOp2 ixD (mVarB 3) (mVarB 2)) (mVarB 2)) (mPure []))))) (mAnd (mNot (mTst (mVar 1))) (mTst (mOp2 eqD (mOp2 ixD (mOp2 ixD (mVarB 3) (mVarB 2)) (mVarB 5)) (mOp2 ixD (mOp2 ixD (mVarB 3) (mVarB 2)) (mVarB 2))))))) (sApp 4 (mTup (mCons (mVar 2) (mCons (mVar 5) (mPure []))))) sNil)
theorem pbody_ev {E N B : Nat} (b : Bnd E N B) {t : D} {rs : List Row} (hb : ∀ r ∈ rs, RowB E N r) {strict : Bool} {L : List (Nat × Nat)} {k i j : Nat} (hk : k ≤ 10000) (h : PairsR rs strict L k) (hi : i < rs.length) (hj : j < rs.length) :
    ∃ L', pBody [some (.imm t), some (.imm (.bl strict)), some (.imm (.int (i : Nat))), some (.imm (costsD rs)), some (.own (.lst (L.map pD))), some (.imm (.int (j : Nat)))] none = some (.nx, [some (.imm t), some (.imm (.bl strict)), some (.imm (.int (i : Nat))), some (.imm (costsD rs)), some (.own (.lst (L'.map pD))), some (.imm (.int (j : Nat)))], none) ∧ PairsR rs strict L' (k + 1) := by
  have ei : rs[i]? = some rs[i] := List.getElem?_eq_getElem hi
  have ej : rs[j]? = some rs[j] := List.getElem?_eq_getElem hj
  have big := b.big
  have hri := hb _ (List.mem_of_getElem? ei)
  have hrj := hb _ (List.mem_of_getElem? ej)
  have s1 : Sm (cst rs[i] rs[j]) := b.b2.sm (cst_in b hri hrj) (by omega)
  have s2 : Sm (cst rs[i] rs[i]) := b.b2.sm (cst_in b hri hri) (by omega)
  have x1 : ixD (costsD rs) (.int (i : Nat)) = some (.lst (rs.map fun s => mk (cst rs[i] s))) := ix_nat rfl (by rw [List.getElem?_map, ei]; rfl)
  have x2 : ixD (.lst (rs.map fun s => mk (cst rs[i] s))) (.int (j : Nat)) = some (mk (cst rs[i] rs[j])) := ix_nat rfl (by rw [List.getElem?_map, ej]; rfl)
  have x3 : ixD (.lst (rs.map fun s => mk (cst rs[i] s))) (.int (i : Nat)) = some (mk (cst rs[i] rs[i])) := ix_nat rfl (by rw [List.getElem?_map, ei]; rfl)
  have el := law_less_ev (isR_mk (cst rs[i] rs[j])) (isR_mk (cst rs[i] rs[i])) s1 s2
  have eq := eq_mk (cst rs[i] rs[j]) (cst rs[i] rs[i])
  have hgap : gap rs i j = cst rs[i] rs[j] - cst rs[i] rs[i] := by unfold gap; rw [ei, ej]
  have hlen : (L.map pD).length < 1000000 := by rw [List.length_map]; have := h.len; omega
  have keep : PairsR rs strict L (k + 1) := ⟨by have := h.len; omega, h.ok⟩
  have add : gap rs i j ≤ 0 → (strict = true → gap rs i j < 0) → PairsR rs strict (L ++ [(i, j)]) (k + 1) := fun h1 h2 => ⟨by have := h.len; simp; omega, fun p hp => by
    (rcases List.mem_append.mp hp with hp | hp)
    · exact h.ok p hp
    · rw [List.mem_singleton.mp hp]; exact ⟨hi, hj, h1, h2⟩⟩
  have hap : L.map pD ++ [.tup [.int (i : Nat), .int (j : Nat)]] = (L ++ [(i, j)]).map pD := by rw [List.map_append]; rfl
  by_cases hij : (i : Int) = (j : Int)
  · refine ⟨L, ?_, keep⟩
    simp only [runP, startL, outF, mVar, mVarB, mPure, mOp1, mOp2, mCons, mCall, mTup, mLst, mTst, asB, mNot, mAnd, mOr, mAndV, mOrV, mIte, mSeq, sSq, sIf, sRet, sSet, sSetF, sNil, sFrz, frz, sExpr, sPar2, sPar3, sAsg, mkL, gNm, gTp, gCns, gNl, D.asT, itemsD, addD_int, subD_int, ltD_int, leD_int, gtD_int, geD_int, negD_int, gcdD_int, absD_int, Option.bind_some, Option.map_some, Option.bind_none, Option.map_none, List.map_cons, List.map_nil, List.length_cons, List.length_nil, List.cons_append, List.nil_append, List.getElem?_cons_zero, List.getElem?_cons_succ, List.set_cons_zero, List.set_cons_succ, List.replicate_succ, List.replicate_zero, Nat.reduceAdd, Nat.reduceSub, Nat.reduceLeDiff, if_true, if_false, ite_true, ite_false, Bool.false_eq_true, pBody, neD_int, hij, ne_eq, not_true_eq_false, decide_false]
  · by_cases hlt : cst rs[i] rs[j] < cst rs[i] rs[i]
    · refine ⟨L ++ [(i, j)], ?_, add (by rw [hgap]; grind) fun _ => by rw [hgap]; grind⟩
      simp only [hlt, decide_true] at el
      rw [← hap]
      simp only [runP, startL, outF, mVar, mVarB, mPure, mOp1, mOp2, mCons, mCall, mTup, mLst, mTst, asB, mNot, mAnd, mOr, mAndV, mOrV, mIte, mSeq, sSq, sIf, sRet, sSet, sSetF, sNil, sFrz, frz, sExpr, sPar2, sPar3, sAsg, mkL, gNm, gTp, gCns, gNl, D.asT, itemsD, addD_int, subD_int, ltD_int, leD_int, gtD_int, geD_int, negD_int, gcdD_int, absD_int, Option.bind_some, Option.map_some, Option.bind_none, Option.map_none, List.map_cons, List.map_nil, List.length_cons, List.length_nil, List.cons_append, List.nil_append, List.getElem?_cons_zero, List.getElem?_cons_succ, List.set_cons_zero, List.set_cons_succ, List.replicate_succ, List.replicate_zero, Nat.reduceAdd, Nat.reduceSub, Nat.reduceLeDiff, if_true, if_false, ite_true, ite_false, Bool.false_eq_true, pBody, neD_int, hij, ne_eq, not_false_eq_true, decide_true, x1, x2, x3, el, sApp, hlen]
    · simp only [hlt, decide_false] at el
      cases hst : strict with
      | true =>
        refine ⟨L, ?_, by rw [← hst]; exact keep⟩
        simp only [runP, startL, outF, mVar, mVarB, mPure, mOp1, mOp2, mCons, mCall, mTup, mLst, mTst, asB, mNot, mAnd, mOr, mAndV, mOrV, mIte, mSeq, sSq, sIf, sRet, sSet, sSetF, sNil, sFrz, frz, sExpr, sPar2, sPar3, sAsg, mkL, gNm, gTp, gCns, gNl, D.asT, itemsD, addD_int, subD_int, ltD_int, leD_int, gtD_int, geD_int, negD_int, gcdD_int, absD_int, Option.bind_some, Option.map_some, Option.bind_none, Option.map_none, List.map_cons, List.map_nil, List.length_cons, List.length_nil, List.cons_append, List.nil_append, List.getElem?_cons_zero, List.getElem?_cons_succ, List.set_cons_zero, List.set_cons_succ, List.replicate_succ, List.replicate_zero, Nat.reduceAdd, Nat.reduceSub, Nat.reduceLeDiff, if_true, if_false, ite_true, ite_false, Bool.false_eq_true, pBody, neD_int, hij, ne_eq, not_false_eq_true, decide_true, x1, x2, x3, el, Bool.not_true]
      | false =>
        by_cases heq : cst rs[i] rs[j] = cst rs[i] rs[i]
        · refine ⟨L ++ [(i, j)], ?_, by rw [← hst]; exact add (by rw [hgap, heq, Rat.sub_self]; exact Rat.le_refl) fun z => by rw [hst] at z; cases z⟩
          simp only [heq, decide_true] at eq x2 el
          rw [← hap]
          simp only [runP, startL, outF, mVar, mVarB, mPure, mOp1, mOp2, mCons, mCall, mTup, mLst, mTst, asB, mNot, mAnd, mOr, mAndV, mOrV, mIte, mSeq, sSq, sIf, sRet, sSet, sSetF, sNil, sFrz, frz, sExpr, sPar2, sPar3, sAsg, mkL, gNm, gTp, gCns, gNl, D.asT, itemsD, addD_int, subD_int, ltD_int, leD_int, gtD_int, geD_int, negD_int, gcdD_int, absD_int, Option.bind_some, Option.map_some, Option.bind_none, Option.map_none, List.map_cons, List.map_nil, List.length_cons, List.length_nil, List.cons_append, List.nil_append, List.getElem?_cons_zero, List.getElem?_cons_succ, List.set_cons_zero, List.set_cons_succ, List.replicate_succ, List.replicate_zero, Nat.reduceAdd, Nat.reduceSub, Nat.reduceLeDiff, if_true, if_false, ite_true, ite_false, Bool.false_eq_true, pBody, neD_int, hij, ne_eq, not_false_eq_true, decide_true, x1, x2, x3, el, Bool.not_false, eq, sApp, hlen]
        · refine ⟨L, ?_, by rw [← hst]; exact keep⟩
          simp only [heq, decide_false] at eq
          simp only [runP, startL, outF, mVar, mVarB, mPure, mOp1, mOp2, mCons, mCall, mTup, mLst, mTst, asB, mNot, mAnd, mOr, mAndV, mOrV, mIte, mSeq, sSq, sIf, sRet, sSet, sSetF, sNil, sFrz, frz, sExpr, sPar2, sPar3, sAsg, mkL, gNm, gTp, gCns, gNl, D.asT, itemsD, addD_int, subD_int, ltD_int, leD_int, gtD_int, geD_int, negD_int, gcdD_int, absD_int, Option.bind_some, Option.map_some, Option.bind_none, Option.map_none, List.map_cons, List.map_nil, List.length_cons, List.length_nil, List.cons_append, List.nil_append, List.getElem?_cons_zero, List.getElem?_cons_succ, List.set_cons_zero, List.set_cons_succ, List.replicate_succ, List.replicate_zero, Nat.reduceAdd, Nat.reduceSub, Nat.reduceLeDiff, if_true, if_false, ite_true, ite_false, Bool.false_eq_true, pBody, neD_int, hij, ne_eq, not_false_eq_true, decide_true, x1, x2, x3, el, Bool.not_false, eq]
end K25
namespace K25
open PySem PyProof.Rows L2 Dv

theorem pairs_ev {E N B : Nat} (b : Bnd E N B) {rds : List D} {rs : List Row} (hr : Paired RowR rds rs) (hb : ∀ r ∈ rs, RowB E N r) (h8 : rs.length ≤ 8) (strict : Bool) :
    ∃ L, f_law_bu_pairs [.tup rds, .bl strict] = some (.lst (L.map pD)) ∧ PairsR rs strict L 64 := by
  have hl1 : rds.length = rs.length := Paired.length hr
  have hc := law_costs_ev b hr hb
  have inner : ∀ {L : List (Nat × Nat)} {k i : Nat} {z : Option LV}, k ≤ 1000 → PairsR rs strict L k → i < rs.length →
      ∃ L' z', sFor (mRg1 (mCons (mCall lenD (mCons (mVarB 0) (mPure []))) (mPure []))) (gNm 5) pBody [some (.imm (.tup rds)), some (.imm (.bl strict)), some (.imm (.int (i : Nat))), some (.imm (costsD rs)), some (.own (.lst (L.map pD))), z] none = some (.nx, [some (.imm (.tup rds)), some (.imm (.bl strict)), some (.imm (.int (i : Nat))), some (.imm (costsD rs)), some (.own (.lst (L'.map pD))), z'], none) ∧ PairsR rs strict L' (k + rs.length) := fun {L k i z} hk hL hi => by
    have h := for_run (g := gNm 5) (ms := pBody) (ds := rangeL 0 rs.length)
      (P := fun fl ρ S => fl = .nx ∧ S = none ∧ ∃ L' z', ρ = [some (.imm (.tup rds)), some (.imm (.bl strict)), some (.imm (.int (i : Nat))), some (.imm (costsD rs)), some (.own (.lst (L'.map pD))), z'] ∧ PairsR rs strict L' (k + rs.length))
      (Inv := fun m ρ S => S = none ∧ m ≤ rs.length ∧ ∃ L' z', ρ = [some (.imm (.tup rds)), some (.imm (.bl strict)), some (.imm (.int (i : Nat))), some (.imm (costsD rs)), some (.own (.lst (L'.map pD))), z'] ∧ PairsR rs strict L' (k + m)) 0
      (fun m d ρ S hd hI => by
        rw [Nat.zero_add] at hI ⊢
        obtain ⟨rfl, hm, L', z', rfl, hL'⟩ := hI
        obtain ⟨hmn, rfl⟩ := rangeL_get hd
        obtain ⟨L2, e, h2⟩ := pbody_ev (t := .tup rds) b hb (by omega) hL' hi hmn
        exact ⟨_, _, _, _, rfl, e, rfl, hmn, L2, _, rfl, h2⟩)
      (fun ρ S hI => by
        rw [Nat.zero_add, rangeL_len] at hI
        obtain ⟨rfl, _, L', z', rfl, hL'⟩ := hI
        exact ⟨rfl, rfl, L', z', rfl, hL'⟩) [some (.imm (.tup rds)), some (.imm (.bl strict)), some (.imm (.int (i : Nat))), some (.imm (costsD rs)), some (.own (.lst (L.map pD))), z] none ⟨rfl, Nat.zero_le _, L, z, rfl, hL⟩
    obtain ⟨fl, ρ', S', e, rfl, rfl, L', z', rfl, h'⟩ := h
    refine ⟨L', z', ?_, h'⟩
    have er : mRg1 (mCons (mCall lenD (mCons (mVarB 0) (mPure []))) (mPure [])) [some (.imm (.tup rds)), some (.imm (.bl strict)), some (.imm (.int (i : Nat))), some (.imm (costsD rs)), some (.own (.lst (L.map pD))), z] none = some (rangeL 0 rs.length, none) := rg1_nat (by simp only [runP, startL, outF, mVar, mVarB, mPure, mOp1, mOp2, mCons, mCall, mTup, mLst, mTst, asB, mNot, mAnd, mOr, mAndV, mOrV, mIte, mSeq, sSq, sIf, sRet, sSet, sSetF, sNil, sFrz, frz, sExpr, sPar2, sPar3, sAsg, mkL, gNm, gTp, gCns, gNl, D.asT, itemsD, addD_int, subD_int, ltD_int, leD_int, gtD_int, geD_int, negD_int, gcdD_int, absD_int, Option.bind_some, Option.map_some, Option.bind_none, Option.map_none, List.map_cons, List.map_nil, List.length_cons, List.length_nil, List.cons_append, List.nil_append, List.getElem?_cons_zero, List.getElem?_cons_succ, List.set_cons_zero, List.set_cons_succ, List.replicate_succ, List.replicate_zero, Nat.reduceAdd, Nat.reduceSub, Nat.reduceLeDiff, if_true, if_false, ite_true, ite_false, Bool.false_eq_true, len_items (d := .tup rds) rfl, hl1]) (by omega)
    show Option.bind (mRg1 _ _ _) _ = _
    rw [er]
    exact e
  have h := for_run (g := gNm 2) (ms := sFor (mRg1 (mCons (mCall lenD (mCons (mVarB 0) (mPure []))) (mPure []))) (gNm 5) pBody) (ds := rangeL 0 rs.length)
    (P := fun fl ρ S => fl = .nx ∧ S = none ∧ ∃ L' y z', ρ = [some (.imm (.tup rds)), some (.imm (.bl strict)), y, some (.imm (costsD rs)), some (.own (.lst (L'.map pD))), z'] ∧ PairsR rs strict L' (rs.length * rs.length))
    (Inv := fun m ρ S => S = none ∧ m ≤ rs.length ∧ ∃ L' y z', ρ = [some (.imm (.tup rds)), some (.imm (.bl strict)), y, some (.imm (costsD rs)), some (.own (.lst (L'.map pD))), z'] ∧ PairsR rs strict L' (m * rs.length)) 0
    (fun m d ρ S hd hI => by
      rw [Nat.zero_add] at hI ⊢
      obtain ⟨rfl, hm, L', y, z', rfl, hL'⟩ := hI
      obtain ⟨hmn, rfl⟩ := rangeL_get hd
      have hb2 : m * rs.length ≤ 8 * 8 := Nat.mul_le_mul (by omega) h8
      obtain ⟨L2, z2, e, h2⟩ := inner (z := z') (by omega) hL' hmn
      exact ⟨_, _, _, _, rfl, e, rfl, hmn, L2, _, z2, rfl, by rw [Nat.succ_mul]; exact h2⟩)
    (fun ρ S hI => by
      rw [Nat.zero_add, rangeL_len] at hI
      obtain ⟨rfl, _, L', y, z', rfl, hL'⟩ := hI
      exact ⟨rfl, rfl, L', y, z', rfl, hL'⟩) [some (.imm (.tup rds)), some (.imm (.bl strict)), none, some (.imm (costsD rs)), some (.own (.lst [])), none] none ⟨rfl, Nat.zero_le _, [], none, none, rfl, ⟨by simp, fun p hp => by cases hp⟩⟩
  obtain ⟨fl, ρ', S', e, rfl, rfl, L', y, z', rfl, h'⟩ := h
  have h64 : rs.length * rs.length ≤ 8 * 8 := Nat.mul_le_mul h8 h8
  refine ⟨L', ?_, ⟨by have := h'.len; omega, h'.ok⟩⟩
  have s1 : sPar2 3 4 false (mCall f_law_bu_costs (mCons (mVar 0) (mPure []))) true (mLst (mPure [])) [some (.imm (.tup rds)), some (.imm (.bl strict)), none, none, none, none] none = some (.nx, [some (.imm (.tup rds)), some (.imm (.bl strict)), none, some (.imm (costsD rs)), some (.own (.lst [])), none], none) :=
    sPar2_of (mCall_of (cons_of (ev_var rfl) rfl) hc) rfl
  have er : mRg1 (mCons (mCall lenD (mCons (mVarB 0) (mPure []))) (mPure [])) [some (.imm (.tup rds)), some (.imm (.bl strict)), none, some (.imm (costsD rs)), some (.own (.lst [])), none] none = some (rangeL 0 rs.length, none) := rg1_nat (by simp only [runP, startL, outF, mVar, mVarB, mPure, mOp1, mOp2, mCons, mCall, mTup, mLst, mTst, asB, mNot, mAnd, mOr, mAndV, mOrV, mIte, mSeq, sSq, sIf, sRet, sSet, sSetF, sNil, sFrz, frz, sExpr, sPar2, sPar3, sAsg, mkL, gNm, gTp, gCns, gNl, D.asT, itemsD, addD_int, subD_int, ltD_int, leD_int, gtD_int, geD_int, negD_int, gcdD_int, absD_int, Option.bind_some, Option.map_some, Option.bind_none, Option.map_none, List.map_cons, List.map_nil, List.length_cons, List.length_nil, List.cons_append, List.nil_append, List.getElem?_cons_zero, List.getElem?_cons_succ, List.set_cons_zero, List.set_cons_succ, List.replicate_succ, List.replicate_zero, Nat.reduceAdd, Nat.reduceSub, Nat.reduceLeDiff, if_true, if_false, ite_true, ite_false, Bool.false_eq_true, len_items (d := .tup rds) rfl, hl1]) (by omega)
  have s2 : sFor (mRg1 (mCons (mCall lenD (mCons (mVarB 0) (mPure []))) (mPure []))) (gNm 2) (sFor (mRg1 (mCons (mCall lenD (mCons (mVarB 0) (mPure []))) (mPure []))) (gNm 5) pBody) [some (.imm (.tup rds)), some (.imm (.bl strict)), none, some (.imm (costsD rs)), some (.own (.lst [])), none] none = some (.nx, [some (.imm (.tup rds)), some (.imm (.bl strict)), y, some (.imm (costsD rs)), some (.own (.lst (L'.map pD))), z'], none) := by
    show Option.bind (mRg1 _ _ _) _ = _
    rw [er]
    exact e
  have s3 : sFrz 4 (sRet (mVar 4)) [some (.imm (.tup rds)), some (.imm (.bl strict)), y, some (.imm (costsD rs)), some (.own (.lst (L'.map pD))), z'] none = some (.rt (.lst (L'.map pD)), [some (.imm (.tup rds)), some (.imm (.bl strict)), y, some (.imm (costsD rs)), some (.imm (.lst (L'.map pD))), z'], none) := rfl
  exact runP_rt rfl ((sSq_nx s1).trans ((sSq_nx s2).trans s3))
end K25
namespace K25
open PySem PyProof.Rows L2 Dv

abbrev kP2 (p : Nat × Nat) : List Key := [.inl (p.1 : Int), .inl (p.2 : Int)]
theorem kP2_inj {p q : Nat × Nat} (h : kP2 p = kP2 q) : p = q := by
  simp only [List.cons.injEq, Sum.inl.injEq, and_true] at h
  exact Prod.ext (by omega) (by omega)
def enc (M : List (Nat × Nat)) : List (List Key × D) := M.map fun p => (kP2 p, .bl true)
def ins (M : List (Nat × Nat)) (p : Nat × Nat) : List (Nat × Nat) := if p ∈ M then M else M ++ [p]
theorem enc_any (M : List (Nat × Nat)) (p : Nat × Nat) : ((enc M).any fun kv => decide (kv.1 = kP2 p)) = decide (p ∈ M) := by
  refine Bool.eq_iff_iff.mpr ?_
  simp only [enc, List.any_map, List.any_eq_true, Function.comp, decide_eq_true_eq]
  constructor
  · rintro ⟨q, hq, e⟩
    rw [← kP2_inj e]; exact hq
  · intro h
    exact ⟨p, h, rfl⟩
theorem putG_enc (M : List (Nat × Nat)) (p : Nat × Nat) : putG (enc M) (kP2 p) (.bl true) = enc (ins M p) := by
  unfold putG ins
  rw [enc_any]
  by_cases h : p ∈ M
  · simp only [h, decide_true, if_true]
    unfold enc
    rw [List.map_map]
    refine List.map_congr_left fun q _ => ?_
    simp only [Function.comp]
    split
    · rfl
    · rfl
  · simp only [h, decide_false, Bool.false_eq_true, if_false]
    unfold enc
    rw [List.map_append]; rfl
/-- links: different pairs below n, each going down -/
structure LinkR (n : Nat) (lev : Nat → Rat) (M : List (Nat × Nat)) : Prop where
  nd : M.Nodup
  lt : ∀ p ∈ M, p.1 < n ∧ p.2 < n
  le : ∀ p ∈ M, lev p.2 ≤ lev p.1
theorem LinkR.ins {n : Nat} {lev : Nat → Rat} {M : List (Nat × Nat)} (h : LinkR n lev M) {p : Nat × Nat} (h1 : p.1 < n ∧ p.2 < n) (h2 : lev p.2 ≤ lev p.1) : LinkR n lev (ins M p) := by
  unfold K25.ins
  split
  · exact h
  · rename_i hp
    refine ⟨?_, fun q hq => ?_, fun q hq => ?_⟩
    · rw [List.nodup_append]
      refine ⟨h.nd, by simp, fun a ha b hb => ?_⟩
      rw [List.mem_singleton.mp hb]
      exact fun z => hp (z ▸ ha)
    · (rcases List.mem_append.mp hq with hq | hq)
      · exact h.lt q hq
      · rw [List.mem_singleton.mp hq]; exact h1
    · (rcases List.mem_append.mp hq with hq | hq)
      · exact h.le q hq
      · rw [List.mem_singleton.mp hq]; exact h2
theorem LinkR.len {n : Nat} {lev : Nat → Rat} {M : List (Nat × Nat)} (h : LinkR n lev M) (h8 : n ≤ 8) : M.length ≤ 64 := by
  have h1 : (M.map fun p => p.1 * 8 + p.2).Nodup := by
    have := h.nd
    rw [List.nodup_iff_pairwise_ne] at this ⊢
    refine List.pairwise_map.mpr (this.imp_of_mem fun {a b} ha hb hab e => hab ?_)
    have ha := h.lt a ha
    have hb := h.lt b hb
    exact Prod.ext (by omega) (by omega)
  have h2 := BF.nodup_len 64 h1 fun x hx => by
    obtain ⟨p, hp, rfl⟩ := List.mem_map.mp hx
    have := h.lt p hp
    omega
  simpa using h2
/-- the loop that stores: for step in list: links[step] = True -/
theorem put_go {n : Nat} {lev : Nat → Rat} (h8 : n ≤ 8) {a0 a2 a3 a4 a6 a7 a8 a9 a10 a11 : Option LV} : ∀ (L : List (Nat × Nat)) (M : List (Nat × Nat)) (z : Option LV), LinkR n lev M → (∀ p ∈ L, (p.1 < n ∧ p.2 < n) ∧ lev p.2 ≤ lev p.1) →
    ∃ M' z', forGo (gNm 1) (sPut 5 (mPure (.bl true)) (mVar 1)) (L.map pD) [a0, z, a2, a3, a4, some (.own (.dT (enc M))), a6, a7, a8, a9, a10, a11] none = some (.nx, [a0, z', a2, a3, a4, some (.own (.dT (enc M'))), a6, a7, a8, a9, a10, a11], none) ∧ LinkR n lev M'
  | [], M, z, h, _ => ⟨M, z, rfl, h⟩
  | p :: L, M, z, h, hp => by
    have hl : (enc M).length < 1000000 := by have := h.len h8; unfold enc; rw [List.length_map]; omega
    obtain ⟨M', z', e, h'⟩ := put_go h8 L (ins M p) (some (.imm (pD p))) (h.ins (hp p List.mem_cons_self).1 (hp p List.mem_cons_self).2) fun q hq => hp q (List.mem_cons_of_mem _ hq)
    refine ⟨M', z', ?_, h'⟩
    rw [← e]
    have hk : keysD [D.int (p.1 : Nat), D.int (p.2 : Nat)] = some (kP2 p) := rfl
    show Option.bind (gNm 1 (pD p) _) _ = _
    simp only [gNm, Option.bind_some]
    have es : sPut 5 (mPure (.bl true)) (mVar 1) [a0, some (.imm (pD p)), a2, a3, a4, some (.own (.dT (enc M))), a6, a7, a8, a9, a10, a11] none = some (.nx, [a0, some (.imm (pD p)), a2, a3, a4, some (.own (.dT (enc (ins M p)))), a6, a7, a8, a9, a10, a11], none) := by
      rw [← putG_enc]
      unfold sPut pD
      simp only [runP, startL, outF, mVar, mVarB, mPure, mOp1, mOp2, mCons, mCall, mTup, mLst, mTst, asB, mNot, mAnd, mOr, mAndV, mOrV, mIte, mSeq, sSq, sIf, sRet, sSet, sSetF, sNil, sFrz, frz, sExpr, sPar2, sPar3, sAsg, mkL, gNm, gTp, gCns, gNl, D.asT, itemsD, addD_int, subD_int, ltD_int, leD_int, gtD_int, geD_int, negD_int, gcdD_int, absD_int, Option.bind_some, Option.map_some, Option.bind_none, Option.map_none, List.map_cons, List.map_nil, List.length_cons, List.length_nil, List.cons_append, List.nil_append, List.getElem?_cons_zero, List.getElem?_cons_succ, List.set_cons_zero, List.set_cons_succ, List.replicate_succ, List.replicate_zero, Nat.reduceAdd, Nat.reduceSub, Nat.reduceLeDiff, if_true, if_false, ite_true, ite_false, Bool.false_eq_true, hk, hl]
    have es' : sPut 5 (mPure (.bl true)) (mVar 1) (List.set [a0, z, a2, a3, a4, some (LV.own (.dT (enc M))), a6, a7, a8, a9, a10, a11] 1 (some (LV.imm (pD p)))) none = _ := es
    rw [es']
    rfl
end K25
namespace K25
open PySem PyProof.Rows L2 Dv

def cI (p : Nat × Nat) : Int × Int := ((p.1 : Int), (p.2 : Int))
theorem keyPs_enc : ∀ M : List (Nat × Nat), keyPs (enc M) = some (M.map cI)
  | [] => rfl
  | p :: M => by
    show (keyPs (enc M)).map _ = _
    rw [keyPs_enc M]; rfl
theorem sort_ev {M : List (Nat × Nat)} (hl : M.length ≤ 1000) : ∃ M2 : List (Nat × Nat), sortDT [.dT (enc M)] = some (.lst (M2.map pD)) ∧ (∀ p ∈ M2, p ∈ M) ∧ M2.length = M.length := by
  have hm : ∀ q ∈ sortPs (M.map cI), ∃ p ∈ M, cI p = q := fun q hq => by
    have := (sortPs_perm (M.map cI)).mem_iff.mp hq
    obtain ⟨p, hp, e⟩ := List.mem_map.mp this
    exact ⟨p, hp, e⟩
  refine ⟨(sortPs (M.map cI)).map fun q => (q.1.toNat, q.2.toNat), ?_, fun p hp => ?_, ?_⟩
  · unfold sortDT
    have hz : (enc M).length ≤ 1000000 := by unfold enc; rw [List.length_map]; omega
    simp only [keyPs_enc, Option.bind_some]
    rw [if_pos hz, List.map_map]
    congr 2
    refine List.map_congr_left fun q hq => ?_
    obtain ⟨p, _, rfl⟩ := hm q hq
    rfl
  · obtain ⟨q, hq, rfl⟩ := List.mem_map.mp hp
    obtain ⟨p, hpm, rfl⟩ := hm q hq
    exact hpm
  · rw [List.length_map, (sortPs_perm _).length_eq, List.length_map]
theorem addL_ev {xs ys : List D} (hl : xs.length + ys.length ≤ 100000) : addL (.lst xs) (.lst ys) = some (.lst (xs ++ ys)) := by
  have hz : xs.length + ys.length ≤ sizeLine := Nat.le_trans hl (by decide)
  unfold addL
  dsimp only
  rw [if_pos hz]
/-- the steps further on: more = more + [(one, far) for begin, far in pairs if begin == near] -/
def mMore : MS := sSet 6 (mOp2 addL (mVarB 6) (mLc (mSeq (mVar 3)) [10, 11] (gTp 2 (gCns (gNm 10) (gCns (gNm 11) gNl))) (mTst (mOp2 eqD (mVarB 10) (mVarB 8))) (mTup (mCons (mVar 7) (mCons (mVar 11) (mPure []))))))
theorem more_ev {P More : List (Nat × Nat)} {one near : Nat} (hl : More.length + P.length ≤ 50000) {a0 a1 a2 a4 a5 a9 a10 a11 : Option LV} :
    mMore [a0, a1, a2, some (.imm (.lst (P.map pD))), a4, a5, some (.imm (.lst (More.map pD))), some (.imm (.int (one : Nat))), some (.imm (.int (near : Nat))), a9, a10, a11] none =
      some (.nx, [a0, a1, a2, some (.imm (.lst (P.map pD))), a4, a5, some (.imm (.lst ((More ++ (P.filter fun p => decide ((p.1 : Int) = (near : Int))).map fun p => (one, p.2)).map pD))), some (.imm (.int (one : Nat))), some (.imm (.int (near : Nat))), a9, a10, a11], none) := by
  have el := lc_if (g := gTp 2 (gCns (gNm 10) (gCns (gNm 11) gNl))) (t := mTst (mOp2 eqD (mVarB 10) (mVarB 8))) (m := mTup (mCons (mVar 7) (mCons (mVar 11) (mPure [])))) (S := none)
    (ρ := [a0, a1, a2, some (.imm (.lst (P.map pD))), a4, a5, some (.imm (.lst (More.map pD))), some (.imm (.int (one : Nat))), some (.imm (.int (near : Nat))), a9, none, none]) (R := fun d p => d = pD p) (fun p : Nat × Nat => decide ((p.1 : Int) = (near : Int))) (fun p => pD (one, p.2)) (paired_mapL (α := Nat × Nat) (e := pD) (fun _ => rfl) P) fun d p hd hm => by
      subst hd
      refine ⟨[a0, a1, a2, some (.imm (.lst (P.map pD))), a4, a5, some (.imm (.lst (More.map pD))), some (.imm (.int (one : Nat))), some (.imm (.int (near : Nat))), a9, some (.imm (.int (p.1 : Nat))), some (.imm (.int (p.2 : Nat)))], rfl, ?_, fun _ => ?_⟩
      · simp only [runP, startL, outF, mVar, mVarB, mPure, mOp1, mOp2, mCons, mCall, mTup, mLst, mTst, asB, mNot, mAnd, mOr, mAndV, mOrV, mIte, mSeq, sSq, sIf, sRet, sSet, sSetF, sNil, sFrz, frz, sExpr, sPar2, sPar3, sAsg, mkL, gNm, gTp, gCns, gNl, D.asT, itemsD, addD_int, subD_int, ltD_int, leD_int, gtD_int, geD_int, negD_int, gcdD_int, absD_int, Option.bind_some, Option.map_some, Option.bind_none, Option.map_none, List.map_cons, List.map_nil, List.length_cons, List.length_nil, List.cons_append, List.nil_append, List.getElem?_cons_zero, List.getElem?_cons_succ, List.set_cons_zero, List.set_cons_succ, List.replicate_succ, List.replicate_zero, Nat.reduceAdd, Nat.reduceSub, Nat.reduceLeDiff, if_true, if_false, ite_true, ite_false, Bool.false_eq_true, eqD_int]
      · simp only [runP, startL, outF, mVar, mVarB, mPure, mOp1, mOp2, mCons, mCall, mTup, mLst, mTst, asB, mNot, mAnd, mOr, mAndV, mOrV, mIte, mSeq, sSq, sIf, sRet, sSet, sSetF, sNil, sFrz, frz, sExpr, sPar2, sPar3, sAsg, mkL, gNm, gTp, gCns, gNl, D.asT, itemsD, addD_int, subD_int, ltD_int, leD_int, gtD_int, geD_int, negD_int, gcdD_int, absD_int, Option.bind_some, Option.map_some, Option.bind_none, Option.map_none, List.map_cons, List.map_nil, List.length_cons, List.length_nil, List.cons_append, List.nil_append, List.getElem?_cons_zero, List.getElem?_cons_succ, List.set_cons_zero, List.set_cons_succ, List.replicate_succ, List.replicate_zero, Nat.reduceAdd, Nat.reduceSub, Nat.reduceLeDiff, if_true, if_false, ite_true, ite_false, Bool.false_eq_true, pD]
  have ee : ((P.filter fun p => decide ((p.1 : Int) = (near : Int))).map fun p => pD (one, p.2)) = ((P.filter fun p => decide ((p.1 : Int) = (near : Int))).map fun p => (one, p.2)).map pD := by rw [List.map_map]; rfl
  rw [ee] at el
  have hfl : (P.filter fun p => decide ((p.1 : Int) = (near : Int))).length ≤ P.length := List.length_filter_le _ _
  have ea := addL_ev (xs := More.map pD) (ys := ((P.filter fun p => decide ((p.1 : Int) = (near : Int))).map fun p => (one, p.2)).map pD) (by simp only [List.length_map]; omega)
  rw [← List.map_append] at ea
  have eL : mLc (mSeq (mVar 3)) [10, 11] (gTp 2 (gCns (gNm 10) (gCns (gNm 11) gNl))) (mTst (mOp2 eqD (mVarB 10) (mVarB 8))) (mTup (mCons (mVar 7) (mCons (mVar 11) (mPure [])))) [a0, a1, a2, some (.imm (.lst (P.map pD))), a4, a5, some (.imm (.lst (More.map pD))), some (.imm (.int (one : Nat))), some (.imm (.int (near : Nat))), a9, a10, a11] none = some (.lst (((P.filter fun p => decide ((p.1 : Int) = (near : Int))).map fun p => (one, p.2)).map pD), none) := by
    simp only [runP, startL, outF, mVar, mVarB, mPure, mOp1, mOp2, mCons, mCall, mTup, mLst, mTst, asB, mNot, mAnd, mOr, mAndV, mOrV, mIte, mSeq, sSq, sIf, sRet, sSet, sSetF, sNil, sFrz, frz, sExpr, sPar2, sPar3, sAsg, mkL, gNm, gTp, gCns, gNl, D.asT, itemsD, addD_int, subD_int, ltD_int, leD_int, gtD_int, geD_int, negD_int, gcdD_int, absD_int, Option.bind_some, Option.map_some, Option.bind_none, Option.map_none, List.map_cons, List.map_nil, List.length_cons, List.length_nil, List.cons_append, List.nil_append, List.getElem?_cons_zero, List.getElem?_cons_succ, List.set_cons_zero, List.set_cons_succ, List.replicate_succ, List.replicate_zero, Nat.reduceAdd, Nat.reduceSub, Nat.reduceLeDiff, if_true, if_false, ite_true, ite_false, Bool.false_eq_true, mLc, wipeL, el]
  unfold mMore sSet
  rw [mOp2_of (ev_varB rfl) eL ea]
  rfl
end K25
namespace K25
open PySem PyProof.Rows L2 Dv

theorem mSeq_of {m : ME} {ρ : Lo} {S S1 : Sg} {d : D} {ds : List D} (h : m ρ S = some (d, S1)) (hi : itemsD d = some ds) : mSeq m ρ S = some (ds, S1) := by
  unfold mSeq; rw [h]; simp only [Option.bind_some]; rw [hi]; rfl
theorem for_of {mi : MA} {g : MG} {m : MS} {ρ : Lo} {S S1 : Sg} {ds : List D} {r : Fl × Lo × Sg} (h : mi ρ S = some (ds, S1)) (hf : forGo g m ds ρ S1 = some r) : sFor mi g m ρ S = some r := by
  unfold sFor; rw [h]; exact hf
theorem sPar3_of {i j l : Nat} {k1 k2 k3 : Bool} {m1 m2 m3 : ME} {ρ : Lo} {S S1 S2 S3 : Sg} {d1 d2 d3 : D} (h1 : m1 ρ S = some (d1, S1)) (h2 : m2 ρ S1 = some (d2, S2)) (h3 : m3 ρ S2 = some (d3, S3)) : sPar3 i j l k1 m1 k2 m2 k3 m3 ρ S = some (.nx, ((ρ.set i (some (mkL k1 d1))).set j (some (mkL k2 d2))).set l (some (mkL k3 d3)), S3) := by
  unfold sPar3
  rw [h1]; simp only [Option.bind_some]
  rw [h2]; simp only [Option.bind_some]
  rw [h3]; rfl
def hLap : MS := sSq (sSet 6 (mLst (mPure []))) (sSq (sFor (mSeq (mCall sortDT (mCons (mVarB 5) (mPure [])))) (gTp 2 (gCns (gNm 7) (gCns (gNm 8) gNl))) mMore) (sFor (mSeq (mVar 6)) (gNm 1) (sPut 5 (mPure (.bl true)) (mVar 1))))
theorem hlap_ev {rs : List Row} {lev : Nat → Rat} (h8 : rs.length ≤ 8) (hk : ∀ i j, i < rs.length → j < rs.length → lev j ≤ lev i + gap rs i j) {P M : List (Nat × Nat)} (hP : PairsR rs false P 64) (hM : LinkR rs.length lev M) {a0 z a2 a4 m6 m7 m8 a9 : Option LV} :
    ∃ M' z' w6 w7 w8, hLap [a0, z, a2, some (.imm (.lst (P.map pD))), a4, some (.own (.dT (enc M))), m6, m7, m8, a9, none, none] none = some (.nx, [a0, z', a2, some (.imm (.lst (P.map pD))), a4, some (.own (.dT (enc M'))), w6, w7, w8, a9, none, none], none) ∧ LinkR rs.length lev M' := by
  have hml := hM.len h8
  obtain ⟨M2, es, hsub, hl2⟩ := sort_ev (M := M) (by omega)
  have h := for_run (g := gTp 2 (gCns (gNm 7) (gCns (gNm 8) gNl))) (ms := mMore) (ds := M2.map pD)
    (P := fun fl ρ S => fl = .nx ∧ S = none ∧ ∃ (More : List (Nat × Nat)) (w7 w8 : Option LV), ρ = [a0, z, a2, some (.imm (.lst (P.map pD))), a4, some (.own (.dT (enc M))), some (.imm (.lst (More.map pD))), w7, w8, a9, none, none] ∧ ∀ p ∈ More, (p.1 < rs.length ∧ p.2 < rs.length) ∧ lev p.2 ≤ lev p.1)
    (Inv := fun k ρ S => S = none ∧ k ≤ M2.length ∧ ∃ (More : List (Nat × Nat)) (w7 w8 : Option LV), ρ = [a0, z, a2, some (.imm (.lst (P.map pD))), a4, some (.own (.dT (enc M))), some (.imm (.lst (More.map pD))), w7, w8, a9, none, none] ∧ More.length ≤ k * 64 ∧ ∀ p ∈ More, (p.1 < rs.length ∧ p.2 < rs.length) ∧ lev p.2 ≤ lev p.1) 0
    (fun k d ρ S hd hI => by
      rw [Nat.zero_add] at hI ⊢
      obtain ⟨rfl, hkl, More, w7, w8, rfl, hlen, hmo⟩ := hI
      rw [List.getElem?_map] at hd
      obtain ⟨p, hp, rfl⟩ := Option.map_eq_some_iff.mp hd
      have hkl2 := (List.getElem?_eq_some_iff.mp hp).1
      have hpM := hsub p (List.mem_of_getElem? hp)
      have hPl := hP.len
      have e := more_ev (P := P) (More := More) (one := p.1) (near := p.2) (by omega) (a0 := a0) (a1 := z) (a2 := a2) (a4 := a4) (a5 := some (.own (.dT (enc M)))) (a9 := a9) (a10 := none) (a11 := none)
      have hfl : (P.filter fun q => decide ((q.1 : Int) = (p.2 : Int))).length ≤ P.length := List.length_filter_le _ _
      (refine ⟨[a0, z, a2, some (.imm (.lst (P.map pD))), a4, some (.own (.dT (enc M))), some (.imm (.lst (More.map pD))), some (.imm (.int (p.1 : Nat))), some (.imm (.int (p.2 : Nat))), a9, none, none], .nx, _, none, rfl, e, rfl, hkl2, _, _, _, rfl, by rw [List.length_append, List.length_map, Nat.succ_mul]; omega, fun q hq => ?_⟩); rcases List.mem_append.mp hq with hq | hq
      · exact hmo q hq
      · obtain ⟨u, hu, rfl⟩ := List.mem_map.mp hq
        obtain ⟨hu1, hu2⟩ := List.mem_filter.mp hu
        have hu2 : u.1 = p.2 := by have := of_decide_eq_true hu2; omega
        obtain ⟨b1, b2, b3, _⟩ := hP.ok u hu1
        have c1 := hM.lt p hpM
        have c2 := hM.le p hpM
        have c3 := hk u.1 u.2 b1 b2
        rw [hu2] at c3 b3
        refine ⟨⟨c1.1, b2⟩, ?_⟩
        show lev u.2 ≤ lev p.1
        grind)
    (fun ρ S hI => by
      rw [Nat.zero_add] at hI
      obtain ⟨rfl, _, More, w7, w8, rfl, _, hmo⟩ := hI
      exact ⟨rfl, rfl, More, w7, w8, rfl, hmo⟩) [a0, z, a2, some (.imm (.lst (P.map pD))), a4, some (.own (.dT (enc M))), some (.imm (.lst [])), m7, m8, a9, none, none] none ⟨rfl, Nat.zero_le _, [], m7, m8, rfl, by simp, fun p hp => by cases hp⟩
  obtain ⟨fl, ρ', S', e, rfl, rfl, More, w7, w8, rfl, hmo⟩ := h
  obtain ⟨M', z', e2, hM'⟩ := put_go h8 More M z hM hmo (a0 := a0) (a2 := a2) (a3 := some (.imm (.lst (P.map pD)))) (a4 := a4) (a6 := some (.imm (.lst (More.map pD)))) (a7 := w7) (a8 := w8) (a9 := a9) (a10 := none) (a11 := none)
  refine ⟨M', z', some (.imm (.lst (More.map pD))), w7, w8, ?_, hM'⟩
  have s1 : sSet 6 (mLst (mPure [])) [a0, z, a2, some (.imm (.lst (P.map pD))), a4, some (.own (.dT (enc M))), m6, m7, m8, a9, none, none] none = some (.nx, [a0, z, a2, some (.imm (.lst (P.map pD))), a4, some (.own (.dT (enc M))), some (.imm (.lst [])), m7, m8, a9, none, none], none) := rfl
  have s2 := for_of (mi := mSeq (mCall sortDT (mCons (mVarB 5) (mPure [])))) (mSeq_of (mCall_of (cons_of (ev_varO rfl) rfl) es) rfl) e
  have s3 := for_of (mi := mSeq (mVar 6)) (mSeq_of (ev_var (i := 6) rfl) rfl) e2
  exact (sSq_nx s1).trans ((sSq_nx s2).trans s3)
end K25
namespace K25
open PySem PyProof.Rows L2 Dv

theorem has_ring_ev {E N B : Nat} (b : Bnd E N B) {rds : List D} {rs : List Row} (hr : Paired RowR rds rs) (hb : ∀ r ∈ rs, RowB E N r) (h8 : rs.length ≤ 8) {lev : Nat → Rat} (hk : ∀ i j, i < rs.length → j < rs.length → lev j ≤ lev i + gap rs i j) : f_law_bu_has_ring [.tup rds] = some (.bl false) := by
  have hl1 : rds.length = rs.length := Paired.length hr
  obtain ⟨P, eP, hP⟩ := pairs_ev b hr hb h8 false
  obtain ⟨Q, eQ, hQ⟩ := pairs_ev b hr hb h8 true
  let ρ0 : Lo := [some (.imm (.tup rds)), none, none, some (.imm (.lst (P.map pD))), some (.imm (.int (rs.length : Nat))), some (.own (.dT (enc []))), none, none, none, none, none, none]
  have s1 : sPar3 3 4 5 false (mCall f_law_bu_pairs (mCons (mVar 0) (mCons (mPure (.bl false)) (mPure [])))) false (mCall lenD (mCons (mVarB 0) (mPure []))) true mNewT [some (.imm (.tup rds)), none, none, none, none, none, none, none, none, none, none, none] none = some (.nx, ρ0, none) :=
    sPar3_of (mCall_of (cons_of (ev_var rfl) (cons_of rfl rfl)) eP) (mCall_of (cons_of (ev_varB rfl) rfl) ((len_items (d := .tup rds) rfl).trans (by rw [hl1]))) rfl
  have el := lc_rel (g := gNm 7) (t := mPure true) (m := mTup (mCons (mVar 7) (mCons (mVar 7) (mPure [])))) (S := none) (ρ := ρ0) (fun i : Nat => pD (i, i)) (paired_range rs.length) fun d i hd hm => by
    obtain ⟨rfl, _⟩ := hd
    exact ⟨_, rfl, rfl, rfl⟩
  have ee : ((List.range rs.length).map fun i : Nat => pD (i, i)) = ((List.range rs.length).map fun i => (i, i)).map pD := by rw [List.map_map]; rfl
  rw [ee] at el
  have eL : mLc (mRg1 (mCons (mVarB 4) (mPure []))) [7] (gNm 7) (mPure true) (mTup (mCons (mVar 7) (mCons (mVar 7) (mPure [])))) ρ0 none = some (.lst (((List.range rs.length).map fun i => (i, i)).map pD), none) := by
    have er : mRg1 (mCons (mVarB 4) (mPure [])) ρ0 none = some (rangeL 0 rs.length, none) := rg1_nat rfl (by omega)
    have ew : wipeL ρ0 [7] = ρ0 := rfl
    unfold mLc
    rw [er]
    simp only [Option.bind_some]
    rw [ew, el]
    rfl
  have ea := addL_ev (xs := P.map pD) (ys := ((List.range rs.length).map fun i => (i, i)).map pD) (by have := hP.len; simp only [List.length_map, List.length_range]; omega)
  rw [← List.map_append] at ea
  obtain ⟨M1, z1, e2, hM1⟩ := put_go h8 (lev := lev) (P ++ (List.range rs.length).map fun i => (i, i)) [] none ⟨List.nodup_nil, (fun p hp => by cases hp), (fun p hp => by cases hp)⟩ (fun p hp => by
    (rcases List.mem_append.mp hp with hp | hp)
    · obtain ⟨b1, b2, b3, _⟩ := hP.ok p hp
      have := hk p.1 p.2 b1 b2
      exact ⟨⟨b1, b2⟩, by grind⟩
    · obtain ⟨i, hi, rfl⟩ := List.mem_map.mp hp
      have := List.mem_range.mp hi
      exact ⟨⟨this, this⟩, Rat.le_refl⟩) (a0 := some (.imm (.tup rds))) (a2 := none) (a3 := some (.imm (.lst (P.map pD)))) (a4 := some (.imm (.int (rs.length : Nat)))) (a6 := none) (a7 := none) (a8 := none) (a9 := none) (a10 := none) (a11 := none)
  have s2 := for_of (mi := mSeq (mOp2 addL (mVarB 3) (mLc (mRg1 (mCons (mVarB 4) (mPure []))) [7] (gNm 7) (mPure true) (mTup (mCons (mVar 7) (mCons (mVar 7) (mPure []))))))) (mSeq_of (mOp2_of (ev_varB (i := 3) (ρ := ρ0) rfl) eL ea) rfl) e2
  have h3 := for_run (g := gNm 2) (ms := hLap) (ds := rangeL 0 rs.length)
    (P := fun fl ρ S => fl = .nx ∧ S = none ∧ ∃ (M' : List (Nat × Nat)) (z' y w6 w7 w8 : Option LV), ρ = [some (.imm (.tup rds)), z', y, some (.imm (.lst (P.map pD))), some (.imm (.int (rs.length : Nat))), some (.own (.dT (enc M'))), w6, w7, w8, none, none, none] ∧ LinkR rs.length lev M')
    (Inv := fun _ ρ S => S = none ∧ ∃ (M' : List (Nat × Nat)) (z' y w6 w7 w8 : Option LV), ρ = [some (.imm (.tup rds)), z', y, some (.imm (.lst (P.map pD))), some (.imm (.int (rs.length : Nat))), some (.own (.dT (enc M'))), w6, w7, w8, none, none, none] ∧ LinkR rs.length lev M') 0
    (fun k d ρ S hd hI => by
      obtain ⟨rfl, M', z', y, w6, w7, w8, rfl, hM⟩ := hI
      obtain ⟨M2, z2, v6, v7, v8, e, hM2⟩ := hlap_ev h8 hk hP hM (a0 := some (.imm (.tup rds))) (z := z') (a2 := some (.imm d)) (a4 := some (.imm (.int (rs.length : Nat)))) (m6 := w6) (m7 := w7) (m8 := w8) (a9 := none)
      exact ⟨_, _, _, _, rfl, e, rfl, M2, z2, _, v6, v7, v8, rfl, hM2⟩)
    (fun ρ S hI => ⟨rfl, hI⟩) [some (.imm (.tup rds)), z1, none, some (.imm (.lst (P.map pD))), some (.imm (.int (rs.length : Nat))), some (.own (.dT (enc M1))), none, none, none, none, none, none] none ⟨rfl, M1, z1, none, none, none, none, rfl, hM1⟩
  obtain ⟨fl, ρ', S', e3, rfl, rfl, M', z', y, w6, w7, w8, rfl, hM⟩ := h3
  have s3 := for_of (mi := mRg1 (mCons (mVarB 4) (mPure []))) (rg1_nat (n := rs.length) (ρ := [some (.imm (.tup rds)), z1, none, some (.imm (.lst (P.map pD))), some (.imm (.int (rs.length : Nat))), some (.own (.dT (enc M1))), none, none, none, none, none, none]) (S := none) rfl (by omega)) e3
  have e4 := lc_if (g := gTp 2 (gCns (gNm 7) (gCns (gNm 9) gNl))) (t := mTst (mDin (mTup (mCons (mVar 9) (mCons (mVar 7) (mPure [])))) (mVarB 5))) (m := mPure (.int 1)) (S := none)
    (ρ := [some (.imm (.tup rds)), z', y, some (.imm (.lst (P.map pD))), some (.imm (.int (rs.length : Nat))), some (.own (.dT (enc M'))), w6, none, w8, none, none, none]) (R := fun d p => d = pD p) (fun p : Nat × Nat => decide ((p.2, p.1) ∈ M')) (fun _ => D.int 1) (paired_mapL (α := Nat × Nat) (e := pD) (fun _ => rfl) Q) fun d p hd hm => by
      subst hd
      refine ⟨[some (.imm (.tup rds)), z', y, some (.imm (.lst (P.map pD))), some (.imm (.int (rs.length : Nat))), some (.own (.dT (enc M'))), w6, some (.imm (.int (p.1 : Nat))), w8, some (.imm (.int (p.2 : Nat))), none, none], rfl, ?_, fun _ => rfl⟩
      have ei : inDk (.tup [.int (p.2 : Nat), .int (p.1 : Nat)]) (.dT (enc M')) = some (.bl (decide ((p.2, p.1) ∈ M'))) := by
        have hkk : keysD [D.int (p.2 : Nat), D.int (p.1 : Nat)] = some (kP2 (p.2, p.1)) := rfl
        unfold inDk
        simp only [hkk, Option.map_some, enc_any]
      simp only [runP, startL, outF, mVar, mVarB, mPure, mOp1, mOp2, mCons, mCall, mTup, mLst, mTst, asB, mNot, mAnd, mOr, mAndV, mOrV, mIte, mSeq, sSq, sIf, sRet, sSet, sSetF, sNil, sFrz, frz, sExpr, sPar2, sPar3, sAsg, mkL, gNm, gTp, gCns, gNl, D.asT, itemsD, addD_int, subD_int, ltD_int, leD_int, gtD_int, geD_int, negD_int, gcdD_int, absD_int, Option.bind_some, Option.map_some, Option.bind_none, Option.map_none, List.map_cons, List.map_nil, List.length_cons, List.length_nil, List.cons_append, List.nil_append, List.getElem?_cons_zero, List.getElem?_cons_succ, List.set_cons_zero, List.set_cons_succ, List.replicate_succ, List.replicate_zero, Nat.reduceAdd, Nat.reduceSub, Nat.reduceLeDiff, if_true, if_false, ite_true, ite_false, Bool.false_eq_true, mDin, ei]
  have hf : Q.filter (fun p => decide ((p.2, p.1) ∈ M')) = [] := by
    refine List.filter_eq_nil_iff.mpr fun p hp => ?_
    simp only [decide_eq_true_eq]
    intro hin
    obtain ⟨b1, b2, _, b4⟩ := hQ.ok p hp
    have c1 := hM.le _ hin
    have c2 := hk p.1 p.2 b1 b2
    have c3 := b4 rfl
    have c1 : lev p.1 ≤ lev p.2 := c1
    grind
  rw [hf] at e4
  have eC : mLc (mSeq (mCall f_law_bu_pairs (mCons (mVar 0) (mCons (mPure (.bl true)) (mPure []))))) [7, 9] (gTp 2 (gCns (gNm 7) (gCns (gNm 9) gNl))) (mTst (mDin (mTup (mCons (mVar 9) (mCons (mVar 7) (mPure [])))) (mVarB 5))) (mPure (.int 1)) [some (.imm (.tup rds)), z', y, some (.imm (.lst (P.map pD))), some (.imm (.int (rs.length : Nat))), some (.own (.dT (enc M'))), w6, w7, w8, none, none, none] none = some (.lst [], none) := by
    unfold mLc
    rw [mSeq_of (mCall_of (cons_of (ev_var rfl) (cons_of rfl rfl)) eQ) rfl]
    simp only [Option.bind_some, wipeL, List.set_cons_succ, List.set_cons_zero]
    rw [e4]
    rfl
  have s4 := sRet_of (mOp2_of (f := neD) (mb := mLst (mPure [])) eC rfl ne_nil)
  exact runP_rt rfl ((sSq_nx s1).trans ((sSq_nx s2).trans ((sSq_nx s3).trans s4)))
end K25
namespace K25
open PySem PyProof.Rows L2 Dv

/-- the draws as they may stand, after at most c blends -/
structure RgOk (ns : List Int) (c : Nat) (r : Rng) : Prop where
  cells : r.cells = absOf ns
  len : ns.length ≤ 1000
  turn0 : 0 ≤ r.turn
  turnc : r.turn ≤ c
  cc : c ≤ 1000000
  rest0 : 0 ≤ r.rest
  gl : r.great.length ≤ 1000
  great0 : ∀ z ∈ r.great, 0 ≤ z
theorem abs_nonneg {ns : List Int} {z : Int} (h : z ∈ absOf ns) : 0 ≤ z := by
  obtain ⟨y, _, rfl⟩ := List.mem_map.mp h
  rw [iabs_nat]; omega
/-- one pass over the cells keeps the blend small -/
def bStep : MS := sSet 4 (mOp2 modD (mCall Dv.intD (mCons (mOp2 addD (mOp2 addD (mOp2 mulI (mVarB 4) (mPure (.int 69621))) (mVarB 5)) (mVarB 2)) (mPure []))) (mVarB 1))
theorem blend_go {a : Addr} {prime turn found : Int} (hp0 : 0 < prime) (hp : prime < 2147483648) {S : Sg} : ∀ (zs : List Int) (bl : Int) (z : Option LV), 0 ≤ bl → bl < 1000000000000 → ∃ bl' z', forGo (gNm 5) bStep (zs.map D.int) [some (.imm (.rng a)), some (.imm (.int prime)), some (.imm (.int turn)), some (.imm (.int found)), some (.imm (.int bl)), z] S = some (.nx, [some (.imm (.rng a)), some (.imm (.int prime)), some (.imm (.int turn)), some (.imm (.int found)), some (.imm (.int bl')), z'], S) ∧ 0 ≤ bl' ∧ bl' < 1000000000000
  | [], bl, z, h0, h1 => ⟨bl, z, rfl, h0, h1⟩
  | c :: zs, bl, z, h0, h1 => by
    have hm : bl.natAbs.log2 + (69621 : Int).natAbs.log2 < 1000000 := by
      have : bl.natAbs.log2 ≤ (1000000000000 : Nat).log2 := log2_mono (by omega)
      have e : (1000000000000 : Nat).log2 = 39 := by decide +kernel
      have e2 : (69621 : Int).natAbs.log2 = 16 := by decide +kernel
      omega
    have hn0 : 0 ≤ (bl * 69621 + c + turn) % prime := Int.emod_nonneg _ (by omega)
    have hn1 : (bl * 69621 + c + turn) % prime < prime := Int.emod_lt_of_pos _ hp0
    obtain ⟨bl', z', e, b0, b1⟩ := blend_go (a := a) (turn := turn) (found := found) hp0 hp (S := S) zs ((bl * 69621 + c + turn) % prime) (some (.imm (.int c))) hn0 (by omega)
    refine ⟨bl', z', ?_, b0, b1⟩
    rw [← e]
    show Option.bind (gNm 5 (.int c) _) _ = _
    simp only [runP, startL, outF, mVar, mVarB, mPure, mOp1, mOp2, mCons, mCall, mTup, mLst, mTst, asB, mNot, mAnd, mOr, mAndV, mOrV, mIte, mSeq, sSq, sIf, sRet, sSet, sSetF, sNil, sFrz, frz, sExpr, sPar2, sPar3, sAsg, mkL, gNm, gTp, gCns, gNl, D.asT, itemsD, addD_int, subD_int, ltD_int, leD_int, gtD_int, geD_int, negD_int, gcdD_int, absD_int, Option.bind_some, Option.map_some, Option.bind_none, Option.map_none, List.map_cons, List.map_nil, List.length_cons, List.length_nil, List.cons_append, List.nil_append, List.getElem?_cons_zero, List.getElem?_cons_succ, List.set_cons_zero, List.set_cons_succ, List.replicate_succ, List.replicate_zero, Nat.reduceAdd, Nat.reduceSub, Nat.reduceLeDiff, if_true, if_false, ite_true, ite_false, Bool.false_eq_true, bStep, mulI_int hm, Dv.intD, modD_int hp0]
end K25
namespace K25
open PySem PyProof.Rows L2 Dv

def pStep : MS := (sSq (sSet 4 (mOp2 addD (mOp2 mulI (mPure (.int 48271)) (mVarB 2)) (mOp2 fdivD (mVarB 1) (mPure (.int 53)))))
  (sSq (sFor (mSeq (mStC 0)) (gNm 5) bStep)
  (sSet 3 (mOp2 addD (mOp2 mulI (mVarB 3) (mPure (.int 2147483647))) (mOp2 modD (mCall Dv.intD (mCons (mOp2 powD (mVarB 4) (mPure (.int 5))) (mPure []))) (mVarB 1))))))
theorem pstep_ev {r : Rng} {prime turn found : Int} (hp0 : 0 < prime) (hp : prime < 2147483648) (ht0 : 0 ≤ turn) (ht : turn ≤ 2000000) (hf0 : 0 ≤ found) (hf : found < 1000000000000000000000000000000) (z y : Option LV) :
    ∃ x bl' z', pStep [some (.imm (.rng r.at_)), some (.imm (.int prime)), some (.imm (.int turn)), some (.imm (.int found)), z, y] (some r) = some (.nx, [some (.imm (.rng r.at_)), some (.imm (.int prime)), some (.imm (.int turn)), some (.imm (.int (found * 2147483647 + x))), some (.imm (.int bl')), z'], some r) ∧ 0 ≤ x ∧ x < 2147483648 := by
  have hd : prime / 53 < 2147483648 := by omega
  have hd0 : 0 ≤ prime / 53 := by omega
  have l53 : (53 : Int).natAbs.log2 < 9000 := by decide +kernel
  have m1 : (48271 : Int).natAbs.log2 + turn.natAbs.log2 < 1000000 := by
    have : turn.natAbs.log2 ≤ (2000000 : Nat).log2 := log2_mono (by omega)
    have e : (2000000 : Nat).log2 = 20 := by decide +kernel
    have e2 : (48271 : Int).natAbs.log2 = 15 := by decide +kernel
    omega
  have m2 : found.natAbs.log2 + (2147483647 : Int).natAbs.log2 < 1000000 := by
    have : found.natAbs.log2 ≤ (1000000000000000000000000000000 : Nat).log2 := log2_mono (by omega)
    have e : (1000000000000000000000000000000 : Nat).log2 = 99 := by decide +kernel
    have e2 : (2147483647 : Int).natAbs.log2 = 30 := by decide +kernel
    omega
  obtain ⟨bl', z', e, b0, b1⟩ := blend_go (a := r.at_) (turn := turn) (found := found) hp0 hp (S := some r) r.cells (48271 * turn + prime / 53) y (by omega) (by omega)
  have hpw : powD (.int bl') (.int 5) = some (.int (bl' ^ 5)) := by
    have : bl'.natAbs < 2 ^ 64 := by omega
    simp [powD, liftI2, this]
  refine ⟨(bl' ^ 5) % prime, bl', z', ?_, Int.emod_nonneg _ (by omega), by have := Int.emod_lt_of_pos (bl' ^ 5) hp0; omega⟩
  have s1 : sSet 4 (mOp2 addD (mOp2 mulI (mPure (.int 48271)) (mVarB 2)) (mOp2 fdivD (mVarB 1) (mPure (.int 53)))) [some (.imm (.rng r.at_)), some (.imm (.int prime)), some (.imm (.int turn)), some (.imm (.int found)), z, y] (some r) = some (.nx, [some (.imm (.rng r.at_)), some (.imm (.int prime)), some (.imm (.int turn)), some (.imm (.int found)), some (.imm (.int (48271 * turn + prime / 53))), y], some r) := by
    simp only [runP, startL, outF, mVar, mVarB, mPure, mOp1, mOp2, mCons, mCall, mTup, mLst, mTst, asB, mNot, mAnd, mOr, mAndV, mOrV, mIte, mSeq, sSq, sIf, sRet, sSet, sSetF, sNil, sFrz, frz, sExpr, sPar2, sPar3, sAsg, mkL, gNm, gTp, gCns, gNl, D.asT, itemsD, addD_int, subD_int, ltD_int, leD_int, gtD_int, geD_int, negD_int, gcdD_int, absD_int, Option.bind_some, Option.map_some, Option.bind_none, Option.map_none, List.map_cons, List.map_nil, List.length_cons, List.length_nil, List.cons_append, List.nil_append, List.getElem?_cons_zero, List.getElem?_cons_succ, List.set_cons_zero, List.set_cons_succ, List.replicate_succ, List.replicate_zero, Nat.reduceAdd, Nat.reduceSub, Nat.reduceLeDiff, if_true, if_false, ite_true, ite_false, Bool.false_eq_true, mulI_int m1, fdivD_int (by omega : (0 : Int) < 53) l53]
  have ec : mSeq (mStC 0) [some (.imm (.rng r.at_)), some (.imm (.int prime)), some (.imm (.int turn)), some (.imm (.int found)), some (.imm (.int (48271 * turn + prime / 53))), y] (some r) = some (r.cells.map D.int, some r) := by
    simp only [runP, startL, outF, mVar, mVarB, mPure, mOp1, mOp2, mCons, mCall, mTup, mLst, mTst, asB, mNot, mAnd, mOr, mAndV, mOrV, mIte, mSeq, sSq, sIf, sRet, sSet, sSetF, sNil, sFrz, frz, sExpr, sPar2, sPar3, sAsg, mkL, gNm, gTp, gCns, gNl, D.asT, itemsD, addD_int, subD_int, ltD_int, leD_int, gtD_int, geD_int, negD_int, gcdD_int, absD_int, Option.bind_some, Option.map_some, Option.bind_none, Option.map_none, List.map_cons, List.map_nil, List.length_cons, List.length_nil, List.cons_append, List.nil_append, List.getElem?_cons_zero, List.getElem?_cons_succ, List.set_cons_zero, List.set_cons_succ, List.replicate_succ, List.replicate_zero, Nat.reduceAdd, Nat.reduceSub, Nat.reduceLeDiff, if_true, if_false, ite_true, ite_false, Bool.false_eq_true, mStC]
  have s2 := for_of (mi := mSeq (mStC 0)) ec e
  have s3 : sSet 3 (mOp2 addD (mOp2 mulI (mVarB 3) (mPure (.int 2147483647))) (mOp2 modD (mCall Dv.intD (mCons (mOp2 powD (mVarB 4) (mPure (.int 5))) (mPure []))) (mVarB 1))) [some (.imm (.rng r.at_)), some (.imm (.int prime)), some (.imm (.int turn)), some (.imm (.int found)), some (.imm (.int bl')), z'] (some r) = some (.nx, [some (.imm (.rng r.at_)), some (.imm (.int prime)), some (.imm (.int turn)), some (.imm (.int (found * 2147483647 + (bl' ^ 5) % prime))), some (.imm (.int bl')), z'], some r) := by
    simp only [runP, startL, outF, mVar, mVarB, mPure, mOp1, mOp2, mCons, mCall, mTup, mLst, mTst, asB, mNot, mAnd, mOr, mAndV, mOrV, mIte, mSeq, sSq, sIf, sRet, sSet, sSetF, sNil, sFrz, frz, sExpr, sPar2, sPar3, sAsg, mkL, gNm, gTp, gCns, gNl, D.asT, itemsD, addD_int, subD_int, ltD_int, leD_int, gtD_int, geD_int, negD_int, gcdD_int, absD_int, Option.bind_some, Option.map_some, Option.bind_none, Option.map_none, List.map_cons, List.map_nil, List.length_cons, List.length_nil, List.cons_append, List.nil_append, List.getElem?_cons_zero, List.getElem?_cons_succ, List.set_cons_zero, List.set_cons_succ, List.replicate_succ, List.replicate_zero, Nat.reduceAdd, Nat.reduceSub, Nat.reduceLeDiff, if_true, if_false, ite_true, ite_false, Bool.false_eq_true, mulI_int m2, hpw, Dv.intD, modD_int hp0]
  exact (sSq_nx s1).trans ((sSq_nx s2).trans s3)
end K25
namespace K25
open PySem PyProof.Rows L2 Dv

theorem runR_rt {k n : Nat} {m : MS} {ds : List D} {r r' : Rng} {d : D} {ρ' : Lo} (hl : ds.length = k) (h : m (startL n ds) (some r) = some (.rt d, ρ', some r')) (h1 : r'.at_ = r.at_) (h2 : r'.gA = r.gA) : runR k n m ds r = some (d, r') := by
  unfold runR
  rw [if_pos hl, h]
  simp only [Option.bind_some, outF]
  rw [if_pos ⟨h1, h2⟩]
theorem blended_ev {ns : List Int} {c : Nat} {r : Rng} (h : RgOk ns c r) : ∃ v, f_law_blended [.rng r.at_] r = some (.int v, { r with turn := r.turn + 1 }) ∧ 0 ≤ v := by
  have t0 := h.turn0
  have tc := h.turnc
  have cc := h.cc
  obtain ⟨x1, b1, z1, e1, p1, q1⟩ := pstep_ev (r := { r with turn := r.turn + 1 }) (prime := 2147483579) (turn := r.turn + 1) (found := 0) (by omega) (by omega) (by omega) (by omega) (by omega) (by omega) none none
  obtain ⟨x2, b2, z2, e2, p2, q2⟩ := pstep_ev (r := { r with turn := r.turn + 1 }) (prime := 2147483629) (turn := r.turn + 1) (found := 0 * 2147483647 + x1) (by omega) (by omega) (by omega) (by omega) (by omega) (by omega) (some (.imm (.int b1))) z1
  obtain ⟨x3, b3, z3, e3, p3, q3⟩ := pstep_ev (r := { r with turn := r.turn + 1 }) (prime := 2147483563) (turn := r.turn + 1) (found := (0 * 2147483647 + x1) * 2147483647 + x2) (by omega) (by omega) (by omega) (by omega) (by omega) (by omega) (some (.imm (.int b2))) z2
  refine ⟨((0 * 2147483647 + x1) * 2147483647 + x2) * 2147483647 + x3, ?_, by omega⟩
  have s1 : sPar2 2 3 false (mOp2 addD (mStI 0 Rng.turn) (mPure (.int 1))) false (mPure (.int 0)) [some (.imm (.rng r.at_)), none, none, none, none, none] (some r) = some (.nx, [some (.imm (.rng r.at_)), none, some (.imm (.int (r.turn + 1))), some (.imm (.int 0)), none, none], some r) := by
    simp only [runP, startL, outF, mVar, mVarB, mPure, mOp1, mOp2, mCons, mCall, mTup, mLst, mTst, asB, mNot, mAnd, mOr, mAndV, mOrV, mIte, mSeq, sSq, sIf, sRet, sSet, sSetF, sNil, sFrz, frz, sExpr, sPar2, sPar3, sAsg, mkL, gNm, gTp, gCns, gNl, D.asT, itemsD, addD_int, subD_int, ltD_int, leD_int, gtD_int, geD_int, negD_int, gcdD_int, absD_int, Option.bind_some, Option.map_some, Option.bind_none, Option.map_none, List.map_cons, List.map_nil, List.length_cons, List.length_nil, List.cons_append, List.nil_append, List.getElem?_cons_zero, List.getElem?_cons_succ, List.set_cons_zero, List.set_cons_succ, List.replicate_succ, List.replicate_zero, Nat.reduceAdd, Nat.reduceSub, Nat.reduceLeDiff, if_true, if_false, ite_true, ite_false, Bool.false_eq_true, mStI]
  have s2 : sStturn 0 (mVar 2) [some (.imm (.rng r.at_)), none, some (.imm (.int (r.turn + 1))), some (.imm (.int 0)), none, none] (some r) = some (.nx, [some (.imm (.rng r.at_)), none, some (.imm (.int (r.turn + 1))), some (.imm (.int 0)), none, none], some { r with turn := r.turn + 1 }) := by
    unfold sStturn
    simp only [runP, startL, outF, mVar, mVarB, mPure, mOp1, mOp2, mCons, mCall, mTup, mLst, mTst, asB, mNot, mAnd, mOr, mAndV, mOrV, mIte, mSeq, sSq, sIf, sRet, sSet, sSetF, sNil, sFrz, frz, sExpr, sPar2, sPar3, sAsg, mkL, gNm, gTp, gCns, gNl, D.asT, itemsD, addD_int, subD_int, ltD_int, leD_int, gtD_int, geD_int, negD_int, gcdD_int, absD_int, Option.bind_some, Option.map_some, Option.bind_none, Option.map_none, List.map_cons, List.map_nil, List.length_cons, List.length_nil, List.cons_append, List.nil_append, List.getElem?_cons_zero, List.getElem?_cons_succ, List.set_cons_zero, List.set_cons_succ, List.replicate_succ, List.replicate_zero, Nat.reduceAdd, Nat.reduceSub, Nat.reduceLeDiff, if_true, if_false, ite_true, ite_false, Bool.false_eq_true]
  have em : mSeq (mLst (mCons (mPure (.int 2147483579)) (mCons (mPure (.int 2147483629)) (mCons (mPure (.int 2147483563)) (mPure []))))) [some (.imm (.rng r.at_)), none, some (.imm (.int (r.turn + 1))), some (.imm (.int 0)), none, none] (some { r with turn := r.turn + 1 }) = some ([.int 2147483579, .int 2147483629, .int 2147483563], some { r with turn := r.turn + 1 }) := rfl
  have hfor : forGo (gNm 1) pStep [.int 2147483579, .int 2147483629, .int 2147483563] [some (.imm (.rng r.at_)), none, some (.imm (.int (r.turn + 1))), some (.imm (.int 0)), none, none] (some { r with turn := r.turn + 1 }) = some (.nx, [some (.imm (.rng r.at_)), some (.imm (.int 2147483563)), some (.imm (.int (r.turn + 1))), some (.imm (.int (((0 * 2147483647 + x1) * 2147483647 + x2) * 2147483647 + x3))), some (.imm (.int b3)), z3], some { r with turn := r.turn + 1 }) := by
    unfold forGo
    simp only [gNm, Option.bind_some, List.set_cons_succ, List.set_cons_zero]
    rw [e1]
    simp only [Option.bind_some]
    unfold forGo
    simp only [gNm, Option.bind_some, List.set_cons_succ, List.set_cons_zero]
    rw [e2]
    simp only [Option.bind_some]
    unfold forGo
    simp only [gNm, Option.bind_some, List.set_cons_succ, List.set_cons_zero]
    rw [e3]
    rfl
  have s3 := for_of (mi := mSeq (mLst (mCons (mPure (.int 2147483579)) (mCons (mPure (.int 2147483629)) (mCons (mPure (.int 2147483563)) (mPure [])))))) em hfor
  exact runR_rt rfl ((sSq_nx s1).trans ((sSq_nx s2).trans ((sSq_nx s3).trans (sRet_of (ev_var rfl))))) rfl rfl
end K25
namespace K25
open PySem PyProof.Rows L2 Dv

theorem callR_of {f : List D → Rng → Option (D × Rng)} {m : MA} {ρ : Lo} {S : Sg} {ds : List D} {r r' : Rng} {d : D} (h : m ρ S = some (ds, some r)) (hf : f ds r = some (d, r')) (h1 : r'.at_ = r.at_) (h2 : r'.gA = r.gA) : mCallR f m ρ S = some (d, some r') := by
  unfold mCallR
  rw [h]
  simp only [Option.bind_some]
  rw [hf]
  simp only [Option.bind_some]
  rw [if_pos ⟨h1, h2⟩]
/-- the same draws, later -/
structure Later (r r' : Rng) : Prop where
  a : r'.at_ = r.at_
  g : r'.gA = r.gA
theorem Later.trans {r r' r'' : Rng} (h : Later r r') (h' : Later r' r'') : Later r r'' := ⟨h'.a.trans h.a, h'.g.trans h.g⟩
theorem draw_ev {ns : List Int} {c : Nat} {r : Rng} (h : RgOk ns c r) (hc : c < 1000000) {room : Int} (h0 : 0 < room) (h1 : room ≤ 1000000) : ∃ v r', f_law_draw [.rng r.at_, .int room] r = some (.int v, r') ∧ 0 ≤ v ∧ v < room ∧ RgOk ns (c + 1) r' ∧ Later r r' := by
  have hlog : room.natAbs.log2 < 9000 := by
    have : room.natAbs.log2 ≤ (1000000 : Nat).log2 := log2_mono (by omega)
    have e : (1000000 : Nat).log2 = 19 := by decide +kernel
    omega
  -- where the rest stands after the first statement
  have first : ∃ r1, sIf (mTst (mOp2 eqD (mStI 0 Rng.rest) (mPure (.int 0)))) (sStrest 0 (mIte (mStG 0) (mStP 0) (mCallR f_law_blended (mCons (mVar 0) (mPure []))))) sNil [some (.imm (.rng r.at_)), some (.imm (.int room)), none] (some r) = some (.nx, [some (.imm (.rng r.at_)), some (.imm (.int room)), none], some r1) ∧ RgOk ns (c + 1) r1 ∧ Later r r1 := by
    have hmono : RgOk ns (c + 1) r := ⟨h.cells, h.len, h.turn0, by have := h.turnc; omega, by omega, h.rest0, h.gl, h.great0⟩
    by_cases hr : r.rest = 0
    · have et : mTst (mOp2 eqD (mStI 0 Rng.rest) (mPure (.int 0))) [some (.imm (.rng r.at_)), some (.imm (.int room)), none] (some r) = some (true, some r) := by
        simp only [runP, startL, outF, mVar, mVarB, mPure, mOp1, mOp2, mCons, mCall, mTup, mLst, mTst, asB, mNot, mAnd, mOr, mAndV, mOrV, mIte, mSeq, sSq, sIf, sRet, sSet, sSetF, sNil, sFrz, frz, sExpr, sPar2, sPar3, sAsg, mkL, gNm, gTp, gCns, gNl, D.asT, itemsD, addD_int, subD_int, ltD_int, leD_int, gtD_int, geD_int, negD_int, gcdD_int, absD_int, Option.bind_some, Option.map_some, Option.bind_none, Option.map_none, List.map_cons, List.map_nil, List.length_cons, List.length_nil, List.cons_append, List.nil_append, List.getElem?_cons_zero, List.getElem?_cons_succ, List.set_cons_zero, List.set_cons_succ, List.replicate_succ, List.replicate_zero, Nat.reduceAdd, Nat.reduceSub, Nat.reduceLeDiff, if_true, if_false, ite_true, ite_false, Bool.false_eq_true, mStI, eqD_int, hr, decide_true]
      have hgl := h.gl
      cases hg : r.great with
      | nil =>
        obtain ⟨v, eb, hv⟩ := blended_ev h
        have eg : mStG 0 [some (.imm (.rng r.at_)), some (.imm (.int room)), none] (some r) = some (false, some r) := by
          unfold mStG
          (simp only [List.getElem?_cons_zero]); rw [if_pos ⟨trivial, hgl⟩, hg]
          rfl
        have ec := callR_of (f := f_law_blended) (m := mCons (mVar 0) (mPure [])) (ρ := [some (.imm (.rng r.at_)), some (.imm (.int room)), none]) (S := some r) (cons_of (ev_var rfl) rfl) eb rfl rfl
        refine ⟨{ r with turn := r.turn + 1, rest := v }, ?_, ⟨h.cells, h.len, by have := h.turn0; show 0 ≤ r.turn + 1; omega, by have := h.turnc; show r.turn + 1 ≤ ((c + 1 : Nat) : Int); omega, by omega, hv, h.gl, h.great0⟩, ⟨rfl, rfl⟩⟩
        unfold sIf
        rw [et]
        simp only [Option.bind_some, if_true]
        unfold sStrest mIte
        rw [eg]
        simp only [Option.bind_some, Bool.false_eq_true, if_false]
        rw [ec]
        simp only [Option.bind_some, List.getElem?_cons_zero]
        rw [if_pos trivial]
      | cons g0 gs =>
        have eg : mStG 0 [some (.imm (.rng r.at_)), some (.imm (.int room)), none] (some r) = some (true, some r) := by
          unfold mStG
          (simp only [List.getElem?_cons_zero]); rw [if_pos ⟨trivial, hgl⟩, hg]
          rfl
        have ep : mStP 0 [some (.imm (.rng r.at_)), some (.imm (.int room)), none] (some r) = some (.int g0, some { r with great := gs }) := by
          unfold mStP
          (simp only [List.getElem?_cons_zero]); rw [if_pos trivial, hg]
        have hg0 : 0 ≤ g0 := h.great0 g0 (by rw [hg]; exact List.mem_cons_self)
        refine ⟨{ r with great := gs, rest := g0 }, ?_, ⟨h.cells, h.len, h.turn0, hmono.turnc, by omega, hg0, by show gs.length ≤ 1000; rw [hg] at hgl; simp at hgl; omega, fun z hz => h.great0 z (by rw [hg]; exact List.mem_cons_of_mem _ hz)⟩, ⟨rfl, rfl⟩⟩
        unfold sIf
        rw [et]
        simp only [Option.bind_some, if_true]
        unfold sStrest mIte
        rw [eg]
        simp only [Option.bind_some, if_true]
        rw [ep]
        simp only [Option.bind_some, List.getElem?_cons_zero]
        rw [if_pos trivial]
    · refine ⟨r, ?_, hmono, ⟨rfl, rfl⟩⟩
      simp only [runP, startL, outF, mVar, mVarB, mPure, mOp1, mOp2, mCons, mCall, mTup, mLst, mTst, asB, mNot, mAnd, mOr, mAndV, mOrV, mIte, mSeq, sSq, sIf, sRet, sSet, sSetF, sNil, sFrz, frz, sExpr, sPar2, sPar3, sAsg, mkL, gNm, gTp, gCns, gNl, D.asT, itemsD, addD_int, subD_int, ltD_int, leD_int, gtD_int, geD_int, negD_int, gcdD_int, absD_int, Option.bind_some, Option.map_some, Option.bind_none, Option.map_none, List.map_cons, List.map_nil, List.length_cons, List.length_nil, List.cons_append, List.nil_append, List.getElem?_cons_zero, List.getElem?_cons_succ, List.set_cons_zero, List.set_cons_succ, List.replicate_succ, List.replicate_zero, Nat.reduceAdd, Nat.reduceSub, Nat.reduceLeDiff, if_true, if_false, ite_true, ite_false, Bool.false_eq_true, mStI, eqD_int, hr, decide_false]
  obtain ⟨r1, e1, ok1, l1⟩ := first
  have la : r.at_ = r1.at_ := l1.a.symm
  refine ⟨r1.rest % room, { r1 with rest := r1.rest / room }, ?_, Int.emod_nonneg _ (by omega), Int.emod_lt_of_pos _ h0, ⟨ok1.cells, ok1.len, ok1.turn0, ok1.turnc, ok1.cc, Int.ediv_nonneg ok1.rest0 (by omega), ok1.gl, ok1.great0⟩, ⟨l1.a, l1.g⟩⟩
  have e2 : sSet 2 (mOp2 modD (mCall Dv.intD (mCons (mStI 0 Rng.rest) (mPure []))) (mVarB 1)) [some (.imm (.rng r.at_)), some (.imm (.int room)), none] (some r1) = some (.nx, [some (.imm (.rng r.at_)), some (.imm (.int room)), some (.imm (.int (r1.rest % room)))], some r1) := by
    simp only [runP, startL, outF, mVar, mVarB, mPure, mOp1, mOp2, mCons, mCall, mTup, mLst, mTst, asB, mNot, mAnd, mOr, mAndV, mOrV, mIte, mSeq, sSq, sIf, sRet, sSet, sSetF, sNil, sFrz, frz, sExpr, sPar2, sPar3, sAsg, mkL, gNm, gTp, gCns, gNl, D.asT, itemsD, addD_int, subD_int, ltD_int, leD_int, gtD_int, geD_int, negD_int, gcdD_int, absD_int, Option.bind_some, Option.map_some, Option.bind_none, Option.map_none, List.map_cons, List.map_nil, List.length_cons, List.length_nil, List.cons_append, List.nil_append, List.getElem?_cons_zero, List.getElem?_cons_succ, List.set_cons_zero, List.set_cons_succ, List.replicate_succ, List.replicate_zero, Nat.reduceAdd, Nat.reduceSub, Nat.reduceLeDiff, if_true, if_false, ite_true, ite_false, Bool.false_eq_true, mStI, la, Dv.intD, modD_int h0]
  have e3 : sStrest 0 (mOp2 fdivD (mStI 0 Rng.rest) (mVarB 1)) [some (.imm (.rng r.at_)), some (.imm (.int room)), some (.imm (.int (r1.rest % room)))] (some r1) = some (.nx, [some (.imm (.rng r.at_)), some (.imm (.int room)), some (.imm (.int (r1.rest % room)))], some { r1 with rest := r1.rest / room }) := by
    unfold sStrest
    simp only [runP, startL, outF, mVar, mVarB, mPure, mOp1, mOp2, mCons, mCall, mTup, mLst, mTst, asB, mNot, mAnd, mOr, mAndV, mOrV, mIte, mSeq, sSq, sIf, sRet, sSet, sSetF, sNil, sFrz, frz, sExpr, sPar2, sPar3, sAsg, mkL, gNm, gTp, gCns, gNl, D.asT, itemsD, addD_int, subD_int, ltD_int, leD_int, gtD_int, geD_int, negD_int, gcdD_int, absD_int, Option.bind_some, Option.map_some, Option.bind_none, Option.map_none, List.map_cons, List.map_nil, List.length_cons, List.length_nil, List.cons_append, List.nil_append, List.getElem?_cons_zero, List.getElem?_cons_succ, List.set_cons_zero, List.set_cons_succ, List.replicate_succ, List.replicate_zero, Nat.reduceAdd, Nat.reduceSub, Nat.reduceLeDiff, if_true, if_false, ite_true, ite_false, Bool.false_eq_true, mStI, la, fdivD_int h0 hlog]
  exact runR_rt rfl ((sSq_nx e1).trans ((sSq_nx e2).trans ((sSq_nx e3).trans (sRet_of (ev_var rfl))))) l1.a l1.g
end K25
namespace K25
open PySem PyProof.Rows L2 Dv

/-- one of several, drawn -/
theorem pick_ev {ns : List Int} {c : Nat} {r : Rng} (h : RgOk ns c r) (hc : c < 1000000) {ds : List D} (h0 : ds ≠ []) (hl : ds.length ≤ 1000) : ∃ d r', f_law_pick [.rng r.at_, .lst ds] r = some (d, r') ∧ d ∈ ds ∧ RgOk ns (c + 1) r' ∧ Later r r' := by
  have hp := List.length_pos_iff.mpr h0
  obtain ⟨v, r', e, v0, v1, ok, lt⟩ := draw_ev h hc (room := (ds.length : Int)) (by omega) (by omega)
  obtain ⟨n, rfl⟩ : ∃ n : Nat, v = (n : Int) := ⟨v.toNat, by omega⟩
  have hn : n < ds.length := by omega
  have eg : ds[n]? = some ds[n] := List.getElem?_eq_getElem hn
  refine ⟨ds[n], r', ?_, List.getElem_mem hn, ok, lt⟩
  have ec := callR_of (f := f_law_draw) (m := mCons (mVar 0) (mCons (mCall lenD (mCons (mVarB 1) (mPure []))) (mPure []))) (ρ := [some (.imm (.rng r.at_)), some (.imm (.lst ds))]) (S := some r) (cons_of (ev_var rfl) (cons_of (mCall_of (cons_of (ev_varB rfl) rfl) (len_items (d := .lst ds) rfl)) rfl)) e lt.a lt.g
  exact runR_rt rfl (sRet_of (mOp2_of (ev_varB rfl) ec (ix_nat rfl eg))) lt.a lt.g
end K25
namespace K25
open PySem PyProof.Rows L2 Dv

/-- a drawn number: its size -/
structure Num (dn nn : Nat) (q : Rat) : Prop where
  den : q.den ≤ dn
  num : q.num.natAbs ≤ nn
theorem num_mk {n : Int} {k dn nn : Nat} (hk : k ≠ 0) (h1 : k ≤ dn) (h2 : n.natAbs ≤ nn) : Num dn nn (mkRat n k) := by
  have g0 : 0 < k.gcd n.natAbs := Nat.gcd_pos_of_pos_left _ (by omega)
  refine ⟨?_, ?_⟩
  · rw [Rat.den_mkRat, if_neg hk]
    exact Nat.le_trans (Nat.div_le_self _ _) h1
  · rw [Rat.num_mkRat, if_neg hk, Int.natAbs_ediv_of_dvd (Int.ofNat_dvd_left.mpr (Nat.gcd_dvd_right _ _)), Int.natAbs_natCast]
    exact Nat.le_trans (Nat.div_le_self _ _) h2
theorem mkRat_pos {n : Int} {k : Nat} (hk : k ≠ 0) (hn : 0 < n) : 0 < mkRat n k := by
  refine (Rat.lt_iff _ _).mpr ?_
  have hd : (0 : Int) < ((mkRat n k).den : Int) := by have := (mkRat n k).den_pos; omega
  have h0 : 0 < (mkRat n k).num := by
    rw [Rat.num_mkRat, if_neg hk]
    have g0 : 0 < k.gcd n.natAbs := Nat.gcd_pos_of_pos_left _ (by omega)
    exact Int.ediv_pos_of_pos_of_dvd hn (by omega) (Int.ofNat_dvd_left.mpr (Nat.gcd_dvd_right _ _))
  simpa using h0
theorem q_small {n : Int} {k : Nat} (hk : k ≠ 0) (h : k ≤ 1000) : f_law_q [.int n, .int (k : Int)] = some (mk (mkRat n k)) :=
  q_nat hk (by
    have : k.log2 ≤ (1000 : Nat).log2 := log2_mono h
    have e : (1000 : Nat).log2 = 9 := by decide +kernel
    omega)
end K25
namespace K25
open PySem PyProof.Rows L2 Dv

/-! ### what is drawn, step by step: no more than k draws, and what comes has P -/
theorem RgOk.up {ns : List Int} {c c' : Nat} {r : Rng} (h : RgOk ns c r) (hc : c ≤ c') (h1 : c' ≤ 1000000) : RgOk ns c' r :=
  ⟨h.cells, h.len, h.turn0, by have := h.turnc; omega, h1, h.rest0, h.gl, h.great0⟩
theorem Later.refl (r : Rng) : Later r r := ⟨rfl, rfl⟩
section
variable {ns : List Int} {a : Addr} {k k' k2 : Nat} {ρ : Lo} {α : Type}
def RE (ns : List Int) (a : Addr) (k : Nat) {α : Type} (m : MX α) (ρ : Lo) (P : α → Prop) : Prop := ∀ c r, RgOk ns c r → r.at_ = a → c + k ≤ 1000000 → ∃ d r', m ρ (some r) = some (d, some r') ∧ P d ∧ RgOk ns (c + k) r' ∧ Later r r'
def RS (ns : List Int) (a : Addr) (k : Nat) (m : MS) (ρ : Lo) (P : Fl → Lo → Prop) : Prop := ∀ c r, RgOk ns c r → r.at_ = a → c + k ≤ 1000000 → ∃ fl ρ' r', m ρ (some r) = some (fl, ρ', some r') ∧ P fl ρ' ∧ RgOk ns (c + k) r' ∧ Later r r'
def RF (ns : List Int) (a : Addr) (k : Nat) (f : List D → Rng → Option (D × Rng)) (ds : List D) (P : D → Prop) : Prop := ∀ c r, RgOk ns c r → r.at_ = a → c + k ≤ 1000000 → ∃ d r', f ds r = some (d, r') ∧ P d ∧ RgOk ns (c + k) r' ∧ Later r r'
theorem RE.mono {m : MX α} {P Q : α → Prop} (h : RE ns a k m ρ P) (hk : k ≤ k') (hp : ∀ d, P d → Q d) : RE ns a k' m ρ Q := fun c r ok ha hc => by
  obtain ⟨d, r', e, p, ok', l⟩ := h c r ok ha (by omega)
  exact ⟨d, r', e, hp d p, ok'.up (by omega) hc, l⟩
theorem RS.mono {m : MS} {P Q : Fl → Lo → Prop} (h : RS ns a k m ρ P) (hk : k ≤ k') (hp : ∀ fl ρ', P fl ρ' → Q fl ρ') : RS ns a k' m ρ Q := fun c r ok ha hc => by
  obtain ⟨d, x, r', e, p, ok', l⟩ := h c r ok ha (by omega)
  exact ⟨d, x, r', e, hp d x p, ok'.up (by omega) hc, l⟩
theorem RF.mono {f : List D → Rng → Option (D × Rng)} {ds : List D} {P Q : D → Prop} (h : RF ns a k f ds P) (hk : k ≤ k') (hp : ∀ d, P d → Q d) : RF ns a k' f ds Q := fun c r ok ha hc => by
  obtain ⟨d, r', e, p, ok', l⟩ := h c r ok ha (by omega)
  exact ⟨d, r', e, hp d p, ok'.up (by omega) hc, l⟩
theorem re_pure {m : MX α} {P : α → Prop} {d : α} (h : ∀ S, m ρ S = some (d, S)) (p : P d) : RE ns a 0 m ρ P := fun c r ok _ _ => ⟨d, r, h _, p, ok, Later.refl r⟩
theorem re_cst {d : D} : RE ns a 0 (mPure d) ρ (· = d) := re_pure (fun _ => rfl) rfl
theorem re_var {i : Nat} {d : D} (h : ρ[i]? = some (some (.imm d)) := by rfl) : RE ns a 0 (mVar i) ρ (· = d) := re_pure (fun _ => ev_var h) rfl
theorem re_varB {i : Nat} {d : D} (h : ρ[i]? = some (some (.imm d)) := by rfl) : RE ns a 0 (mVarB i) ρ (· = d) := re_pure (fun _ => ev_varB h) rfl
theorem re_varO {i : Nat} {d : D} (h : ρ[i]? = some (some (.own d)) := by rfl) : RE ns a 0 (mVarB i) ρ (· = d) := re_pure (fun _ => ev_varO h) rfl
theorem re_nil : RE ns a 0 (mPure ([] : List D)) ρ (· = []) := re_pure (fun _ => rfl) rfl
theorem re_cons {m : ME} {n : MA} {P : D → Prop} {Q : List D → Prop} (h1 : RE ns a k m ρ P) (h2 : RE ns a k' n ρ Q) : RE ns a (k + k') (mCons m n) ρ (fun ds => ∃ d e, ds = d :: e ∧ P d ∧ Q e) := fun c r ok ha hc => by
  obtain ⟨d, r1, e1, p1, ok1, l1⟩ := h1 c r ok ha (by omega)
  obtain ⟨ds, r2, e2, p2, ok2, l2⟩ := h2 (c + k) r1 ok1 (l1.a.trans ha) (by omega)
  exact ⟨d :: ds, r2, cons_of e1 e2, ⟨d, ds, rfl, p1, p2⟩, by rw [← Nat.add_assoc]; exact ok2, l1.trans l2⟩
theorem re_op2 {f : D → D → Option D} {m n : ME} {P Q R : D → Prop} (h1 : RE ns a k m ρ P) (h2 : RE ns a k' n ρ Q) (hf : ∀ x y, P x → Q y → ∃ d, f x y = some d ∧ R d) : RE ns a (k + k') (mOp2 f m n) ρ R := fun c r ok ha hc => by
  obtain ⟨d, r1, e1, p1, ok1, l1⟩ := h1 c r ok ha (by omega)
  obtain ⟨e, r2, e2, p2, ok2, l2⟩ := h2 (c + k) r1 ok1 (l1.a.trans ha) (by omega)
  obtain ⟨x, e3, p3⟩ := hf d e p1 p2
  exact ⟨x, r2, mOp2_of e1 e2 e3, p3, by rw [← Nat.add_assoc]; exact ok2, l1.trans l2⟩
theorem re_call {f : List D → Option D} {m : MA} {P : List D → Prop} {R : D → Prop} (h : RE ns a k m ρ P) (hf : ∀ ds, P ds → ∃ d, f ds = some d ∧ R d) : RE ns a k (mCall f m) ρ R := fun c r ok ha hc => by
  obtain ⟨d, r1, e1, p1, ok1, l1⟩ := h c r ok ha hc
  obtain ⟨x, e3, p3⟩ := hf d p1
  exact ⟨x, r1, mCall_of e1 e3, p3, ok1, l1⟩
theorem re_callR {f : List D → Rng → Option (D × Rng)} {m : MA} {P : List D → Prop} {R : D → Prop} (h : RE ns a k m ρ P) (hf : ∀ ds, P ds → RF ns a k' f ds R) : RE ns a (k + k') (mCallR f m) ρ R := fun c r ok ha hc => by
  obtain ⟨ds, r1, e1, p1, ok1, l1⟩ := h c r ok ha (by omega)
  obtain ⟨x, r2, e2, p2, ok2, l2⟩ := hf ds p1 (c + k) r1 ok1 (l1.a.trans ha) (by omega)
  exact ⟨x, r2, callR_of e1 e2 l2.a l2.g, p2, by rw [← Nat.add_assoc]; exact ok2, l1.trans l2⟩
theorem re_tup {m : MA} {P : List D → Prop} {R : D → Prop} (h : RE ns a k m ρ P) (hf : ∀ ds, P ds → ds.length ≤ 4096 ∧ R (.tup ds)) : RE ns a k (mTup m) ρ R := fun c r ok ha hc => by
  obtain ⟨ds, r1, e1, p1, ok1, l1⟩ := h c r ok ha hc
  obtain ⟨hl, p⟩ := hf ds p1
  exact ⟨_, r1, by unfold mTup; rw [e1]; simp only [Option.bind_some]; rw [if_pos hl], p, ok1, l1⟩
theorem re_lst {m : MA} {P : List D → Prop} {R : D → Prop} (h : RE ns a k m ρ P) (hf : ∀ ds, P ds → ds.length ≤ 4096 ∧ R (.lst ds)) : RE ns a k (mLst m) ρ R := fun c r ok ha hc => by
  obtain ⟨ds, r1, e1, p1, ok1, l1⟩ := h c r ok ha hc
  obtain ⟨hl, p⟩ := hf ds p1
  exact ⟨_, r1, by unfold mLst; rw [e1]; simp only [Option.bind_some]; rw [if_pos hl], p, ok1, l1⟩
theorem re_tst {m : ME} {P : D → Prop} {R : Bool → Prop} (h : RE ns a k m ρ P) (hf : ∀ d, P d → ∃ b, d = .bl b ∧ R b) : RE ns a k (mTst m) ρ R := fun c r ok ha hc => by
  obtain ⟨d, r1, e1, p1, ok1, l1⟩ := h c r ok ha hc
  obtain ⟨b, rfl, p⟩ := hf d p1
  exact ⟨b, r1, by unfold mTst; rw [e1]; rfl, p, ok1, l1⟩
theorem re_and {t n : MT} {P Q R : Bool → Prop} (h1 : RE ns a k t ρ P) (h2 : P true → RE ns a k' n ρ Q) (hr0 : P false → R false) (hr : ∀ b, P true → Q b → R b) : RE ns a (k + k') (mAnd t n) ρ R := fun c r ok ha hc => by
  obtain ⟨b, r1, e1, p1, ok1, l1⟩ := h1 c r ok ha (by omega)
  cases b with
  | true =>
    obtain ⟨b2, r2, e2, p2, ok2, l2⟩ := h2 p1 (c + k) r1 ok1 (l1.a.trans ha) (by omega)
    exact ⟨b2, r2, by unfold mAnd; rw [e1]; simp only [Option.bind_some, if_true]; exact e2, hr b2 p1 p2, by rw [← Nat.add_assoc]; exact ok2, l1.trans l2⟩
  | false => exact ⟨false, r1, by unfold mAnd; rw [e1]; rfl, hr0 p1, ok1.up (by omega) hc, l1⟩
theorem re_lc {mi : MA} {vs : List Nat} {g : MG} {m : ME} {P : D → Prop} {ds : List D} (hi : ∀ S, mi ρ S = some (ds, S)) (hs : ∀ d ∈ ds, ∃ ρ1, g d (wipeL ρ vs) = some ρ1 ∧ RE ns a k m ρ1 P) :
    RE ns a (ds.length * k) (mLc mi vs g (mPure true) m) ρ (fun x => ∃ ys, x = .lst ys ∧ ys.length = ds.length ∧ ∀ y ∈ ys, P y) := fun c r ok ha hc => by
  obtain ⟨ys, r', e, hl, hp, hI⟩ := lc_runN (g := g) (t := mPure true) (m := m) (ρ := wipeL ρ vs) (P := P) (ds := ds) (r := r) 0 (fun i r' => i ≤ ds.length → RgOk ns (c + i * k) r' ∧ Later r r') (fun _ => ⟨by simpa using ok, Later.refl r⟩) fun i d r1 hd hI => by
    have hlt : i < ds.length := (List.getElem?_eq_some_iff.mp hd).1
    obtain ⟨ok1, l1⟩ := hI (by omega)
    obtain ⟨ρ1, e1, h1⟩ := hs d (List.mem_of_getElem? hd)
    have hmul : (i + 1) * k ≤ ds.length * k := Nat.mul_le_mul_right _ hlt
    have hs1 : (i + 1) * k = i * k + k := Nat.succ_mul i k
    rw [Nat.zero_add] at ok1
    obtain ⟨y, r2, e2, p2, ok2, l2⟩ := h1 (c + i * k) r1 ok1 (l1.a.trans ha) (by omega)
    refine ⟨ρ1, y, r2, e1, rfl, e2, p2, fun _ => ⟨?_, l1.trans l2⟩⟩
    rw [Nat.zero_add, hs1, ← Nat.add_assoc]
    exact ok2
  obtain ⟨ok', l'⟩ := hI (by omega)
  rw [Nat.zero_add] at ok'
  exact ⟨_, r', by unfold mLc; rw [hi]; simp only [Option.bind_some]; rw [e]; rfl, ⟨ys, rfl, hl, hp⟩, ok', l'⟩
/-! statements -/
theorem rs_nil : RS ns a 0 sNil ρ (fun fl ρ' => fl = .nx ∧ ρ' = ρ) := fun c r ok _ _ => ⟨.nx, ρ, r, rfl, ⟨rfl, rfl⟩, ok, Later.refl r⟩
theorem rs_sq {m n : MS} {P : Lo → Prop} {Q : Fl → Lo → Prop} (h1 : RS ns a k m ρ (fun fl ρ' => fl = .nx ∧ P ρ')) (h2 : ∀ ρ', P ρ' → RS ns a k' n ρ' Q) : RS ns a (k + k') (sSq m n) ρ Q := fun c r ok ha hc => by
  obtain ⟨fl, ρ1, r1, e1, ⟨rfl, p1⟩, ok1, l1⟩ := h1 c r ok ha (by omega)
  obtain ⟨fl, ρ2, r2, e2, p2, ok2, l2⟩ := h2 ρ1 p1 (c + k) r1 ok1 (l1.a.trans ha) (by omega)
  exact ⟨fl, ρ2, r2, (sSq_nx e1).trans e2, p2, by rw [← Nat.add_assoc]; exact ok2, l1.trans l2⟩
theorem sSq_no {m n : MS} {ρ ρ' : Lo} {S S' : Sg} {fl : Fl} (h : m ρ S = some (fl, ρ', S')) (hf : fl ≠ .nx) : sSq m n ρ S = some (fl, ρ', S') := by
  unfold sSq; rw [h]; cases fl <;> first | rfl | exact absurd rfl hf
theorem rs_sq' {m n : MS} {P Q : Fl → Lo → Prop} (h1 : RS ns a k m ρ P) (h2 : ∀ ρ', P .nx ρ' → RS ns a k' n ρ' Q) (h3 : ∀ fl ρ', fl ≠ .nx → P fl ρ' → Q fl ρ') : RS ns a (k + k') (sSq m n) ρ Q := fun c r ok ha hc => by
  obtain ⟨fl, ρ1, r1, e1, p1, ok1, l1⟩ := h1 c r ok ha (by omega)
  by_cases hf : fl = .nx
  · subst hf
    obtain ⟨fl, ρ2, r2, e2, p2, ok2, l2⟩ := h2 ρ1 p1 (c + k) r1 ok1 (l1.a.trans ha) (by omega)
    exact ⟨fl, ρ2, r2, (sSq_nx e1).trans e2, p2, by rw [← Nat.add_assoc]; exact ok2, l1.trans l2⟩
  · exact ⟨fl, ρ1, r1, sSq_no e1 hf, h3 fl ρ1 hf p1, ok1.up (by omega) hc, l1⟩
theorem rs_set {i : Nat} {m : ME} {P : D → Prop} (h : RE ns a k m ρ P) : RS ns a k (sSet i m) ρ (fun fl ρ' => fl = .nx ∧ ∃ d, P d ∧ ρ' = ρ.set i (some (.imm d))) := fun c r ok ha hc => by
  obtain ⟨d, r1, e1, p1, ok1, l1⟩ := h c r ok ha hc
  exact ⟨_, _, r1, by unfold sSet; rw [e1]; rfl, ⟨rfl, d, p1, rfl⟩, ok1, l1⟩
theorem rs_setF {i : Nat} {m : ME} {P : D → Prop} (h : RE ns a k m ρ P) : RS ns a k (sSetF i m) ρ (fun fl ρ' => fl = .nx ∧ ∃ d, P d ∧ ρ' = ρ.set i (some (.own d))) := fun c r ok ha hc => by
  obtain ⟨d, r1, e1, p1, ok1, l1⟩ := h c r ok ha hc
  exact ⟨_, _, r1, by unfold sSetF; rw [e1]; rfl, ⟨rfl, d, p1, rfl⟩, ok1, l1⟩
theorem rs_ret {m : ME} {P : D → Prop} (h : RE ns a k m ρ P) : RS ns a k (sRet m) ρ (fun fl ρ' => ∃ d, fl = .rt d ∧ P d) := fun c r ok ha hc => by
  obtain ⟨d, r1, e1, p1, ok1, l1⟩ := h c r ok ha hc
  exact ⟨_, ρ, r1, by unfold sRet; rw [e1]; rfl, ⟨d, rfl, p1⟩, ok1, l1⟩
theorem rs_par2 {i j : Nat} {k1 k2 : Bool} {m n : ME} {P Q : D → Prop} (h1 : RE ns a k m ρ P) (h2 : RE ns a k' n ρ Q) : RS ns a (k + k') (sPar2 i j k1 m k2 n) ρ (fun fl ρ' => fl = .nx ∧ ∃ d e, P d ∧ Q e ∧ ρ' = (ρ.set i (some (mkL k1 d))).set j (some (mkL k2 e))) := fun c r ok ha hc => by
  obtain ⟨d, r1, e1, p1, ok1, l1⟩ := h1 c r ok ha (by omega)
  obtain ⟨e, r2, e2, p2, ok2, l2⟩ := h2 (c + k) r1 ok1 (l1.a.trans ha) (by omega)
  exact ⟨_, _, r2, sPar2_of e1 e2, ⟨rfl, d, e, p1, p2, rfl⟩, by rw [← Nat.add_assoc]; exact ok2, l1.trans l2⟩
theorem rs_par3 {i j l : Nat} {k1 k2 k3 : Bool} {kc : Nat} {m n o : ME} {P Q R : D → Prop} (h1 : RE ns a k m ρ P) (h2 : RE ns a k' n ρ Q) (h3 : RE ns a kc o ρ R) :
    RS ns a (k + k' + kc) (sPar3 i j l k1 m k2 n k3 o) ρ (fun fl ρ' => fl = .nx ∧ ∃ d e f, P d ∧ Q e ∧ R f ∧ ρ' = ((ρ.set i (some (mkL k1 d))).set j (some (mkL k2 e))).set l (some (mkL k3 f))) := fun c r ok ha hc => by
  obtain ⟨d, r1, e1, p1, ok1, l1⟩ := h1 c r ok ha (by omega)
  obtain ⟨e, r2, e2, p2, ok2, l2⟩ := h2 (c + k) r1 ok1 (l1.a.trans ha) (by omega)
  obtain ⟨f, r3, e3, p3, ok3, l3⟩ := h3 (c + k + k') r2 ok2 (l2.a.trans (l1.a.trans ha)) (by omega)
  exact ⟨_, _, r3, sPar3_of e1 e2 e3, ⟨rfl, d, e, f, p1, p2, p3, rfl⟩, by rw [← Nat.add_assoc, ← Nat.add_assoc]; exact ok3, (l1.trans l2).trans l3⟩
theorem rs_if {t : MT} {m n : MS} {P : Bool → Prop} {Q : Fl → Lo → Prop} (h : RE ns a k t ρ P) (h1 : P true → RS ns a k' m ρ Q) (h2 : P false → RS ns a k' n ρ Q) : RS ns a (k + k') (sIf t m n) ρ Q := fun c r ok ha hc => by
  obtain ⟨b, r1, e1, p1, ok1, l1⟩ := h c r ok ha (by omega)
  have key : RS ns a k' (if b then m else n) ρ Q := by
    cases b with
    | true => exact h1 p1
    | false => exact h2 p1
  obtain ⟨fl, ρ2, r2, e2, p2, ok2, l2⟩ := key (c + k) r1 ok1 (l1.a.trans ha) (by omega)
  refine ⟨fl, ρ2, r2, ?_, p2, by rw [← Nat.add_assoc]; exact ok2, l1.trans l2⟩
  unfold sIf
  rw [e1]
  simp only [Option.bind_some]
  cases b <;> exact e2
theorem rs_app {i : Nat} {m : ME} {P : D → Prop} {ds : List D} (hi : ρ[i]? = some (some (.own (.lst ds)))) (hl : ds.length < 1000000) (h : RE ns a k m ρ P) : RS ns a k (sApp i m) ρ (fun fl ρ' => fl = .nx ∧ ∃ d, P d ∧ ρ' = ρ.set i (some (.own (.lst (ds ++ [d]))))) := fun c r ok ha hc => by
  obtain ⟨d, r1, e1, p1, ok1, l1⟩ := h c r ok ha hc
  exact ⟨_, _, r1, by unfold sApp; rw [hi]; simp only [e1, Option.bind_some]; rw [if_pos hl], ⟨rfl, d, p1, rfl⟩, ok1, l1⟩
theorem rs_ix {i : Nat} {m mk : ME} {P : D → Prop} {ds : List D} (hi : ρ[i]? = some (some (.own (.lst ds)))) (h : RE ns a k m ρ P) (h' : RE ns a k' mk ρ (fun d => ∃ v : Int, d = .int v ∧ 0 ≤ v ∧ v < ds.length)) : RS ns a (k + k') (sIx i m mk) ρ (fun fl ρ' => fl = .nx ∧ ∃ d j, P d ∧ j < ds.length ∧ ρ' = ρ.set i (some (.own (.lst (ds.set j d))))) := fun c r ok ha hc => by
  obtain ⟨d, r1, e1, p1, ok1, l1⟩ := h c r ok ha (by omega)
  obtain ⟨d2, r2, e2, ⟨v, rfl, v0, v1⟩, ok2, l2⟩ := h' (c + k) r1 ok1 (l1.a.trans ha) (by omega)
  refine ⟨.nx, ρ.set i (some (.own (.lst (ds.set v.toNat d)))), r2, ?_, ⟨rfl, d, v.toNat, p1, by omega, rfl⟩, by rw [← Nat.add_assoc]; exact ok2, l1.trans l2⟩
  unfold sIx
  rw [hi]
  simp only [e1, e2, Option.bind_some]
  have : ixN ds.length v = some v.toNat := by
    unfold ixN
    rw [if_pos v0, if_pos (by omega)]
  rw [this]; rfl
theorem rs_for {mi : MA} {g : MG} {m : MS} {L : Nat} {Pd : List D → Prop} (Inv : Nat → Lo → Prop) (hi : RE ns a k mi ρ (fun ds => ds.length ≤ L ∧ Pd ds)) (h0 : Inv 0 ρ) (hs : ∀ ds, Pd ds → ∀ i d ρ', ds[i]? = some d → Inv i ρ' → ∃ ρ1, g d ρ' = some ρ1 ∧ RS ns a k' m ρ1 (fun fl ρ2 => (fl = .nx ∨ fl = .ct) ∧ Inv (i + 1) ρ2)) :
    RS ns a (k + L * k') (sFor mi g m) ρ (fun fl ρ' => fl = .nx ∧ ∃ ds, Pd ds ∧ ds.length ≤ L ∧ Inv ds.length ρ') := fun c r ok ha hc => by
  obtain ⟨ds, r1, e1, ⟨hl, pd⟩, ok1, l1⟩ := hi c r ok ha (by omega)
  have hL : ds.length * k' ≤ L * k' := Nat.mul_le_mul_right _ hl
  obtain ⟨fl, ρ', S', e, hf, hI, hR⟩ := for_run (g := g) (ms := m) (P := fun fl ρ' S' => fl = .nx ∧ Inv ds.length ρ' ∧ ∃ r', S' = some r' ∧ RgOk ns (c + k + ds.length * k') r' ∧ Later r1 r') (fun i ρ' S' => i ≤ ds.length → Inv i ρ' ∧ ∃ r', S' = some r' ∧ RgOk ns (c + k + i * k') r' ∧ Later r1 r') (ds := ds) 0
    (fun i d ρ1 S1 hd hI => by
      have hlt : i < ds.length := (List.getElem?_eq_some_iff.mp hd).1
      rw [Nat.zero_add] at hI
      obtain ⟨inv, r2, rfl, ok2, l2⟩ := hI (by omega)
      obtain ⟨ρ2, eg, h2⟩ := hs ds pd i d ρ1 hd inv
      have hmul : (i + 1) * k' ≤ ds.length * k' := Nat.mul_le_mul_right _ hlt
      have hs1 : (i + 1) * k' = i * k' + k' := Nat.succ_mul i k'
      obtain ⟨fl, ρ3, r3, e3, ⟨hf, i3⟩, ok3, l3⟩ := h2 (c + k + i * k') r2 ok2 (l2.a.trans (l1.a.trans ha)) (by omega)
      refine ⟨ρ2, fl, ρ3, some r3, eg, e3, ?_⟩
      have fin : 0 + i + 1 ≤ ds.length → Inv (0 + i + 1) ρ3 ∧ ∃ r', some r3 = some r' ∧ RgOk ns (c + k + (0 + i + 1) * k') r' ∧ Later r1 r' := fun _ => by
        rw [Nat.zero_add, hs1, ← Nat.add_assoc]
        exact ⟨i3, r3, rfl, ok3, l2.trans l3⟩
      rcases hf with rfl | rfl <;> exact fin)
    (fun ρ S hI => by rw [Nat.zero_add] at hI; obtain ⟨i1, r', hr⟩ := hI (Nat.le_refl _); exact ⟨rfl, i1, r', hr⟩) ρ (some r1) (fun _ => ⟨h0, r1, rfl, by simpa using ok1, Later.refl r1⟩)
  obtain ⟨r', rfl, ok', l'⟩ := hR
  refine ⟨fl, ρ', r', ?_, ⟨hf, ds, pd, hl, hI⟩, ok'.up (by omega) hc, l1.trans l'⟩
  exact for_of e1 e
theorem rf_run {kk n : Nat} {m : MS} {ds : List D} {P : D → Prop} (hl : ds.length = kk) (h : RS ns a k m (startL n ds) (fun fl _ => ∃ d, fl = .rt d ∧ P d)) : RF ns a k (runR kk n m) ds P := fun c r ok ha hc => by
  obtain ⟨fl, ρ', r', e, ⟨d, rfl, p⟩, ok', l⟩ := h c r ok ha hc
  exact ⟨d, r', runR_rt hl e l.a l.g, p, ok', l⟩
theorem rf_draw {room : Int} (h0 : 0 < room) (h1 : room ≤ 1000000) : RF ns a 1 f_law_draw [.rng a, .int room] (fun d => ∃ v : Int, d = .int v ∧ 0 ≤ v ∧ v < room) := fun c r ok ha hc => by
  subst ha
  obtain ⟨v, r', e, v0, v1, ok', l⟩ := draw_ev ok (by omega) h0 h1
  exact ⟨_, r', e, ⟨v, rfl, v0, v1⟩, ok', l⟩
theorem rf_pick {ds : List D} (h0 : ds ≠ []) (hl : ds.length ≤ 1000) : RF ns a 1 f_law_pick [.rng a, .lst ds] (fun d => d ∈ ds) := fun c r ok ha hc => by
  subst ha
  obtain ⟨d, r', e, hd, ok', l⟩ := pick_ev ok (by omega) h0 hl
  exact ⟨d, r', e, hd, ok', l⟩
/-- a number drawn below what is told -/
theorem re_draw {i : Nat} {m : ME} {P : D → Prop} {R : Int} (hi : ρ[i]? = some (some (.imm (.rng a)))) (h : RE ns a k m ρ P) (hp : ∀ d, P d → ∃ room : Int, d = .int room ∧ 0 < room ∧ room ≤ R) (hR : R ≤ 1000000) :
    RE ns a (k + 1) (mCallR f_law_draw (mCons (mVar i) (mCons m (mPure [])))) ρ (fun d => ∃ v : Int, d = .int v ∧ 0 ≤ v ∧ v < R) := by
  have h1 := re_callR (f := f_law_draw) (k' := 1) (R := fun d => ∃ v : Int, d = .int v ∧ 0 ≤ v ∧ v < R) (re_cons (re_var hi) (re_cons h re_nil)) (by
    rintro ds ⟨d, e, rfl, rfl, d2, e2, rfl, p, rfl⟩
    obtain ⟨room, rfl, h0, h1⟩ := hp d2 p
    exact (rf_draw h0 (by omega)).mono (Nat.le_refl _) fun d ⟨v, e, v0, v1⟩ => ⟨v, e, v0, by omega⟩)
  exact h1.mono (by omega) fun d h => h
/-- one of several, as each of them is -/
theorem re_pick {i : Nat} {m : MA} {P : List D → Prop} {Q : D → Prop} (hi : ρ[i]? = some (some (.imm (.rng a)))) (h : RE ns a k m ρ P) (hp : ∀ ds, P ds → ds ≠ [] ∧ ds.length ≤ 1000 ∧ ∀ d ∈ ds, Q d) :
    RE ns a (k + 1) (mCallR f_law_pick (mCons (mVar i) (mCons (mLst m) (mPure [])))) ρ Q := by
  have h1 := re_callR (f := f_law_pick) (k' := 1) (R := Q) (re_cons (re_var hi) (re_cons (re_lst (R := fun x => ∃ ds, x = .lst ds ∧ P ds) h fun ds p => ⟨by have := (hp ds p).2.1; omega, ds, rfl, p⟩) re_nil)) (by
    rintro ds ⟨d, e, rfl, rfl, d2, e2, rfl, ⟨ds, rfl, p⟩, rfl⟩
    obtain ⟨h0, h1, h2⟩ := hp ds p
    exact (rf_pick h0 h1).mono (Nat.le_refl _) fun d hd => h2 d hd)
  exact h1.mono (by omega) fun d h => h
end
end K25
namespace Dv
open PySem PyProof.Rows L2
/-- data that can be compared, no deeper than n -/
def DP (n : Nat) (d : D) : Prop := ∃ p, toP d = some p ∧ p.canLay0 = true ∧ p.depth ≤ n
def DPs (n : Nat) (ds : List D) : Prop := ∃ ps, toPs ds = some ps ∧ PyData.canLayAll0 ps = true ∧ PyData.depthAll ps ≤ n
theorem DP.mono {n m : Nat} {d : D} (h : DP n d) (l : n ≤ m) : DP m d := let ⟨p, a, b, c⟩ := h; ⟨p, a, b, Nat.le_trans c l⟩
theorem dp_int (n : Nat) (i : Int) : DP n (.int i) := ⟨_, rfl, rfl, Nat.zero_le _⟩
theorem dp_bl (n : Nat) (b : Bool) : DP n (.bl b) := ⟨_, rfl, rfl, Nat.zero_le _⟩
theorem dp_non (n : Nat) : DP n .non := ⟨_, rfl, rfl, Nat.zero_le _⟩
theorem dp_str (n : Nat) {x : Str} (h : SeqAt.shaped (.str x) = true) : DP n (.str x) := ⟨_, rfl, SeqAt.canLay_of_shaped h, Nat.zero_le _⟩
theorem dps_of {n : Nat} : ∀ {ds : List D}, (∀ d ∈ ds, DP n d) → DPs n ds
  | [], _ => ⟨[], rfl, rfl, Nat.zero_le _⟩
  | d :: ds, h => by
    obtain ⟨p, a, b, c⟩ := h d List.mem_cons_self
    obtain ⟨ps, a', b', c'⟩ := dps_of (ds := ds) fun e he => h e (List.mem_cons_of_mem _ he)
    refine ⟨p :: ps, by simp only [toPs, a, a']; rfl, by simp [PyData.canLayAll0, b, b'], ?_⟩
    simp only [PyData.depthAll]
    omega
theorem dp_tup {n : Nat} {ds : List D} (h : ∀ d ∈ ds, DP n d) : DP (n + 1) (.tup ds) := by
  obtain ⟨ps, a, b, c⟩ := dps_of h
  exact ⟨.tuple ps, by simp only [toP, a]; rfl, by simpa [PyData.canLay0] using b, by simp only [PyData.depth]; omega⟩
theorem dp_kt {n : Nat} {ds : List D} (h : ∀ d ∈ ds, DP n d) : DP (n + 1) (.kt ds) := by
  obtain ⟨ps, a, b, c⟩ := dps_of h
  exact ⟨.tuple ps, by simp only [toP, a]; rfl, by simpa [PyData.canLay0] using b, by simp only [PyData.depth]; omega⟩
theorem dp_lst {n : Nat} {ds : List D} (h : ∀ d ∈ ds, DP n d) : DP (n + 1) (.lst ds) := by
  obtain ⟨ps, a, b, c⟩ := dps_of h
  exact ⟨.list ps, by simp only [toP, a]; rfl, by simpa [PyData.canLay0] using b, by simp only [PyData.depth]; omega⟩
theorem DP.shaped {n : Nat} {d : D} (h : DP n d) (hn : n ≤ 64) : ∃ p, toP d = some p ∧ SeqAt.shaped p = true := by
  obtain ⟨p, a, b, c⟩ := h
  refine ⟨p, a, ?_⟩
  show (p.canLay0 && decide (p.depth ≤ 64)) = true
  rw [b, decide_eq_true (by omega : p.depth ≤ 64)]; rfl
theorem eq_dp {n : Nat} {x y : D} (hx : DP n x) (hy : DP n y) (hn : n ≤ 64) : ∃ p q, toP x = some p ∧ toP y = some q ∧ eqD x y = some (.bl (PyData.eqv p q)) ∧ neD x y = some (.bl (!PyData.eqv p q)) := by
  obtain ⟨p, a, b⟩ := hx.shaped hn
  obtain ⟨q, a', b'⟩ := hy.shaped hn
  refine ⟨p, q, a, a', ?_, ?_⟩
  · unfold eqD; simp only [a, a', b, b']; rfl
  · unfold neD; simp only [a, a', b, b']; rfl
theorem toPs_nil {ds : List D} (h : toPs ds = some []) : ds = [] := by
  cases ds with
  | nil => rfl
  | cons d ds =>
    simp only [toPs] at h
    cases h1 : toP d <;> cases h2 : toPs ds <;> simp [h1, h2] at h
theorem eq_lst_nil {n : Nat} {ds : List D} (h : ∀ d ∈ ds, DP n d) (hn : n < 64) : eqD (.lst ds) (.lst []) = some (.bl (decide (ds = []))) ∧ neD (.lst ds) (.lst []) = some (.bl (decide (ds ≠ []))) := by
  obtain ⟨p, q, a, b, e1, e2⟩ := eq_dp (n := n + 1) (dp_lst h) (dp_lst (ds := []) (n := n) (fun _ h => by cases h)) (by omega)
  obtain ⟨ps, e3, _, _⟩ := dps_of h
  simp only [toP, e3, Option.map_some, Option.some.injEq] at a
  simp only [toP, toPs, Option.map_some, Option.some.injEq] at b
  subst a b
  rw [e1, e2]
  cases ps with
  | nil => rw [toPs_nil e3]; simp [PyData.eqv, PyData.eqvAll]
  | cons p ps =>
    have : ds ≠ [] := fun z => by subst z; simp [toPs] at e3
    simp [PyData.eqv, PyData.eqvAll, this]
end Dv
namespace K25
open PySem PyProof.Rows L2 Dv

/-- a ratio of told size -/
def NumD (dn nn : Nat) (d : D) : Prop := ∃ q, d = mk q ∧ 0 ≤ q ∧ Num dn nn q
def PosD (dn nn : Nat) (d : D) : Prop := ∃ q, d = mk q ∧ 0 < q ∧ Num dn nn q
theorem PosD.num {dn nn : Nat} {d : D} (h : PosD dn nn d) : NumD dn nn d := let ⟨q, a, b, c⟩ := h; ⟨q, a, Rat.le_of_lt b, c⟩
theorem Num.mono {dn nn dn' nn' : Nat} {q : Rat} (h : Num dn nn q) (h1 : dn ≤ dn') (h2 : nn ≤ nn') : Num dn' nn' q := ⟨Nat.le_trans h.den h1, Nat.le_trans h.num h2⟩
theorem NumD.mono {dn nn dn' nn' : Nat} {d : D} (h : NumD dn nn d) (h1 : dn ≤ dn') (h2 : nn ≤ nn') : NumD dn' nn' d := let ⟨q, a, b, c⟩ := h; ⟨q, a, b, c.mono h1 h2⟩
theorem PosD.mono {dn nn dn' nn' : Nat} {d : D} (h : PosD dn nn d) (h1 : dn ≤ dn') (h2 : nn ≤ nn') : PosD dn' nn' d := let ⟨q, a, b, c⟩ := h; ⟨q, a, b, c.mono h1 h2⟩
theorem mkRat_nonneg' {n : Int} {k : Nat} (hk : k ≠ 0) (hn : 0 ≤ n) : 0 ≤ mkRat n k := by
  by_cases h : n = 0
  · subst h; rw [Rat.zero_mkRat]; exact Rat.le_refl
  · exact Rat.le_of_lt (mkRat_pos hk (by omega))
/-- the ratio of two whole numbers -/
theorem q_pos {n d : Int} {dn nn : Nat} (h0 : 0 < n) (h1 : n ≤ nn) (d0 : 0 < d) (d1 : d ≤ dn) (hd : dn ≤ 1000000) : ∃ x, f_law_q [.int n, .int d] = some x ∧ PosD dn nn x := by
  obtain ⟨k, rfl⟩ : ∃ k : Nat, d = (k : Int) := ⟨d.toNat, by omega⟩
  refine ⟨_, q_nat (by omega) ?_, _, rfl, mkRat_pos (by omega) h0, num_mk (by omega) (by omega) (by omega)⟩
  have : k.log2 ≤ (1000000 : Nat).log2 := log2_mono (by omega)
  have e : (1000000 : Nat).log2 = 19 := by decide +kernel
  omega
theorem q_num {n d : Int} {dn nn : Nat} (h0 : 0 ≤ n) (h1 : n ≤ nn) (d0 : 0 < d) (d1 : d ≤ dn) (hd : dn ≤ 1000000) : ∃ x, f_law_q [.int n, .int d] = some x ∧ NumD dn nn x := by
  obtain ⟨k, rfl⟩ : ∃ k : Nat, d = (k : Int) := ⟨d.toNat, by omega⟩
  refine ⟨_, q_nat (by omega) ?_, _, rfl, mkRat_nonneg' (by omega) h0, num_mk (by omega) (by omega) (by omega)⟩
  have : k.log2 ≤ (1000000 : Nat).log2 := log2_mono (by omega)
  have e : (1000000 : Nat).log2 = 19 := by decide +kernel
  omega
theorem num_int {v : Int} {dn nn : Nat} (h0 : 0 ≤ v) (h1 : v ≤ nn) (hd : 1 ≤ dn) : NumD dn nn (.tup [.int v, .int 1]) :=
  ⟨(v : Rat), rfl, Rat.intCast_nonneg.mpr h0, ⟨hd, by show v.natAbs ≤ nn; omega⟩⟩
theorem mks_of {P : Rat → Prop} : ∀ {ys : List D}, (∀ y ∈ ys, ∃ q, y = mk q ∧ P q) → ∃ qs : List Rat, ys = qs.map mk ∧ ∀ q ∈ qs, P q
  | [], _ => ⟨[], rfl, fun _ h => by cases h⟩
  | y :: ys, h => by
    obtain ⟨q, rfl, hq⟩ := h y List.mem_cons_self
    obtain ⟨qs, rfl, hqs⟩ := mks_of (ys := ys) fun z hz => h z (List.mem_cons_of_mem _ hz)
    exact ⟨q :: qs, rfl, fun z hz => by
      (rcases List.mem_cons.mp hz with rfl | hz)
      · exact hq
      · exact hqs z hz⟩
theorem vec_mk (qs : List Rat) : VecR (.tup (qs.map mk)) qs := ⟨_, rfl, rl_mk qs⟩
theorem dp_mk (n : Nat) (q : Rat) : DP (n + 1) (mk q) := dp_tup fun d hd => by
  (rcases List.mem_cons.mp hd with rfl | hd)
  · exact dp_int _ _
  · (rcases List.mem_cons.mp hd with rfl | hd)
    · exact dp_int _ _
    · cases hd
/-- prices -/
structure PriR (goods dn nn : Nat) (x : D) : Prop where
  ex : ∃ ps : List Rat, x = .tup (ps.map mk) ∧ ps.length = goods ∧ ∀ q ∈ ps, 0 < q ∧ Num dn nn q
/-- a bundle -/
structure BdlR (goods dn nn : Nat) (x : D) : Prop where
  ex : ∃ qs : List Rat, x = .tup (qs.map mk) ∧ qs.length = goods ∧ (∀ q ∈ qs, 0 ≤ q ∧ Num dn nn q) ∧ ∃ q ∈ qs, 0 < q
variable {ns : List Int} {a : Addr}
theorem range_len (n : Nat) : (rangeL 0 (n : Int)).length = n := by unfold rangeL; rw [List.length_map, List.length_range]; omega
theorem mem_range {d : D} {n : Nat} (h : d ∈ rangeL 0 (n : Int)) : ∃ i : Nat, d = .int i ∧ i < n := by
  unfold rangeL at h
  (obtain ⟨i, hi, rfl⟩ := List.mem_map.mp h); exact ⟨i, by simp, by have := List.mem_range.mp hi; omega⟩
theorem prices_rf {g : Nat} {s : Int} (hg : g ≤ 4) (s0 : 1 ≤ s) (s1 : s ≤ 9) : RF ns a 12 f_law_bu_prices [.rng a, .int (g : Nat), .int s] (PriR g 3 9) := by
  have h := rf_run (ns := ns) (a := a) (kk := 3) (n := 4) (ds := [.rng a, .int (g : Nat), .int s]) (P := PriR g 3 9) (k := (rangeL 0 (g : Int)).length * 3 + 0) (m := m_law_bu_prices) rfl (rs_ret (P := PriR g 3 9) (re_call (f := tupleD) (re_cons (re_lc (ds := rangeL 0 (g : Int)) (mi := mRg1 (mCons (mVarB 1) (mPure []))) (vs := [3]) (g := gNm 3) (k := 3) (P := PosD 3 9)
    (m := mCall f_law_q (mCons (mOp2 addD (mPure (.int 1)) (mCallR f_law_draw (mCons (mVar 0) (mCons (mVar 2) (mPure []))))) (mCons (mOp2 addD (mPure (.int 1)) (mCallR f_law_draw (mCons (mVar 0) (mCons (mCallR f_law_pick (mCons (mVar 0) (mCons (mLst (mCons (mPure (.int 1)) (mCons (mPure (.int 1)) (mCons (mPure (.int 3)) (mPure []))))) (mPure [])))) (mPure []))))) (mPure []))))
    (ρ := [some (.imm (.rng a)), some (.imm (.int (g : Nat))), some (.imm (.int s)), none])
    (fun S => rg1_nat rfl (by omega)) (fun d hd => by
      refine ⟨_, rfl, ?_⟩
      refine (re_call (re_cons (re_op2 (R := fun d => ∃ v : Int, d = .int v ∧ 1 ≤ v ∧ v ≤ 9) re_cst (re_draw (R := 9) rfl (re_var (d := .int s)) (fun d h => ⟨s, h, by omega, by omega⟩) (by omega)) ?_) (re_cons (re_op2 (R := fun d => ∃ v : Int, d = .int v ∧ 1 ≤ v ∧ v ≤ 3) re_cst (re_draw (R := 3) rfl
        (re_pick (Q := fun d => ∃ room : Int, d = .int room ∧ 0 < room ∧ room ≤ 3) rfl (re_cons re_cst (re_cons re_cst (re_cons re_cst re_nil))) ?_) (fun d h => h) (by omega)) ?_) re_nil)) ?_).mono (by omega) fun d h => h
      · rintro x y rfl ⟨v, rfl, v0, v1⟩
        exact ⟨_, addD_int _ _, _, rfl, by omega, by omega⟩
      · rintro ds ⟨d1, e1, rfl, rfl, d2, e2, rfl, rfl, d3, e3, rfl, rfl, rfl⟩
        refine ⟨by simp, by simp, fun d hd => ?_⟩
        simp only [List.mem_cons, List.not_mem_nil, or_false] at hd
        rcases hd with rfl | rfl | rfl
        · exact ⟨1, rfl, by omega, by omega⟩
        · exact ⟨1, rfl, by omega, by omega⟩
        · exact ⟨3, rfl, by omega, by omega⟩
      · rintro x y rfl ⟨v, rfl, v0, v1⟩
        exact ⟨_, addD_int _ _, _, rfl, by omega, by omega⟩
      · rintro ds ⟨d1, e1, rfl, ⟨v, rfl, v0, v1⟩, d2, e2, rfl, ⟨w, rfl, w0, w1⟩, rfl⟩
        exact q_pos (by omega) (by omega) (by omega) (by omega) (by omega))) re_nil) (by
    rintro ds ⟨d1, e1, rfl, ⟨ys, rfl, hl, hp⟩, rfl⟩
    obtain ⟨qs, rfl, hq⟩ := mks_of hp
    refine ⟨_, rfl, ⟨qs, rfl, ?_, hq⟩⟩
    rw [List.length_map, range_len] at hl
    exact hl)))
  exact h.mono (by rw [range_len]; omega) fun d h => h
end K25
namespace K25
open PySem PyProof.Rows L2 Dv

theorem ne_of_eq {x y : D} {b : Bool} (h : eqD x y = some (.bl b)) : neD x y = some (.bl (!b)) := by
  unfold eqD at h
  unfold neD
  split at h
  · rename_i p q e1 e2
    split at h
    · rename_i hs
      rw [if_pos hs]
      have : PyData.eqv p q = b := by simpa using h
      rw [this]
    · cases h
  · cases h
theorem mk_zero : mk 0 = .tup [.int 0, .int 1] := rfl
theorem mk_one : mk 1 = .tup [.int 1, .int 1] := rfl
theorem ne_zero (q : Rat) : neD (mk q) (.tup [.int 0, .int 1]) = some (.bl (decide (q ≠ 0))) := by
  rw [← mk_zero, ne_of_eq (eq_mk q 0)]
  by_cases h : q = 0 <;> simp [h]
theorem mTst_of {m : ME} {ρ : Lo} {S S1 : Sg} {b : Bool} (h : m ρ S = some (.bl b, S1)) : mTst m ρ S = some (b, S1) := by
  unfold mTst; rw [h]; rfl
variable {ns : List Int} {a : Addr}
def bTest : MT := mTst (mOp2 eqD (mLc (mOwn 3) [5] (gNm 5) (mTst (mOp2 neD (mVarB 5) (mTup (mCons (mPure (.int 0)) (mCons (mPure (.int 1)) (mPure [])))))) (mPure (.int 1))) (mLst (mPure [])))
theorem btest_ev (qs : List Rat) (x y z : D) (w : Option LV) (S : Sg) : ∃ b : Bool, bTest [some (.imm x), some (.imm y), some (.imm z), some (.own (.lst (qs.map mk))), w, none] S = some (b, S) ∧ (b = true → ∀ q ∈ qs, q = 0) ∧ (b = false → ∃ q ∈ qs, q ≠ 0) := by
  have el := lc_if (g := gNm 5) (t := mTst (mOp2 neD (mVarB 5) (mTup (mCons (mPure (.int 0)) (mCons (mPure (.int 1)) (mPure [])))))) (m := mPure (.int 1)) (S := S) (ρ := [some (.imm x), some (.imm y), some (.imm z), some (.own (.lst (qs.map mk))), w, none]) (fun q : Rat => decide (q ≠ 0)) (fun _ => D.int 1) (paired_mapL (R := fun d q => d = mk q) (e := mk) (fun _ => rfl) qs) fun d q hd hm => by
    subst hd
    refine ⟨_, rfl, ?_, fun _ => rfl⟩
    simp only [runP, startL, outF, mVar, mVarB, mPure, mOp1, mOp2, mCons, mCall, mTup, mLst, mTst, asB, mNot, mAnd, mOr, mAndV, mOrV, mIte, mSeq, sSq, sIf, sRet, sSet, sSetF, sNil, sFrz, frz, sExpr, sPar2, sPar3, sAsg, mkL, gNm, gTp, gCns, gNl, D.asT, itemsD, addD_int, subD_int, ltD_int, leD_int, gtD_int, geD_int, negD_int, gcdD_int, absD_int, Option.bind_some, Option.map_some, Option.bind_none, Option.map_none, List.map_cons, List.map_nil, List.length_cons, List.length_nil, List.cons_append, List.nil_append, List.getElem?_cons_zero, List.getElem?_cons_succ, List.set_cons_zero, List.set_cons_succ, List.replicate_succ, List.replicate_zero, Nat.reduceAdd, Nat.reduceSub, Nat.reduceLeDiff, if_true, if_false, ite_true, ite_false, Bool.false_eq_true, ne_zero]
  obtain ⟨e1, e2⟩ := eq_lst_nil (n := 0) (ds := (qs.filter fun q => decide (q ≠ 0)).map fun _ => D.int 1) (fun d hd => by
    obtain ⟨q, _, rfl⟩ := List.mem_map.mp hd
    exact dp_int _ _) (by omega)
  refine ⟨decide ((qs.filter fun q => decide (q ≠ 0)).map (fun _ => D.int 1) = []), ?_, fun hb q hq => ?_, fun hb => ?_⟩
  · have em : mLc (mOwn 3) [5] (gNm 5) (mTst (mOp2 neD (mVarB 5) (mTup (mCons (mPure (.int 0)) (mCons (mPure (.int 1)) (mPure [])))))) (mPure (.int 1)) [some (.imm x), some (.imm y), some (.imm z), some (.own (.lst (qs.map mk))), w, none] S = some (.lst ((qs.filter fun q => decide (q ≠ 0)).map fun _ => D.int 1), S) := by
      unfold mLc
      show Option.bind (some (qs.map mk, S)) _ = _
      simp only [Option.bind_some]
      show Option.map _ (lcGo [some (.imm x), some (.imm y), some (.imm z), some (.own (.lst (qs.map mk))), w, none] _ _ _ _ _) = _
      rw [el]; rfl
    exact mTst_of (mOp2_of em rfl e1)
  · have h := of_decide_eq_true hb
    rw [List.map_eq_nil_iff, List.filter_eq_nil_iff] at h
    simpa using h q hq
  · have h := of_decide_eq_false hb
    rw [List.map_eq_nil_iff, List.filter_eq_nil_iff] at h
    simp only [decide_eq_true_eq, Classical.not_forall, Classical.not_not] at h
    obtain ⟨q, hq, h⟩ := h
    exact ⟨q, hq, h⟩
theorem pos_of {q : Rat} (h0 : 0 ≤ q) (h1 : q ≠ 0) : 0 < q := by grind
noncomputable def bPick : ME := mCallR f_law_pick (mCons (mVar 0) (mCons (mLst (mCons (mTup (mCons (mPure (.int 0)) (mCons (mPure (.int 1)) (mPure [])))) (mCons (mTup (mCons (mCallR f_law_draw (mCons (mVar 0) (mCons (mOp2 addD (mVarB 2) (mPure (.int 1))) (mPure [])))) (mCons (mPure (.int 1)) (mPure [])))) (mCons (mCall f_law_q (mCons (mCallR f_law_draw (mCons (mVar 0) (mCons (mOp2 addD (mVarB 2) (mPure (.int 1))) (mPure [])))) (mCons (mOp2 addD (mPure (.int 1)) (mCallR f_law_draw (mCons (mVar 0) (mCons (mPure (.int 3)) (mPure []))))) (mPure [])))) (mPure []))))) (mPure [])))
theorem bpick_re {y : D} {s : Int} {u v w : Option LV} (s0 : 1 ≤ s) (s1 : s ≤ 9) : RE ns a 4 bPick [some (.imm (.rng a)), some (.imm y), some (.imm (.int s)), u, v, w] (NumD 3 9) := by
  have dr : RE ns a 1 (mCallR f_law_draw (mCons (mVar 0) (mCons (mOp2 addD (mVarB 2) (mPure (.int 1))) (mPure [])))) [some (.imm (.rng a)), some (.imm y), some (.imm (.int s)), u, v, w] (fun d => ∃ v : Int, d = .int v ∧ 0 ≤ v ∧ v < 10) :=
    (re_draw (R := 10) rfl (re_op2 (R := fun d => d = .int (s + 1)) (re_varB (d := .int s)) re_cst (by rintro x y rfl rfl; exact ⟨_, addD_int _ _, rfl⟩)) (fun d h => ⟨s + 1, h, by omega, by omega⟩) (by omega)).mono (by omega) fun d h => h
  refine (re_pick (Q := NumD 3 9) rfl (re_cons (re_tup (R := NumD 3 9) (re_cons re_cst (re_cons re_cst re_nil)) ?_) (re_cons (re_tup (R := NumD 3 9) (re_cons dr (re_cons re_cst re_nil)) ?_) (re_cons (re_call (R := NumD 3 9) (re_cons dr (re_cons (re_op2 (R := fun d => ∃ v : Int, d = .int v ∧ 1 ≤ v ∧ v ≤ 3) re_cst (re_draw (R := 3) rfl re_cst (fun d h => ⟨3, h, by omega, by omega⟩) (by omega)) ?_) re_nil)) ?_) re_nil))) ?_).mono (by omega) fun d h => h
  · rintro ds ⟨d1, e1, rfl, rfl, d2, e2, rfl, rfl, rfl⟩
    exact ⟨by simp, num_int (by omega) (by omega) (by omega)⟩
  · rintro ds ⟨d1, e1, rfl, ⟨v, rfl, v0, v1⟩, d2, e2, rfl, rfl, rfl⟩
    exact ⟨by simp, num_int v0 (by omega) (by omega)⟩
  · rintro x y rfl ⟨v, rfl, v0, v1⟩
    exact ⟨_, addD_int _ _, _, rfl, by omega, by omega⟩
  · rintro ds ⟨d1, e1, rfl, ⟨v, rfl, v0, v1⟩, d2, e2, rfl, ⟨w, rfl, w0, w1⟩, rfl⟩
    exact q_num v0 (by omega) (by omega) (by omega) (by omega)
  · rintro ds ⟨d1, e1, rfl, n1, d2, e2, rfl, n2, d3, e3, rfl, n3, rfl⟩
    refine ⟨by simp, by simp, fun d hd => ?_⟩
    simp only [List.mem_cons, List.not_mem_nil, or_false] at hd
    rcases hd with rfl | rfl | rfl
    · exact n1
    · exact n2
    · exact n3
theorem set_map (qs : List Rat) (j : Nat) (q : Rat) : (qs.map mk).set j (mk q) = (qs.set j q).map mk := by rw [List.map_set]
theorem bundle_rf {g : Nat} {s : Int} (g0 : 1 ≤ g) (hg : g ≤ 4) (s0 : 1 ≤ s) (s1 : s ≤ 9) : RF ns a 20 f_law_bu_bundle [.rng a, .int (g : Nat), .int s] (BdlR g 3 9) := by
  have h1 := rs_setF (i := 3) (re_lc (ns := ns) (a := a) (k := 4) (P := NumD 3 9) (ds := rangeL 0 (g : Int)) (mi := mRg1 (mCons (mVarB 1) (mPure []))) (vs := [4]) (g := gNm 4) (m := bPick) (ρ := [some (.imm (.rng a)), some (.imm (.int (g : Nat))), some (.imm (.int s)), none, none, none])
    (fun S => rg1_nat rfl (by omega)) (fun d hd => ⟨_, rfl, bpick_re s0 s1⟩))
  have h := rf_run (ns := ns) (a := a) (kk := 3) (n := 6) (ds := [.rng a, .int (g : Nat), .int s]) (P := BdlR g 3 9) (k := (rangeL 0 (g : Int)).length * 4 + (0 + 1 + 0)) (m := m_law_bu_bundle) rfl (rs_sq (P := fun ρ => ∃ qs : List Rat, qs.length = g ∧ (∀ q ∈ qs, 0 ≤ q ∧ Num 3 9 q) ∧ ρ = [some (.imm (.rng a)), some (.imm (.int (g : Nat))), some (.imm (.int s)), some (.own (.lst (qs.map mk))), none, none]) (h1.mono (Nat.le_refl _) ?_) ?_)
  · exact h.mono (by rw [range_len]; omega) fun d h => h
  · rintro fl ρ' ⟨rfl, d, ⟨ys, rfl, hl, hp⟩, rfl⟩
    obtain ⟨qs, rfl, hq⟩ := mks_of hp
    refine ⟨rfl, qs, ?_, hq, rfl⟩
    rw [List.length_map, range_len] at hl
    exact hl
  · rintro ρ ⟨qs, hl, hq, rfl⟩
    refine rs_sq (P := fun ρ => ∃ qs : List Rat, qs.length = g ∧ (∀ q ∈ qs, 0 ≤ q ∧ Num 3 9 q) ∧ (∃ q ∈ qs, 0 < q) ∧ ρ = [some (.imm (.rng a)), some (.imm (.int (g : Nat))), some (.imm (.int s)), some (.own (.lst (qs.map mk))), none, none]) ?_ ?_
    · refine rs_if (k := 0) (k' := 1) (P := fun b => (b = true → ∀ q ∈ qs, q = 0) ∧ (b = false → ∃ q ∈ qs, q ≠ 0)) ?_ (fun hb => ?_) (fun hb => ?_)
      · intro c r ok ha hc
        obtain ⟨b, e, hb⟩ := btest_ev qs (.rng a) (.int (g : Nat)) (.int s) none (some r)
        exact ⟨b, r, e, hb, ok, Later.refl r⟩
      · have h2 := rs_ix (ns := ns) (a := a) (i := 3) (k := 0) (k' := 1) (m := mTup (mCons (mPure (.int 1)) (mCons (mPure (.int 1)) (mPure [])))) (mk := mCallR f_law_draw (mCons (mVar 0) (mCons (mVar 1) (mPure [])))) (P := fun d => d = mk 1) (ds := qs.map mk)
          (ρ := [some (.imm (.rng a)), some (.imm (.int (g : Nat))), some (.imm (.int s)), some (.own (.lst (qs.map mk))), none, none]) rfl
          (re_pure (fun _ => rfl) rfl) ((re_draw (R := (g : Int)) rfl (re_var (d := .int (g : Nat))) (fun d h => ⟨g, h, by omega, by omega⟩) (by omega)).mono (by omega) fun d ⟨v, e, v0, v1⟩ => ⟨v, e, v0, by rw [List.length_map, hl]; exact v1⟩)
        refine h2.mono (by omega) ?_
        rintro fl ρ' ⟨rfl, d, j, rfl, hj, rfl⟩
        rw [List.length_map] at hj
        refine ⟨rfl, qs.set j 1, by rw [List.length_set]; exact hl, fun q hq' => ?_, ⟨1, List.mem_iff_getElem?.mpr ⟨j, List.getElem?_set_self hj⟩, by decide⟩, ?_⟩
        · rcases List.mem_or_eq_of_mem_set hq' with h | rfl
          · exact hq q h
          · exact ⟨by decide, ⟨by decide, by decide⟩⟩
        · rw [← set_map]; rfl
      · refine rs_nil.mono (by omega) ?_
        rintro fl ρ' ⟨rfl, rfl⟩
        obtain ⟨q, hm, h0⟩ := hb.2 rfl
        exact ⟨rfl, qs, hl, hq, ⟨q, hm, pos_of (hq q hm).1 h0⟩, rfl⟩
    · rintro ρ ⟨qs, hl, hq, hp, rfl⟩
      refine (rs_ret (k := 0) (P := BdlR g 3 9) (re_pure (d := .tup (qs.map mk)) (fun _ => rfl) ⟨qs, rfl, hl, hq, hp⟩))
end K25
namespace K25
open PySem PyProof.Rows L2 Dv

variable {ns : List Int} {a : Addr}
theorem log_le {i : Int} {n k : Nat} (h : i.natAbs ≤ n) (e : n.log2 ≤ k) : i.natAbs.log2 ≤ k := Nat.le_trans (log2_mono h) e
theorem Num.le {dn nn : Nat} {q : Rat} (h : Num dn nn q) (hq : 0 < q) : 0 < q.num ∧ q.num ≤ nn ∧ 0 < (q.den : Int) ∧ (q.den : Int) ≤ dn := by
  have h1 := h.num
  have h2 := h.den
  have h3 := num_pos hq
  have h4 := q.den_pos
  omega
theorem small_log {i : Int} (h : i.natAbs ≤ 1000000) : i.natAbs.log2 ≤ 19 := log_le h (by decide +kernel)
/-- _law_times by a pair that need not be in lowest terms -/
theorem times_raw {x : D} {v t : Int} {dn nn : Nat} (hx : PosD dn nn x) (v0 : 0 < v) (t0 : 0 < t) {vn tn : Nat} (v1 : v ≤ vn) (t1 : t ≤ tn) (hn : nn * vn ≤ 1000000) (hd : dn * tn ≤ 1000000) (hb : nn ≤ 1000000 ∧ dn ≤ 1000000 ∧ vn ≤ 1000000 ∧ tn ≤ 1000000) :
    ∃ y, f_law_times [x, .tup [.int v, .int t]] = some y ∧ PosD (dn * tn) (nn * vn) y := by
  obtain ⟨q, rfl, hq, hs⟩ := hx
  obtain ⟨n0, n1, d0, d1⟩ := hs.le hq
  have m1 : q.num.natAbs.log2 + v.natAbs.log2 < 1000000 := by
    have := small_log (i := q.num) (by omega)
    have := small_log (i := v) (by omega)
    omega
  have m2 : (q.den : Int).natAbs.log2 + t.natAbs.log2 < 1000000 := by
    have := small_log (i := (q.den : Int)) (by omega)
    have := small_log (i := t) (by omega)
    omega
  have a1 : q.num * v ≤ (nn : Int) * vn := Int.mul_le_mul n1 v1 (by omega) (by omega)
  have a2 : (q.den : Int) * t ≤ (dn : Int) * tn := Int.mul_le_mul d1 t1 (by omega) (by omega)
  obtain ⟨y, e, hy⟩ := q_pos (n := q.num * v) (d := (q.den : Int) * t) (dn := dn * tn) (nn := nn * vn) (Int.mul_pos n0 v0) (by rw [Int.natCast_mul]; exact a1) (Int.mul_pos d0 t0) (by rw [Int.natCast_mul]; exact a2) hd
  refine ⟨y, ?_, hy⟩
  have i0 : ixD (.tup [.int v, .int t]) (.int 0) = some (.int v) := rfl
  have i1 : ixD (.tup [.int v, .int t]) (.int 1) = some (.int t) := rfl
  simp only [runP, startL, outF, mVar, mVarB, mPure, mOp1, mOp2, mCons, mCall, mTup, mLst, mTst, asB, mNot, mAnd, mOr, mAndV, mOrV, mIte, mSeq, sSq, sIf, sRet, sSet, sSetF, sNil, sFrz, frz, sExpr, sPar2, sPar3, sAsg, mkL, gNm, gTp, gCns, gNl, D.asT, itemsD, addD_int, subD_int, ltD_int, leD_int, gtD_int, geD_int, negD_int, gcdD_int, absD_int, Option.bind_some, Option.map_some, Option.bind_none, Option.map_none, List.map_cons, List.map_nil, List.length_cons, List.length_nil, List.cons_append, List.nil_append, List.getElem?_cons_zero, List.getElem?_cons_succ, List.set_cons_zero, List.set_cons_succ, List.replicate_succ, List.replicate_zero, Nat.reduceAdd, Nat.reduceSub, Nat.reduceLeDiff, if_true, if_false, ite_true, ite_false, Bool.false_eq_true, f_law_times, m_law_times, (isR_mk q).at0, (isR_mk q).at1, i0, i1, mulI_int m1, mulI_int m2, e]
theorem over_pos {x y : D} {dn nn dn' nn' : Nat} (hx : PosD dn nn x) (hy : PosD dn' nn' y) (hn : nn * dn' ≤ 1000000) (hd : dn * nn' ≤ 1000000) (hb : nn ≤ 1000000 ∧ dn ≤ 1000000 ∧ nn' ≤ 1000000 ∧ dn' ≤ 1000000) :
    ∃ z, f_law_over [x, y] = some z ∧ PosD (dn * nn') (nn * dn') z := by
  obtain ⟨q, rfl, hq, hs⟩ := hx
  obtain ⟨p, rfl, hp, hs'⟩ := hy
  obtain ⟨n0, n1, d0, d1⟩ := hs.le hq
  obtain ⟨n0', n1', d0', d1'⟩ := hs'.le hp
  have m1 : q.num.natAbs.log2 + (p.den : Int).natAbs.log2 < 1000000 := by
    have := small_log (i := q.num) (by omega)
    have := small_log (i := (p.den : Int)) (by omega)
    omega
  have m2 : (q.den : Int).natAbs.log2 + p.num.natAbs.log2 < 1000000 := by
    have := small_log (i := (q.den : Int)) (by omega)
    have := small_log (i := p.num) (by omega)
    omega
  have a1 : q.num * p.den ≤ (nn : Int) * dn' := Int.mul_le_mul n1 d1' (by omega) (by omega)
  have a2 : (q.den : Int) * p.num ≤ (dn : Int) * nn' := Int.mul_le_mul d1 n1' (by omega) (by omega)
  obtain ⟨z, e, hz⟩ := q_pos (n := q.num * p.den) (d := (q.den : Int) * p.num) (dn := dn * nn') (nn := nn * dn') (Int.mul_pos n0 d0') (by rw [Int.natCast_mul]; exact a1) (Int.mul_pos d0 n0') (by rw [Int.natCast_mul]; exact a2) hd
  refine ⟨z, ?_, hz⟩
  simp only [runP, startL, outF, mVar, mVarB, mPure, mOp1, mOp2, mCons, mCall, mTup, mLst, mTst, asB, mNot, mAnd, mOr, mAndV, mOrV, mIte, mSeq, sSq, sIf, sRet, sSet, sSetF, sNil, sFrz, frz, sExpr, sPar2, sPar3, sAsg, mkL, gNm, gTp, gCns, gNl, D.asT, itemsD, addD_int, subD_int, ltD_int, leD_int, gtD_int, geD_int, negD_int, gcdD_int, absD_int, Option.bind_some, Option.map_some, Option.bind_none, Option.map_none, List.map_cons, List.map_nil, List.length_cons, List.length_nil, List.cons_append, List.nil_append, List.getElem?_cons_zero, List.getElem?_cons_succ, List.set_cons_zero, List.set_cons_succ, List.replicate_succ, List.replicate_zero, Nat.reduceAdd, Nat.reduceSub, Nat.reduceLeDiff, if_true, if_false, ite_true, ite_false, Bool.false_eq_true, f_law_over, m_law_over, (isR_mk q).at0, (isR_mk q).at1, (isR_mk p).at0, (isR_mk p).at1, mulI_int m1, mulI_int m2, e]
theorem intsD_map : ∀ l : List Int, intsD (l.map D.int) = some l
  | [] => rfl
  | x :: l => by simp only [List.map_cons, intsD, intsD_map l]; rfl
theorem sum_map (l : List Int) : sumD [.lst (l.map D.int)] = some (.int l.sum) := by
  show Option.map (fun bs : List Int => D.int bs.sum) (intsD (l.map D.int)) = _
  rw [intsD_map]; rfl
theorem sum_bd : ∀ {l : List Int}, (∀ v ∈ l, 1 ≤ v ∧ v ≤ 4) → (l.length : Int) ≤ l.sum ∧ l.sum ≤ 4 * l.length
  | [], _ => by simp
  | x :: l, h => by
    have h1 := h x List.mem_cons_self
    have h2 := sum_bd (l := l) fun v hv => h v (List.mem_cons_of_mem _ hv)
    (simp only [List.sum_cons, List.length_cons]); omega
/-- a row as it is drawn -/
def FR (g : Nat) (d : D) : Prop := ∃ x y, d = .tup [x, y] ∧ PriR g 3 9 x ∧ BdlR g 288 240 y
theorem BdlR.mono {g dn nn dn' nn' : Nat} {x : D} (h : BdlR g dn nn x) (h1 : dn ≤ dn') (h2 : nn ≤ nn') : BdlR g dn' nn' x := by
  obtain ⟨qs, e, hl, hq, hp⟩ := h.ex
  exact ⟨qs, e, hl, fun q hm => ⟨(hq q hm).1, (hq q hm).2.mono h1 h2⟩, hp⟩
theorem bdl_pos {g dn nn : Nat} {ys : List D} (hl : ys.length = g) (g1 : 1 ≤ g) (h : ∀ y ∈ ys, PosD dn nn y) : BdlR g dn nn (.tup ys) := by
  obtain ⟨qs, rfl, hq⟩ := mks_of h
  rw [List.length_map] at hl
  refine ⟨qs, rfl, hl, fun q hm => ⟨Rat.le_of_lt (hq q hm).1, (hq q hm).2⟩, ?_⟩
  cases qs with
  | nil => simp at hl; omega
  | cons q qs => exact ⟨q, List.mem_cons_self, (hq q List.mem_cons_self).1⟩
def gLo (a : Addr) (R : Int) (g : Nat) (shs : List Int) (w s : Int) (fds : List D) (l m8 m9 p b x y : Option LV) : Lo :=
  [some (.imm (.rng a)), some (.imm (.int R)), some (.imm (.int (g : Nat))), some (.imm (.lst (shs.map D.int))), l, some (.imm (.int w)), some (.imm (.int s)), some (.own (.lst fds)), m8, m9, p, b, x, y]
structure GC (g : Nat) (shs : List Int) (w s : Int) (fds : List D) : Prop where
  g1 : 2 ≤ g
  g4 : g ≤ 4
  sl : shs.length = g
  sb : ∀ v ∈ shs, 1 ≤ v ∧ v ≤ 4
  s0 : 1 ≤ s
  s9 : s ≤ 9
  fr : ∀ d ∈ fds, FR g d
  fl : fds.length ≤ 8
/-- ahead of each statement of a turn -/
def Mid (a : Addr) (R : Int) (g : Nat) (shs : List Int) (w s : Int) (fds : List D) (ρ : Lo) : Prop :=
  ∃ l m8 m9 x y u v, ρ = gLo a R g shs w s fds l (some (.imm m8)) m9 (some (.imm x)) (some (.imm y)) u v ∧ PosD 2 20 m8 ∧ PriR g 3 9 x ∧ BdlR g 288 240 y
section
variable {R : Int} {g : Nat} {shs : List Int} {w s : Int} {fds : List D} {ρ : Lo} {k k' : Nat}
theorem mid_11 (h : Mid a R g shs w s fds ρ) {t : MT} {m : ME} {Pb : Bool → Prop} (ht : RE ns a k t ρ Pb) (hm : Pb true → RE ns a k' m ρ (BdlR g 288 240)) : RS ns a (k + k') (sIf t (sSet 11 m) sNil) ρ (fun fl ρ' => fl = .nx ∧ Mid a R g shs w s fds ρ') := by
  obtain ⟨l, m8, m9, x, y, u, v, rfl, h8, hx, hy⟩ := h
  refine rs_if ht (fun hb => (rs_set (hm hb)).mono (Nat.le_refl _) ?_) (fun hb => rs_nil.mono (Nat.zero_le _) ?_)
  · rintro fl ρ' ⟨rfl, d, hd, rfl⟩
    exact ⟨rfl, l, m8, m9, x, d, u, v, rfl, h8, hx, hd⟩
  · rintro fl ρ' ⟨rfl, rfl⟩
    exact ⟨rfl, l, m8, m9, x, y, u, v, rfl, h8, hx, hy⟩
theorem mid_10 (h : Mid a R g shs w s fds ρ) {t : MT} {m : ME} {Pb : Bool → Prop} (ht : RE ns a k t ρ Pb) (hm : Pb true → RE ns a k' m ρ (PriR g 3 9)) : RS ns a (k + k') (sIf t (sSet 10 m) sNil) ρ (fun fl ρ' => fl = .nx ∧ Mid a R g shs w s fds ρ') := by
  obtain ⟨l, m8, m9, x, y, u, v, rfl, h8, hx, hy⟩ := h
  refine rs_if ht (fun hb => (rs_set (hm hb)).mono (Nat.le_refl _) ?_) (fun hb => rs_nil.mono (Nat.zero_le _) ?_)
  · rintro fl ρ' ⟨rfl, d, hd, rfl⟩
    exact ⟨rfl, l, m8, m9, d, y, u, v, rfl, h8, hd, hy⟩
  · rintro fl ρ' ⟨rfl, rfl⟩
    exact ⟨rfl, l, m8, m9, x, y, u, v, rfl, h8, hx, hy⟩
/-- way in [1, 2] -/
theorem st3 (c : GC g shs w s fds) (h : Mid a R g shs w s fds ρ) : RS ns a 0 (sIf (mTst (mOp2 inD (mVarB 5) (mLst (mCons (mPure (.int 1)) (mCons (mPure (.int 2)) (mPure [])))))) (sSet 11 (mCall tupleD (mCons (mLc (mZip2 (mCons (mVar 3) (mCons (mVar 10) (mPure [])))) [12, 13] (gTp 2 (gCns (gNm 12) (gCns (gNm 13) gNl))) (mPure true) (mCall f_law_over (mCons (mCall f_law_times (mCons (mVar 8) (mCons (mTup (mCons (mVar 12) (mCons (mCall sumD (mCons (mVarB 3) (mPure []))) (mPure [])))) (mPure [])))) (mCons (mVar 13) (mPure []))))) (mPure [])))) sNil) ρ (fun fl ρ' => fl = .nx ∧ Mid a R g shs w s fds ρ') := by
  have h0 := h
  obtain ⟨l, m8, m9, x, y, u, v, rfl, h8, hx, hy⟩ := h
  obtain ⟨ps, rfl, hl, hp⟩ := hx.ex
  refine mid_11 h0 (k := 0) (k' := 0) (Pb := fun _ => True) (re_pure (d := [D.int 1, .int 2].any fun z => eqFl z (.int w)) (fun _ => rfl) trivial) fun _ => ?_
  have hs := sum_bd c.sb
  have g1 := c.g1
  have g4 := c.g4
  have sl := c.sl
  have hzl : (List.zipWith (fun a b => D.tup [a, b]) (shs.map D.int) (ps.map mk)).length = g := by
    rw [List.length_zipWith, List.length_map, List.length_map, c.sl, hl, Nat.min_self]
  refine (re_call (f := tupleD) (re_cons (re_lc (k := 0) (P := PosD 288 240) (ds := List.zipWith (fun a b => D.tup [a, b]) (shs.map D.int) (ps.map mk)) (fun S => rfl) (fun d hd => ?_)) re_nil) ?_).mono (by omega) fun d h => h
  · obtain ⟨i, hi⟩ := List.mem_iff_getElem?.mp hd
    rw [List.getElem?_zipWith, List.getElem?_map, List.getElem?_map] at hi
    cases e1 : shs[i]? with
    | none => rw [e1] at hi; cases hi
    | some sh =>
      cases e2 : ps[i]? with
      | none => rw [e1, e2] at hi; cases hi
      | some p =>
        rw [e1, e2] at hi
        cases hi
        obtain ⟨p0, p1⟩ := hp p (List.mem_of_getElem? e2)
        obtain ⟨b0, b1⟩ := c.sb sh (List.mem_of_getElem? e1)
        obtain ⟨y1, ey, hy1⟩ := times_raw (v := sh) (t := shs.sum) h8 (by omega) (by omega) (vn := 4) (tn := 16) (by omega) (by omega) (by omega) (by omega) (by omega)
        obtain ⟨z, ez, hz⟩ := over_pos hy1 (⟨p, rfl, p0, p1⟩ : PosD 3 9 (mk p)) (by omega) (by omega) (by omega)
        refine ⟨_, rfl, re_pure (d := z) (fun S => ?_) hz⟩
        have em : mTup (mCons (mVar 12) (mCons (mCall sumD (mCons (mVarB 3) (mPure []))) (mPure []))) (((wipeL (gLo a R g shs w s fds l (some (.imm m8)) m9 (some (.imm (.tup (ps.map mk)))) (some (.imm y)) u v) [12, 13]).set 12 (some (.imm (.int sh)))).set 13 (some (.imm (mk p)))) S = some (.tup [.int sh, .int shs.sum], S) := by
          have e := mCall_of (f := sumD) (n := mCons (mVarB 3) (mPure [])) (ρ := ((wipeL (gLo a R g shs w s fds l (some (.imm m8)) m9 (some (.imm (.tup (ps.map mk)))) (some (.imm y)) u v) [12, 13]).set 12 (some (.imm (.int sh)))).set 13 (some (.imm (mk p)))) (S := S) (cons_of (ev_varB rfl) rfl) (sum_map shs)
          unfold mTup
          rw [cons_of (ev_var rfl) (cons_of e rfl)]
          rfl
        exact mCall_of (cons_of (mCall_of (cons_of (ev_var rfl) (cons_of em rfl)) ey) (cons_of (ev_var rfl) rfl)) ez
  · rintro ds ⟨d1, e1, rfl, ⟨ys, rfl, hl', hq⟩, rfl⟩
    exact ⟨_, rfl, bdl_pos (hl'.trans hzl) (by omega) hq⟩
/-- way == 3 -/
theorem st4 (c : GC g shs w s fds) (h : Mid a R g shs w s fds ρ) : RS ns a 0 (sIf (mTst (mOp2 eqD (mVarB 5) (mPure (.int 3)))) (sSet 11 (mCall tupleD (mCons (mLc (mSeq (mVar 3)) [12] (gNm 12) (mPure true) (mCall f_law_times (mCons (mVar 8) (mCons (mTup (mCons (mVar 12) (mCons (mPure (.int 1)) (mPure [])))) (mPure []))))) (mPure [])))) sNil) ρ (fun fl ρ' => fl = .nx ∧ Mid a R g shs w s fds ρ') := by
  have h0 := h
  obtain ⟨l, m8, m9, x, y, u, v, rfl, h8, hx, hy⟩ := h
  have g1 := c.g1
  refine mid_11 h0 (k := 0) (k' := 0) (Pb := fun _ => True) (re_tst (P := fun d => ∃ b, d = .bl b) (re_op2 (re_varB (d := .int w)) re_cst (by rintro x y rfl rfl; exact ⟨_, eqD_int _ _, _, rfl⟩)) (by rintro d ⟨b, rfl⟩; exact ⟨b, rfl, trivial⟩)) fun _ => ?_
  refine (re_call (f := tupleD) (re_cons (re_lc (k := 0) (P := PosD 288 240) (ds := shs.map D.int) (fun S => rfl) (fun d hd => ?_)) re_nil) ?_).mono (by omega) fun d h => h
  · obtain ⟨sh, hsh, rfl⟩ := List.mem_map.mp hd
    obtain ⟨b0, b1⟩ := c.sb sh hsh
    obtain ⟨y1, ey, hy1⟩ := times_raw (v := sh) (t := 1) h8 (by omega) (by omega) (vn := 4) (tn := 1) (by omega) (by omega) (by omega) (by omega) (by omega)
    exact ⟨_, rfl, re_pure (d := y1) (fun S => mCall_of (cons_of (ev_var rfl) (cons_of rfl rfl)) ey) (hy1.mono (by omega) (by omega))⟩
  · rintro ds ⟨d1, e1, rfl, ⟨ys, rfl, hl', hq⟩, rfl⟩
    exact ⟨_, rfl, bdl_pos (hl'.trans (by rw [List.length_map]; exact c.sl)) (by omega) hq⟩
end
end K25
namespace K25
open PySem PyProof.Rows L2 Dv

variable {ns : List Int} {a : Addr}
section
variable {R : Int} {g : Nat} {shs : List Int} {w s : Int} {fds : List D} {ρ : Lo} {k k' : Nat}
theorem re_eq0 {i : Nat} {room : Int} (hi : ρ[i]? = some (some (.imm (.rng a)))) (h0 : 0 < room) (h1 : room ≤ 1000000) : RE ns a 1 (mTst (mOp2 eqD (mCallR f_law_draw (mCons (mVar i) (mCons (mPure (.int room)) (mPure [])))) (mPure (.int 0)))) ρ (fun _ => True) :=
  (re_tst (P := fun d => ∃ b, d = .bl b) (re_op2 (re_draw (R := room) hi re_cst (fun d h => ⟨room, h, h0, Int.le_refl _⟩) h1) re_cst (by rintro x y ⟨v, rfl, _⟩ rfl; exact ⟨_, eqD_int _ _, _, rfl⟩)) (by rintro d ⟨b, rfl⟩; exact ⟨b, rfl, trivial⟩)).mono (by omega) fun d h => h
/-- way == 2 and one of three -/
theorem st5 (c : GC g shs w s fds) (h : Mid a R g shs w s fds ρ) : RS ns a 21 (sIf (mAnd (mTst (mOp2 eqD (mVarB 5) (mPure (.int 2)))) (mTst (mOp2 eqD (mCallR f_law_draw (mCons (mVar 0) (mCons (mPure (.int 3)) (mPure [])))) (mPure (.int 0))))) (sSet 11 (mCallR f_law_bu_bundle (mCons (mVar 0) (mCons (mVar 2) (mCons (mVar 6) (mPure [])))))) sNil) ρ (fun fl ρ' => fl = .nx ∧ Mid a R g shs w s fds ρ') := by
  have h0 := h
  obtain ⟨l, m8, m9, x, y, u, v, rfl, h8, hx, hy⟩ := h
  have g1 := c.g1
  refine (mid_11 h0 (k := 1) (k' := 20) (Pb := fun _ => True) ?_ fun _ => ?_).mono (by omega) fun _ _ h => h
  · exact (re_and (k := 0) (k' := 1) (P := fun _ => True) (Q := fun _ => True) (re_tst (P := fun d => ∃ b, d = .bl b) (re_op2 (re_varB (d := .int w)) re_cst (by rintro x y rfl rfl; exact ⟨_, eqD_int _ _, _, rfl⟩)) (by rintro d ⟨b, rfl⟩; exact ⟨b, rfl, trivial⟩)) (fun _ => re_eq0 rfl (by omega) (by omega)) (fun _ => trivial) (fun _ _ _ => trivial)).mono (by omega) fun _ h => h
  · refine (re_callR (k' := 20) (re_cons (re_var (d := .rng a)) (re_cons (re_var (d := .int (g : Nat))) (re_cons (re_var (d := .int s)) re_nil))) ?_).mono (by omega) fun _ h => h
    rintro ds ⟨d1, e1, rfl, rfl, d2, e2, rfl, rfl, d3, e3, rfl, rfl, rfl⟩
    exact (bundle_rf (by omega) c.g4 c.s0 c.s9).mono (Nat.le_refl _) fun d h => h.mono (by omega) (by omega)
theorem dp_fr {g : Nat} {d : D} (h : FR g d) : DP 3 d := by
  obtain ⟨x, y, rfl, hx, hy⟩ := h
  obtain ⟨ps, rfl, _⟩ := hx.ex
  obtain ⟨qs, rfl, _⟩ := hy.ex
  refine dp_tup fun d hd => ?_
  simp only [List.mem_cons, List.not_mem_nil, or_false] at hd
  rcases hd with rfl | rfl
  · refine dp_tup fun d hd => ?_
    obtain ⟨q, _, rfl⟩ := List.mem_map.mp hd
    exact dp_mk 0 q
  · refine dp_tup fun d hd => ?_
    obtain ⟨q, _, rfl⟩ := List.mem_map.mp hd
    exact dp_mk 0 q
theorem again_re (c : GC g shs w s fds) {l m8 m9 p b x y : Option LV} : RE ns a 1 (mAnd (mTst (mOp2 neD (mVarB 7) (mLst (mPure [])))) (mTst (mOp2 eqD (mCallR f_law_draw (mCons (mVar 0) (mCons (mPure (.int 9)) (mPure [])))) (mPure (.int 0))))) (gLo a R g shs w s fds l m8 m9 p b x y) (fun b => b = true → fds ≠ []) := by
  refine (re_and (k := 0) (k' := 1) (P := fun b => b = true → fds ≠ []) (Q := fun _ => True) (R := fun b => b = true → fds ≠ []) (re_pure (d := decide (fds ≠ [])) (fun S => ?_) (fun h => of_decide_eq_true h)) (fun _ => re_eq0 rfl (by omega) (by omega)) (fun h => h) (fun _ h _ _ => h rfl)).mono (by omega) fun _ h => h
  exact mTst_of (mOp2_of (ev_varO rfl) rfl (eq_lst_nil (n := 3) (fun d hd => dp_fr (c.fr d hd)) (by omega)).2)
theorem last_re (c : GC g shs w s fds) (hf : fds ≠ []) {l m8 m9 p b x y : Option LV} {i : Nat} {P : D → Prop} (hp : ∀ x y, PriR g 3 9 x → BdlR g 288 240 y → ∃ z, ixD (.tup [x, y]) (.int i) = some z ∧ P z) : RE ns a 0 (mOp2 ixD (mOp2 ixD (mVarB 7) (mOp1 negD (mPure (.int 1)))) (mPure (.int i))) (gLo a R g shs w s fds l m8 m9 p b x y) P := by
  have hl : fds.getLast? = some (fds.getLast hf) := List.getLast?_eq_some_getLast hf
  obtain ⟨x', y', e, hx, hy⟩ := c.fr _ (List.getLast_mem hf)
  obtain ⟨z, ez, hz⟩ := hp x' y' hx hy
  exact re_pure (d := z) (fun S => mOp2_of (mOp2_of (ev_varO rfl) rfl ((ix_neg rfl hl).trans (by rw [e]))) rfl ez) hz
theorem st6 (c : GC g shs w s fds) (h : Mid a R g shs w s fds ρ) : RS ns a 1 (sIf (mAnd (mTst (mOp2 neD (mVarB 7) (mLst (mPure [])))) (mTst (mOp2 eqD (mCallR f_law_draw (mCons (mVar 0) (mCons (mPure (.int 9)) (mPure [])))) (mPure (.int 0))))) (sSet 10 (mOp2 ixD (mOp2 ixD (mVarB 7) (mOp1 negD (mPure (.int 1)))) (mPure (.int 0)))) sNil) ρ (fun fl ρ' => fl = .nx ∧ Mid a R g shs w s fds ρ') := by
  have h0 := h
  obtain ⟨l, m8, m9, x, y, u, v, rfl, h8, hx, hy⟩ := h
  exact mid_10 h0 (k := 1) (k' := 0) (again_re c) fun hb => last_re c (hb rfl) (i := 0) fun x y hx hy => ⟨x, rfl, hx⟩
theorem st7 (c : GC g shs w s fds) (h : Mid a R g shs w s fds ρ) : RS ns a 1 (sIf (mAnd (mTst (mOp2 neD (mVarB 7) (mLst (mPure [])))) (mTst (mOp2 eqD (mCallR f_law_draw (mCons (mVar 0) (mCons (mPure (.int 9)) (mPure [])))) (mPure (.int 0))))) (sSet 11 (mOp2 ixD (mOp2 ixD (mVarB 7) (mOp1 negD (mPure (.int 1)))) (mPure (.int 1)))) sNil) ρ (fun fl ρ' => fl = .nx ∧ Mid a R g shs w s fds ρ') := by
  have h0 := h
  obtain ⟨l, m8, m9, x, y, u, v, rfl, h8, hx, hy⟩ := h
  exact mid_11 h0 (k := 1) (k' := 0) (again_re c) fun hb => last_re c (hb rfl) (i := 1) fun x y hx hy => ⟨y, rfl, hy⟩
/-- the turn up to the money -/
theorem st1 (c : GC g shs w s fds) {l m8 m9 p b u v : Option LV} : RS ns a 32 (sPar2 10 11 false (mCallR f_law_bu_prices (mCons (mVar 0) (mCons (mVar 2) (mCons (mVar 6) (mPure []))))) false (mCallR f_law_bu_bundle (mCons (mVar 0) (mCons (mVar 2) (mCons (mVar 6) (mPure [])))))) (gLo a R g shs w s fds l m8 m9 p b u v)
    (fun fl ρ' => fl = .nx ∧ ∃ x y, PriR g 3 9 x ∧ BdlR g 288 240 y ∧ ρ' = gLo a R g shs w s fds l m8 m9 (some (.imm x)) (some (.imm y)) u v) := by
  have g1 := c.g1
  have h1 : RE ns a 12 (mCallR f_law_bu_prices (mCons (mVar 0) (mCons (mVar 2) (mCons (mVar 6) (mPure []))))) (gLo a R g shs w s fds l m8 m9 p b u v) (PriR g 3 9) := by
    refine (re_callR (k' := 12) (re_cons (re_var (d := .rng a)) (re_cons (re_var (d := .int (g : Nat))) (re_cons (re_var (d := .int s)) re_nil))) ?_).mono (by omega) fun _ h => h
    rintro ds ⟨d1, e1, rfl, rfl, d2, e2, rfl, rfl, d3, e3, rfl, rfl, rfl⟩
    exact prices_rf c.g4 c.s0 c.s9
  have h2 : RE ns a 20 (mCallR f_law_bu_bundle (mCons (mVar 0) (mCons (mVar 2) (mCons (mVar 6) (mPure []))))) (gLo a R g shs w s fds l m8 m9 p b u v) (BdlR g 288 240) := by
    refine (re_callR (k' := 20) (re_cons (re_var (d := .rng a)) (re_cons (re_var (d := .int (g : Nat))) (re_cons (re_var (d := .int s)) re_nil))) ?_).mono (by omega) fun _ h => h
    rintro ds ⟨d1, e1, rfl, rfl, d2, e2, rfl, rfl, d3, e3, rfl, rfl, rfl⟩
    exact (bundle_rf (by omega) c.g4 c.s0 c.s9).mono (Nat.le_refl _) fun d h => h.mono (by omega) (by omega)
  refine (rs_par2 h1 h2).mono (by omega) ?_
  rintro fl ρ' ⟨rfl, d, e, hd, he, rfl⟩
  exact ⟨rfl, d, e, hd, he, rfl⟩
theorem re_one_plus {i : Nat} {room : Int} (hi : ρ[i]? = some (some (.imm (.rng a)))) (h0 : 0 < room) (h1 : room ≤ 1000000) : RE ns a 1 (mOp2 addD (mPure (.int 1)) (mCallR f_law_draw (mCons (mVar i) (mCons (mPure (.int room)) (mPure []))))) ρ (fun d => ∃ v : Int, d = .int v ∧ 1 ≤ v ∧ v ≤ room) :=
  (re_op2 re_cst (re_draw (R := room) hi re_cst (fun d h => ⟨room, h, h0, Int.le_refl _⟩) h1) (by rintro x y rfl ⟨v, rfl, v0, v1⟩; exact ⟨_, addD_int _ _, _, rfl, by omega, by omega⟩)).mono (by omega) fun _ h => h
theorem st2 {l m8 m9 u v : Option LV} {x y : D} (hx : PriR g 3 9 x) (hy : BdlR g 288 240 y) : RS ns a 2 (sSet 8 (mCall f_law_q (mCons (mOp2 addD (mPure (.int 1)) (mCallR f_law_draw (mCons (mVar 0) (mCons (mPure (.int 20)) (mPure []))))) (mCons (mOp2 addD (mPure (.int 1)) (mCallR f_law_draw (mCons (mVar 0) (mCons (mPure (.int 2)) (mPure []))))) (mPure []))))) (gLo a R g shs w s fds l m8 m9 (some (.imm x)) (some (.imm y)) u v)
    (fun fl ρ' => fl = .nx ∧ Mid a R g shs w s fds ρ') := by
  refine (rs_set (P := PosD 2 20) (re_call (re_cons (re_one_plus rfl (by omega) (by omega)) (re_cons (re_one_plus rfl (by omega) (by omega)) re_nil)) ?_)).mono (by omega) ?_
  · rintro ds ⟨d1, e1, rfl, ⟨v, rfl, v0, v1⟩, d2, e2, rfl, ⟨w, rfl, w0, w1⟩, rfl⟩
    exact q_pos (by omega) (by omega) (by omega) (by omega) (by omega)
  · rintro fl ρ' ⟨rfl, d, hd, rfl⟩
    exact ⟨rfl, l, d, m9, x, y, u, v, rfl, hd, hx, hy⟩
theorem st8 (c : GC g shs w s fds) (h : Mid a R g shs w s fds ρ) : RS ns a 0 (sApp 7 (mTup (mCons (mVar 10) (mCons (mVar 11) (mPure []))))) ρ (fun fl ρ' => fl = .nx ∧ ∃ fd l m8 m9 p b u v, FR g fd ∧ ρ' = gLo a R g shs w s (fds ++ [fd]) l m8 m9 p b u v) := by
  obtain ⟨l, m8, m9, x, y, u, v, rfl, h8, hx, hy⟩ := h
  have fl := c.fl
  refine (rs_app (P := FR g) (ds := fds) (i := 7) rfl (by omega) (re_pure (d := .tup [x, y]) (fun S => rfl) ⟨x, y, rfl, hx, hy⟩)).mono (Nat.le_refl _) ?_
  rintro fl ρ' ⟨rfl, d, hd, rfl⟩
  exact ⟨rfl, d, l, _, m9, _, _, u, v, hd, rfl⟩
end
end K25
namespace K25
open PySem PyProof.Rows L2 Dv

variable {ns : List Int} {a : Addr}
theorem re_rg1 {m : MA} {ρ : Lo} {k : Nat} {P : List D → Prop} {Q : List D → Prop} (h : RE ns a k m ρ P) (hp : ∀ ds, P ds → ∃ n : Nat, ds = [.int (n : Nat)] ∧ n ≤ 1000000 ∧ Q (rangeL 0 (n : Int))) : RE ns a k (mRg1 m) ρ Q := fun c r ok ha hc => by
  obtain ⟨ds, r1, e1, p1, ok1, l1⟩ := h c r ok ha hc
  obtain ⟨n, rfl, hn, q⟩ := hp ds p1
  exact ⟨_, r1, rg1_nat e1 hn, q, ok1, l1⟩
/-- drawn budgets -/
def BgR (g : Nat) (x : D) : Prop := ∃ fds, x = .tup [.str "budgets", .tup fds] ∧ (∀ d ∈ fds, FR g d) ∧ 1 ≤ fds.length ∧ fds.length ≤ 8
noncomputable def bgBody : MS := (sSq (sPar2 10 11 false (mCallR f_law_bu_prices (mCons (mVar 0) (mCons (mVar 2) (mCons (mVar 6) (mPure []))))) false (mCallR f_law_bu_bundle (mCons (mVar 0) (mCons (mVar 2) (mCons (mVar 6) (mPure []))))))
  (sSq (sSet 8 (mCall f_law_q (mCons (mOp2 addD (mPure (.int 1)) (mCallR f_law_draw (mCons (mVar 0) (mCons (mPure (.int 20)) (mPure []))))) (mCons (mOp2 addD (mPure (.int 1)) (mCallR f_law_draw (mCons (mVar 0) (mCons (mPure (.int 2)) (mPure []))))) (mPure [])))))
  (sSq (sIf (mTst (mOp2 inD (mVarB 5) (mLst (mCons (mPure (.int 1)) (mCons (mPure (.int 2)) (mPure [])))))) (sSet 11 (mCall tupleD (mCons (mLc (mZip2 (mCons (mVar 3) (mCons (mVar 10) (mPure [])))) [12, 13] (gTp 2 (gCns (gNm 12) (gCns (gNm 13) gNl))) (mPure true) (mCall f_law_over (mCons (mCall f_law_times (mCons (mVar 8) (mCons (mTup (mCons (mVar 12) (mCons (mCall sumD (mCons (mVarB 3) (mPure []))) (mPure [])))) (mPure [])))) (mCons (mVar 13) (mPure []))))) (mPure [])))) sNil)
  (sSq (sIf (mTst (mOp2 eqD (mVarB 5) (mPure (.int 3)))) (sSet 11 (mCall tupleD (mCons (mLc (mSeq (mVar 3)) [12] (gNm 12) (mPure true) (mCall f_law_times (mCons (mVar 8) (mCons (mTup (mCons (mVar 12) (mCons (mPure (.int 1)) (mPure [])))) (mPure []))))) (mPure [])))) sNil)
  (sSq (sIf (mAnd (mTst (mOp2 eqD (mVarB 5) (mPure (.int 2)))) (mTst (mOp2 eqD (mCallR f_law_draw (mCons (mVar 0) (mCons (mPure (.int 3)) (mPure [])))) (mPure (.int 0))))) (sSet 11 (mCallR f_law_bu_bundle (mCons (mVar 0) (mCons (mVar 2) (mCons (mVar 6) (mPure [])))))) sNil)
  (sSq (sIf (mAnd (mTst (mOp2 neD (mVarB 7) (mLst (mPure [])))) (mTst (mOp2 eqD (mCallR f_law_draw (mCons (mVar 0) (mCons (mPure (.int 9)) (mPure [])))) (mPure (.int 0))))) (sSet 10 (mOp2 ixD (mOp2 ixD (mVarB 7) (mOp1 negD (mPure (.int 1)))) (mPure (.int 0)))) sNil)
  (sSq (sIf (mAnd (mTst (mOp2 neD (mVarB 7) (mLst (mPure [])))) (mTst (mOp2 eqD (mCallR f_law_draw (mCons (mVar 0) (mCons (mPure (.int 9)) (mPure [])))) (mPure (.int 0))))) (sSet 11 (mOp2 ixD (mOp2 ixD (mVarB 7) (mOp1 negD (mPure (.int 1)))) (mPure (.int 1)))) sNil)
  (sApp 7 (mTup (mCons (mVar 10) (mCons (mVar 11) (mPure []))))))))))))
theorem bgbody_rs {R : Int} {g : Nat} {shs : List Int} {w s : Int} {fds : List D} (c : GC g shs w s fds) {l m8 m9 p b u v : Option LV} : RS ns a 57 bgBody (gLo a R g shs w s fds l m8 m9 p b u v) (fun fl ρ' => fl = .nx ∧ ∃ fd l m8 m9 p b u v, FR g fd ∧ ρ' = gLo a R g shs w s (fds ++ [fd]) l m8 m9 p b u v) := by
  refine (rs_sq (k' := 25) (P := fun ρ' => ∃ x y, PriR g 3 9 x ∧ BdlR g 288 240 y ∧ ρ' = gLo a R g shs w s fds l m8 m9 (some (.imm x)) (some (.imm y)) u v) (st1 c) ?_).mono (by omega) fun _ _ h => h
  rintro ρ ⟨x, y, hx, hy, rfl⟩
  refine (rs_sq (k' := 23) (st2 hx hy) fun ρ h => ?_).mono (by omega) fun _ _ h => h
  refine (rs_sq (k' := 23) (st3 c h) fun ρ h => ?_).mono (by omega) fun _ _ h => h
  refine (rs_sq (k' := 23) (st4 c h) fun ρ h => ?_).mono (by omega) fun _ _ h => h
  refine (rs_sq (k' := 2) (st5 c h) fun ρ h => ?_).mono (by omega) fun _ _ h => h
  refine (rs_sq (k' := 1) (st6 c h) fun ρ h => ?_).mono (by omega) fun _ _ h => h
  exact (rs_sq (k' := 0) (st7 c h) fun ρ h => st8 c h).mono (by omega) fun _ _ h => h
theorem budgets_rf {R : Int} {g : Nat} (R0 : 1 ≤ R) (R8 : R ≤ 8) (g2 : 2 ≤ g) (g4 : g ≤ 4) : RF ns a 500 f_law_bu_budgets [.rng a, .int R, .int (g : Nat)] (BgR g) := by
  have h := rf_run (ns := ns) (a := a) (kk := 3) (n := 14) (ds := [.rng a, .int R, .int (g : Nat)]) (P := BgR g) (k := 500) (m := m_law_bu_budgets) rfl
  refine h ?_
  refine (rs_sq (k := 2) (k' := 461) (P := fun ρ => ∃ w s : Int, 1 ≤ s ∧ s ≤ 9 ∧ ρ = [some (.imm (.rng a)), some (.imm (.int R)), some (.imm (.int (g : Nat))), none, none, some (.imm (.int w)), some (.imm (.int s)), some (.own (.lst [])), none, none, none, none, none, none]) ?_ ?_).mono (by omega) fun _ _ h => h
  · refine (rs_par3 (P := fun d => ∃ w : Int, d = .int w) (Q := fun d => ∃ s : Int, d = .int s ∧ 1 ≤ s ∧ s ≤ 9) (R := fun d => d = .lst []) ((re_draw (R := 5) rfl re_cst (fun d h => ⟨5, h, by omega, by omega⟩) (by omega)).mono (Nat.le_refl _) fun d ⟨v, e, _⟩ => ⟨v, e⟩) (re_pick rfl (re_cons re_cst (re_cons re_cst (re_cons re_cst re_nil))) ?_) (re_pure (fun S => rfl) rfl)).mono (by omega) ?_
    · rintro ds ⟨d1, e1, rfl, rfl, d2, e2, rfl, rfl, d3, e3, rfl, rfl, rfl⟩
      refine ⟨by simp, by simp, fun d hd => ?_⟩
      simp only [List.mem_cons, List.not_mem_nil, or_false] at hd
      rcases hd with rfl | rfl | rfl
      · exact ⟨2, rfl, by omega, by omega⟩
      · exact ⟨4, rfl, by omega, by omega⟩
      · exact ⟨9, rfl, by omega, by omega⟩
    · rintro fl ρ' ⟨rfl, d, e, f, ⟨w, rfl⟩, ⟨s, rfl, s0, s1⟩, rfl, rfl⟩
      exact ⟨rfl, w, s, s0, s1, rfl⟩
  rintro ρ ⟨w, s, s0, s1, rfl⟩
  refine (rs_sq (k := 4) (k' := 457) (P := fun ρ => ∃ shs : List Int, shs.length = g ∧ (∀ v ∈ shs, 1 ≤ v ∧ v ≤ 4) ∧ ρ = gLo a R g shs w s [] none none none none none none none) ?_ ?_).mono (by omega) fun _ _ h => h
  · refine RS.mono (k := (rangeL 0 (g : Int)).length * 1) (rs_set (re_lc (k := 1) (P := fun d => ∃ v : Int, d = .int v ∧ 1 ≤ v ∧ v ≤ 4) (ds := rangeL 0 (g : Int)) (fun S => rg1_nat rfl (by omega)) (fun d hd => ⟨_, rfl, re_one_plus rfl (by omega) (by omega)⟩))) (by rw [range_len]; omega) ?_
    rintro fl ρ' ⟨rfl, d, ⟨ys, rfl, hl, hp⟩, rfl⟩
    have : ∃ vs : List Int, ys = vs.map D.int ∧ ∀ v ∈ vs, 1 ≤ v ∧ v ≤ 4 := by
      clear hl
      induction ys with
      | nil => exact ⟨[], rfl, fun _ h => by cases h⟩
      | cons y ys ih =>
        obtain ⟨v, rfl, hv⟩ := hp y List.mem_cons_self
        obtain ⟨vs, rfl, hvs⟩ := ih fun z hz => hp z (List.mem_cons_of_mem _ hz)
        exact ⟨v :: vs, rfl, fun z hz => by
          (rcases List.mem_cons.mp hz with rfl | hz)
          · exact hv
          · exact hvs z hz⟩
    obtain ⟨vs, rfl, hv⟩ := this
    rw [List.length_map, range_len] at hl
    exact ⟨rfl, vs, hl, hv, rfl⟩
  rintro ρ ⟨shs, hsl, hsb, rfl⟩
  refine (rs_sq (k := 457) (k' := 0) (P := fun ρ => ∃ fds l m8 m9 p b u v, ρ = gLo a R g shs w s fds l m8 m9 p b u v ∧ (∀ d ∈ fds, FR g d) ∧ 1 ≤ fds.length ∧ fds.length ≤ 8) ?_ ?_).mono (by omega) fun _ _ h => h
  · refine (rs_for (k := 1) (k' := 57) (L := 8) (Pd := fun ds => 1 ≤ ds.length ∧ ds.length ≤ 8) (fun i ρ => ∃ fds l m8 m9 p b u v, ρ = gLo a R g shs w s fds l m8 m9 p b u v ∧ (∀ d ∈ fds, FR g d) ∧ fds.length = i) ?_ ⟨[], _, _, _, _, _, _, _, rfl, (fun _ h => by cases h), rfl⟩ ?_).mono (by omega) ?_
    · refine (re_rg1 (re_cons (re_op2 (R := fun d => ∃ n : Nat, d = .int (n : Nat) ∧ 1 ≤ n ∧ n ≤ 8) re_cst (re_draw (R := 8) rfl (re_var (d := .int R)) (fun d h => ⟨R, h, by omega, by omega⟩) (by omega)) ?_) re_nil) ?_).mono (by omega) fun _ h => h
      · rintro x y rfl ⟨v, rfl, v0, v1⟩
        exact ⟨_, addD_int _ _, (1 + v).toNat, by rw [Int.toNat_of_nonneg (by omega)], by omega, by omega⟩
      · rintro ds ⟨d1, e1, rfl, ⟨n, rfl, n0, n1⟩, rfl⟩
        exact ⟨n, rfl, by omega, by rw [range_len]; omega, by rw [range_len]; omega, by rw [range_len]; omega⟩
    · rintro ds ⟨d0, d8⟩ i d ρ' hd ⟨fds, l, m8, m9, p, b, u, v, rfl, hf, hl⟩
      have hi := (List.getElem?_eq_some_iff.mp hd).1
      refine ⟨_, rfl, (bgbody_rs (l := some (.imm d)) ⟨g2, g4, hsl, hsb, s0, s1, hf, by omega⟩).mono (Nat.le_refl _) ?_⟩
      rintro fl ρ2 ⟨rfl, fd, l', m8', m9', p', b', u', v', hfd, rfl⟩
      refine ⟨.inl rfl, _, _, _, _, _, _, _, _, rfl, fun d hd => ?_, by simp [hl]⟩
      rcases List.mem_append.mp hd with h | h
      · exact hf d h
      · rw [List.mem_singleton.mp h]; exact hfd
    · rintro fl ρ' ⟨rfl, ds, ⟨d0, d8⟩, _, fds, l, m8, m9, p, b, u, v, rfl, hf, hl⟩
      exact ⟨rfl, fds, _, _, _, _, _, _, _, rfl, hf, by omega, by omega⟩
  rintro ρ ⟨fds, l, m8, m9, p, b, u, v, rfl, hf, h1, h8⟩
  refine rs_ret (k := 0) (P := BgR g) (re_pure (d := .tup [.str "budgets", .tup fds]) (fun S => rfl) ⟨fds, rfl, hf, h1, h8⟩)
/-- .. of two to four goods -/
theorem drawn_rf {R : Int} (R0 : 1 ≤ R) (R8 : R ≤ 8) : RF ns a 501 f_law_bu_drawn [.rng a, .int R] (fun x => ∃ g, 2 ≤ g ∧ g ≤ 4 ∧ BgR g x) := by
  have h := rf_run (ns := ns) (a := a) (kk := 2) (n := 2) (ds := [.rng a, .int R]) (P := fun x => ∃ g, 2 ≤ g ∧ g ≤ 4 ∧ BgR g x) (k := 501) (m := m_law_bu_drawn) rfl
  refine h (rs_ret ?_)
  refine (re_callR (k' := 500) (re_cons (re_var (d := .rng a)) (re_cons (re_var (d := .int R)) (re_cons (re_pick (Q := fun d => ∃ g : Nat, d = .int (g : Nat) ∧ 2 ≤ g ∧ g ≤ 4) rfl (re_cons re_cst (re_cons re_cst (re_cons re_cst (re_cons re_cst re_nil)))) ?_) re_nil))) ?_).mono (by omega) fun _ h => h
  · rintro ds ⟨d1, e1, rfl, rfl, d2, e2, rfl, rfl, d3, e3, rfl, rfl, d4, e4, rfl, rfl, rfl⟩
    refine ⟨by simp, by simp, fun d hd => ?_⟩
    simp only [List.mem_cons, List.not_mem_nil, or_false] at hd
    rcases hd with rfl | rfl | rfl | rfl
    · exact ⟨2, rfl, by omega, by omega⟩
    · exact ⟨2, rfl, by omega, by omega⟩
    · exact ⟨3, rfl, by omega, by omega⟩
    · exact ⟨4, rfl, by omega, by omega⟩
  · rintro ds ⟨d1, e1, rfl, rfl, d2, e2, rfl, rfl, d3, e3, rfl, ⟨g, rfl, g2, g4⟩, rfl⟩
    exact (budgets_rf R0 R8 g2 g4).mono (Nat.le_refl _) fun x h => ⟨g, g2, g4, h⟩
end K25
namespace K25
open PySem PyProof.Rows L2 Dv

variable {ns : List Int} {a : Addr}
/-- a row with any prices -/
def SR (g : Nat) (d : D) : Prop := ∃ x y, d = .tup [x, y] ∧ PriR g 600 3456 x ∧ BdlR g 288 240 y
theorem PriR.mono {g dn nn dn' nn' : Nat} {x : D} (h : PriR g dn nn x) (h1 : dn ≤ dn') (h2 : nn ≤ nn') : PriR g dn' nn' x := by
  obtain ⟨qs, e, hl, hq⟩ := h.ex
  exact ⟨qs, e, hl, fun q hm => ⟨(hq q hm).1, (hq q hm).2.mono h1 h2⟩⟩
theorem FR.sr {g : Nat} {d : D} (h : FR g d) : SR g d := let ⟨x, y, e, hx, hy⟩ := h; ⟨x, y, e, hx.mono (by omega) (by omega), hy⟩
def StR (g : Nat) (x : D) : Prop := ∃ rds, x = .tup [.str "budgets", .tup rds] ∧ (∀ d ∈ rds, SR g d) ∧ 1 ≤ rds.length ∧ rds.length ≤ 8
theorem one_mk (d : Nat) (h : d ≠ 0) : (1 : Rat) = mkRat d d := by
  have := Rat.mkRat_mul_right (n := 1) (d := 1) h
  rw [Int.one_mul, Nat.one_mul] at this
  rw [this]; rfl
theorem one_plus {q : Rat} {dn nn : Nat} (h0 : 0 ≤ q) (h : Num dn nn q) : 0 < 1 + q ∧ Num dn (dn + nn) (1 + q) := by
  have hd := q.den_nz
  have e : 1 + q = mkRat ((q.den : Int) + q.num) q.den := by
    have e2 := mkRat_add_same (a := (q.den : Int)) (b := q.num) hd
    rw [← one_mk q.den hd, Rat.mkRat_self] at e2
    exact e2
  have h1 := h.den
  have h2 := h.num
  refine ⟨by grind, ?_⟩
  rw [e]
  exact num_mk hd h1 (by omega)
theorem plus_one {q : Rat} (h0 : 0 ≤ q) (h : Num 288 240 q) : ∃ z, f_law_plus [mk 1, mk q] = some z ∧ PosD 288 528 z := by
  obtain ⟨p0, pn⟩ := one_plus h0 h
  have s1 : Sm (1 : Rat) := ⟨by decide +kernel, by decide +kernel⟩
  have h1 := h.den
  have h2 := h.num
  have sq : Sm q := ⟨by
    have := log2_mono (a := q.den) (b := 1000000) (by omega)
    have e : (1000000 : Nat).log2 = 19 := by decide +kernel
    omega, by
    have := log2_mono (a := q.num.natAbs) (b := 1000000) (by omega)
    have e : (1000000 : Nat).log2 = 19 := by decide +kernel
    omega⟩
  exact ⟨_, law_plus_ev (isR_mk 1) (isR_mk q) s1 sq, _, rfl, p0, pn⟩
noncomputable def swBody : MS := sApp 2 (mTup (mCons (mCall tupleD (mCons (mLc (mSeq (mVar 4)) [5] (gNm 5) (mPure true) (mCall f_law_over (mCons (mTup (mCons (mPure (.int 12)) (mCons (mPure (.int 1)) (mPure [])))) (mCons (mCall f_law_plus (mCons (mTup (mCons (mPure (.int 1)) (mCons (mPure (.int 1)) (mPure [])))) (mCons (mVar 5) (mPure [])))) (mPure []))))) (mPure []))) (mCons (mVar 4) (mPure []))))
theorem sw_rs {g : Nat} {x y : D} {rows : D} {fds : List D} {z : Option LV} (g1 : 1 ≤ g) (hy : BdlR g 288 240 y) (hl : fds.length < 1000) : RS ns a 0 swBody [some (.imm (.rng a)), some (.imm rows), some (.own (.lst fds)), some (.imm x), some (.imm y), z]
    (fun fl ρ' => fl = .nx ∧ ∃ d, SR g d ∧ ρ' = [some (.imm (.rng a)), some (.imm rows), some (.own (.lst (fds ++ [d]))), some (.imm x), some (.imm y), z]) := by
  have hy0 := hy
  obtain ⟨qs, rfl, ql, hq, hp⟩ := hy.ex
  refine RS.mono (k := 0) (rs_app (P := SR g) (ds := fds) (i := 2) rfl (by omega) ?_) (Nat.le_refl _) ?_
  · refine RE.mono (k := 0 + (0 + 0)) (P := SR g) (re_tup (P := fun ds => ∃ d e, ds = d :: e ∧ PriR g 600 3456 d ∧ ∃ d2 e2, e = d2 :: e2 ∧ d2 = .tup (qs.map mk) ∧ e2 = []) (re_cons (re_call (f := tupleD) (P := fun ds => ∃ d e, ds = d :: e ∧ (∃ ys, d = .lst ys ∧ ys.length = (qs.map mk).length ∧ ∀ y ∈ ys, PosD 600 3456 y) ∧ e = []) (RE.mono (k := (qs.map mk).length * 0 + 0) (re_cons (re_lc (k := 0) (P := PosD 600 3456) (ds := qs.map mk) (fun S => rfl) (fun d hd => ?_)) re_nil) (by omega) fun _ h => h) ?_) (re_cons (re_var rfl) re_nil)) ?_) (by omega) fun _ h => h
    · obtain ⟨q, hm, rfl⟩ := List.mem_map.mp hd
      obtain ⟨w, ew, hw⟩ := plus_one (hq q hm).1 (hq q hm).2
      obtain ⟨v, ev, hv⟩ := over_pos (x := .tup [.int 12, .int 1]) (dn := 1) (nn := 12) ⟨12, rfl, by decide, ⟨by decide, by decide⟩⟩ hw (by omega) (by omega) (by omega)
      exact ⟨_, rfl, re_pure (d := v) (fun S => mCall_of (cons_of rfl (cons_of (mCall_of (cons_of rfl (cons_of (ev_var rfl) rfl)) ew) rfl)) ev) (hv.mono (by omega) (by omega))⟩
    · rintro ds ⟨d1, e1, rfl, ⟨ys, rfl, hl', hp'⟩, rfl⟩
      obtain ⟨ps, rfl, hps⟩ := mks_of hp'
      rw [List.length_map, List.length_map] at hl'
      exact ⟨_, rfl, ⟨ps, rfl, hl'.trans ql, hps⟩⟩
    · rintro ds ⟨d1, e1, rfl, h1, d2, e2, rfl, rfl, rfl⟩
      exact ⟨by simp, _, _, rfl, h1, hy0⟩
  · rintro fl ρ' ⟨rfl, d, hd, rfl⟩
    exact ⟨rfl, d, hd, rfl⟩
theorem straight_rows_rf {g : Nat} {fds : List D} (g1 : 1 ≤ g) (hf : ∀ d ∈ fds, FR g d) (h1 : 1 ≤ fds.length) (h8 : fds.length ≤ 8) : RF ns a 1 f_law_straight_rows [.rng a, .tup fds] (StR g) := by
  refine rf_run (ns := ns) (a := a) (kk := 2) (n := 6) (ds := [.rng a, .tup fds]) (P := StR g) (k := 1) (m := m_law_straight_rows) rfl ?_
  refine RS.mono (k := 0 + 1) (rs_sq (P := fun ρ => ρ = [some (.imm (.rng a)), some (.imm (.tup fds)), some (.own (.lst [])), none, none, none]) ?_ ?_) (by omega) fun _ _ h => h
  · refine RS.mono (k := 0) (rs_setF (P := fun d => d = .lst []) (re_pure (fun S => rfl) rfl)) (by omega) ?_
    rintro fl ρ' ⟨rfl, d, rfl, rfl⟩
    exact ⟨rfl, rfl⟩
  rintro ρ rfl
  refine RS.mono (k := 0 + 1) (rs_sq (P := fun ρ => ∃ rds u v w, ρ = [some (.imm (.rng a)), some (.imm (.tup fds)), some (.own (.lst rds)), u, v, w] ∧ (∀ d ∈ rds, SR g d) ∧ rds.length = fds.length) ?_ ?_) (by omega) fun _ _ h => h
  · refine RS.mono (k := 0 + 8 * 0) (rs_for (k := 0) (k' := 0) (L := 8) (Pd := fun ds => ds = fds) (fun i ρ => ∃ rds u v w, ρ = [some (.imm (.rng a)), some (.imm (.tup fds)), some (.own (.lst rds)), u, v, w] ∧ (∀ d ∈ rds, SR g d) ∧ rds.length = i) (re_pure (d := fds) (fun S => rfl) ⟨h8, rfl⟩) ⟨[], _, _, _, rfl, (fun _ h => by cases h), rfl⟩ ?_) (by omega) ?_
    · rintro ds rfl i d ρ' hd ⟨rds, u, v, w, rfl, hr, hl⟩
      have hi := (List.getElem?_eq_some_iff.mp hd).1
      obtain ⟨x, y, rfl, hx, hy⟩ := hf d (List.mem_of_getElem? hd)
      refine ⟨_, rfl, RS.mono (k := 0) (sw_rs (x := x) (y := y) g1 hy (by omega)) (Nat.le_refl _) ?_⟩
      rintro fl ρ2 ⟨rfl, d, hd, rfl⟩
      refine ⟨.inl rfl, _, _, _, _, rfl, fun e he => ?_, by simp [hl]⟩
      rcases List.mem_append.mp he with h | h
      · exact hr e h
      · rw [List.mem_singleton.mp h]; exact hd
    · rintro fl ρ' ⟨rfl, ds, rfl, _, h⟩
      exact ⟨rfl, h⟩
  rintro ρ ⟨rds, u, v, w, rfl, hr, hl⟩
  intro c r ok ha hc
  obtain ⟨b, r1, e1, _, ok1, l1⟩ := (re_eq0 (ns := ns) (a := a) (i := 0) (room := 2) (ρ := [some (.imm (.rng a)), some (.imm (.tup fds)), some (.own (.lst rds)), u, v, w]) rfl (by omega) (by omega)) c r ok ha hc
  cases b with
  | true =>
    refine ⟨_, _, r1, sRet_of (d := .tup [.str "budgets", .tup rds]) (S1 := some r1) ?_, ⟨_, rfl, rds, rfl, hr, by omega, by omega⟩, ok1, l1⟩
    unfold mIte
    rw [e1]
    rfl
  | false =>
    refine ⟨_, _, r1, sRet_of (d := .tup [.str "budgets", .tup fds]) (S1 := some r1) ?_, ⟨_, rfl, fds, rfl, fun d hd => (hf d hd).sr, h1, h8⟩, ok1, l1⟩
    unfold mIte
    rw [e1]
    rfl
end K25
namespace K25
open PySem PyProof.Rows L2 Dv

/-- plain data, no deeper than n -/
inductive PD : Nat → D → Prop where
  | int (n : Nat) (i : Int) : PD n (.int i)
  | str (n : Nat) {x : Str} (h : SeqAt.shaped (.str x) = true) : PD n (.str x)
  | tup {n : Nat} {ds : List D} (h : ∀ d ∈ ds, PD n d) : PD (n + 1) (.tup ds)
  | kt {n : Nat} {ds : List D} (h : ∀ d ∈ ds, PD n d) : PD (n + 1) (.kt ds)
  | lst {n : Nat} {ds : List D} (h : ∀ d ∈ ds, PD n d) : PD (n + 1) (.lst ds)
theorem PD.mono : ∀ {n m : Nat} {d : D}, PD n d → n ≤ m → PD m d := by
  intro n m d h
  induction h generalizing m with
  | int n i => intro _; exact .int _ _
  | str n h => intro _; exact .str _ h
  | tup h ih => intro l; cases m with
    | zero => omega
    | succ m => exact .tup fun d hd => ih d hd (by omega)
  | kt h ih => intro l; cases m with
    | zero => omega
    | succ m => exact .kt fun d hd => ih d hd (by omega)
  | lst h ih => intro l; cases m with
    | zero => omega
    | succ m => exact .lst fun d hd => ih d hd (by omega)
theorem PD.dp {n : Nat} {d : D} (h : PD n d) : DP n d := by
  induction h with
  | int n i => exact dp_int _ _
  | str n h => exact dp_str _ h
  | tup h ih => exact dp_tup ih
  | kt h ih => exact dp_kt ih
  | lst h ih => exact dp_lst ih
mutual
def szD : D → Nat
  | .tup ds => 1 + szDs ds
  | .kt ds => 1 + szDs ds
  | .lst ds => 1 + szDs ds
  | _ => 1
def szDs : List D → Nat
  | [] => 0
  | d :: ds => szD d + szDs ds
end
theorem szD_pos (d : D) : 1 ≤ szD d := by cases d <;> simp [szD]
theorem szDs_app (xs ys : List D) : szDs (xs ++ ys) = szDs xs + szDs ys := by
  induction xs with
  | nil => simp [szDs]
  | cons x xs ih => simp only [List.cons_append, szDs, ih]; omega
theorem szDs_len (xs : List D) : xs.length ≤ szDs xs := by
  induction xs with
  | nil => simp
  | cons x xs ih => have := szD_pos x; simp only [List.length_cons, szDs]; omega
def prs (xs : List D) : List D := xs.map fun d => D.tup [d, d]
theorem prs_zip (ds : List D) : List.zipWith (fun a b => D.tup [a, b]) ds ds = prs ds := by
  unfold prs
  induction ds with
  | nil => rfl
  | cons d ds ih => simp [ih]
abbrev smLo (x y : D) (w : List D) (o t a l m : Option LV) : Lo := [some (.imm x), some (.imm y), some (.own (.lst w)), o, t, a, none, l, m]
def smT : MT := mTst (mOp2 neD (mVarB 2) (mLst (mPure [])))
theorem smT_ev {n : Nat} {x y : D} {xs : List D} (hx : ∀ d ∈ xs, PD n d) (hn : n ≤ 50) {o t a l m : Option LV} {S : Sg} : smT (smLo x y (prs xs) o t a l m) S = some (decide (xs ≠ []), S) := by
  have e := (eq_lst_nil (n := n + 1) (ds := prs xs) (fun d hd => by
    obtain ⟨z, hz, rfl⟩ := List.mem_map.mp hd
    refine dp_tup fun w hw => ?_
    simp only [List.mem_cons, List.not_mem_nil, or_false, or_self] at hw
    rw [hw]; exact (hx z hz).dp) (by omega)).2
  have e2 : decide (prs xs ≠ []) = decide (xs ≠ []) := by
    have : prs xs ≠ [] ↔ xs ≠ [] := by unfold prs; rw [ne_eq, List.map_eq_nil_iff]
    exact decide_eq_decide.mpr this
  rw [e2] at e
  exact mTst_of (mOp2_of (ev_varO rfl) rfl e)
noncomputable def smB : MS := (sSq (sPop 2 (gTp 2 (gCns (gNm 3) (gCns (gNm 4) gNl))))
  (sIf (mOr (mTst (mOp2 isD (mVarB 4) (mPure .non))) (mTst (mOp1 (isiD "bool") (mVarB 4)))) (sIf (mIte (mTst (mOp2 isD (mVarB 4) (mPure .non))) (mTst (mOp2 isnotD (mVarB 3) (mPure .non))) (mNot (mTst (mCall f_law_is_truth (mCons (mVar 3) (mCons (mVar 4) (mPure []))))))) (sRet (mPure (.bl false))) sNil) (sIf (mTst (mOp1 (isi2D "int" "str") (mVarB 4))) (sIf (mOr (mTst (mOp1 (isiD "bool") (mVarB 3))) (mOr (mTst (mOp2 neD (mOp1 (isiD "int") (mVarB 3)) (mOp1 (isiD "int") (mVarB 4)))) (mTst (mOp2 neD (mVarB 3) (mVarB 4))))) (sRet (mPure (.bl false))) sNil) (sIf (mTst (mOp1 (isiD "dict") (mVarB 4))) sNever (sSq (sSet 5 (mLst (mCons (mAndV (mOp1 (isiD "tuple") (mVarB 3)) (mOp1 (isiD "tuple") (mVarB 4))) (mCons (mAndV (mOp1 (isiD "list") (mVarB 3)) (mOp1 (isiD "list") (mVarB 4))) (mPure [])))))
  (sSq (sIf (mOr (mTst (mOp2 ninD (mPure (.bl true)) (mVarB 5))) (mTst (mOp2 neD (mCall lenD (mCons (mVarB 3) (mPure []))) (mCall lenD (mCons (mVarB 4) (mPure [])))))) (sRet (mPure (.bl false))) sNil)
  (sExt 2 (mLc (mZip2 (mCons (mVar 3) (mCons (mVar 4) (mPure [])))) [7, 8] (gTp 2 (gCns (gNm 7) (gCns (gNm 8) gNl))) (mPure true) (mTup (mCons (mVar 7) (mCons (mVar 8) (mPure []))))))))))))
theorem sameM_eq : m_law_same = (sSq (sSetF 2 (mLst (mCons (mTup (mCons (mVar 0) (mCons (mVar 1) (mPure [])))) (mPure [])))) (sSq (sWh smT smB) (sRet (mPure (.bl true))))) := rfl
theorem sIf_of {t : MT} {m k : MS} {ρ : Lo} {S S1 : Sg} {b : Bool} (h : t ρ S = some (b, S1)) : sIf t m k ρ S = if b then m ρ S1 else k ρ S1 := by
  unfold sIf; rw [h]; rfl
/-- the part behind the pop, of a number or a text -/
theorem smB_leaf {n : Nat} {x y d : D} {ws : List D} {o t a l m : Option LV} (hd : (∃ i, d = .int i) ∨ ∃ z, d = .str z ∧ SeqAt.shaped (.str z) = true) :
    smB (smLo x y (ws ++ [.tup [d, d]]) o t a l m) none = some (.nx, smLo x y ws (some (.imm d)) (some (.imm d)) a l m, none) := by
  have ep : sPop 2 (gTp 2 (gCns (gNm 3) (gCns (gNm 4) gNl))) (smLo x y (ws ++ [.tup [d, d]]) o t a l m) none = some (.nx, smLo x y ws (some (.imm d)) (some (.imm d)) a l m, none) := by
    unfold sPop
    simp only [smLo, List.getElem?_cons_succ, List.getElem?_cons_zero, List.getLast?_append, List.getLast?_singleton, Option.some_or, List.dropLast_concat]
    rfl
  refine (sSq_nx ep).trans ?_
  rcases hd with ⟨i, rfl⟩ | ⟨z, rfl, hz⟩
  · refine (sIf_of (b := false) (S1 := none) rfl).trans ?_
    refine (sIf_of (b := true) (S1 := none) rfl).trans ?_
    have e : neD (.int i) (.int i) = some (.bl false) := by rw [neD_int]; simp
    have e1 : mTst (mOp2 neD (mVarB 3) (mVarB 4)) (smLo x y ws (some (.imm (.int i))) (some (.imm (.int i))) a l m) none = some (false, none) := mTst_of (mOp2_of (ev_varB rfl) (ev_varB rfl) e)
    have e0 : mTst (mOp2 neD (mOp1 (isiD "int") (mVarB 3)) (mOp1 (isiD "int") (mVarB 4))) (smLo x y ws (some (.imm (.int i))) (some (.imm (.int i))) a l m) none = some (false, none) := mTst_of (mOp2_of rfl rfl (ne_of_eq (b := true) rfl))
    refine (sIf_of (b := false) (S1 := none) ?_).trans rfl
    show (mTst (mOp1 (isiD "bool") (mVarB 3)) _ _).bind _ = _
    have eb : mTst (mOp1 (isiD "bool") (mVarB 3)) (smLo x y ws (some (.imm (.int i))) (some (.imm (.int i))) a l m) none = some (false, none) := rfl
    rw [eb]
    simp only [Option.bind_some, Bool.false_eq_true, if_false]
    unfold mOr
    rw [e0]
    simp only [Option.bind_some, Bool.false_eq_true, if_false]
    exact e1
  · refine (sIf_of (b := false) (S1 := none) rfl).trans ?_
    refine (sIf_of (b := true) (S1 := none) rfl).trans ?_
    have e : neD (.str z) (.str z) = some (.bl false) := by rw [str_ne hz hz]; simp
    have e1 : mTst (mOp2 neD (mVarB 3) (mVarB 4)) (smLo x y ws (some (.imm (.str z))) (some (.imm (.str z))) a l m) none = some (false, none) := mTst_of (mOp2_of (ev_varB rfl) (ev_varB rfl) e)
    have e0 : mTst (mOp2 neD (mOp1 (isiD "int") (mVarB 3)) (mOp1 (isiD "int") (mVarB 4))) (smLo x y ws (some (.imm (.str z))) (some (.imm (.str z))) a l m) none = some (false, none) := mTst_of (mOp2_of rfl rfl (ne_of_eq (b := true) rfl))
    refine (sIf_of (b := false) (S1 := none) ?_).trans rfl
    show (mTst (mOp1 (isiD "bool") (mVarB 3)) _ _).bind _ = _
    have eb : mTst (mOp1 (isiD "bool") (mVarB 3)) (smLo x y ws (some (.imm (.str z))) (some (.imm (.str z))) a l m) none = some (false, none) := rfl
    rw [eb]
    simp only [Option.bind_some, Bool.false_eq_true, if_false]
    unfold mOr
    rw [e0]
    simp only [Option.bind_some, Bool.false_eq_true, if_false]
    exact e1
/-- .. of a tuple or a list -/
theorem smB_node {x y d : D} {ws ds : List D} {o t a l m : Option LV} (hd : d = .tup ds ∨ d = .kt ds ∨ d = .lst ds) (hl : ws.length + ds.length ≤ 100000) :
    ∃ a' l' m', smB (smLo x y (ws ++ [.tup [d, d]]) o t a l m) none = some (.nx, smLo x y (ws ++ prs ds) (some (.imm d)) (some (.imm d)) a' l' m', none) := by
  have ep : sPop 2 (gTp 2 (gCns (gNm 3) (gCns (gNm 4) gNl))) (smLo x y (ws ++ [.tup [d, d]]) o t a l m) none = some (.nx, smLo x y ws (some (.imm d)) (some (.imm d)) a l m, none) := by
    unfold sPop
    simp only [smLo, List.getElem?_cons_succ, List.getElem?_cons_zero, List.getLast?_append, List.getLast?_singleton, Option.some_or, List.dropLast_concat]
    rfl
  obtain ⟨b1, b2, hb, eA⟩ : ∃ b1 b2, (b1 = true ∨ b2 = true) ∧ mLst (mCons (mAndV (mOp1 (isiD "tuple") (mVarB 3)) (mOp1 (isiD "tuple") (mVarB 4))) (mCons (mAndV (mOp1 (isiD "list") (mVarB 3)) (mOp1 (isiD "list") (mVarB 4))) (mPure []))) (smLo x y ws (some (.imm d)) (some (.imm d)) a l m) none = some (.lst [.bl b1, .bl b2], none) := by
    rcases hd with rfl | rfl | rfl
    · exact ⟨true, false, .inl rfl, rfl⟩
    · exact ⟨true, false, .inl rfl, rfl⟩
    · exact ⟨false, true, .inr rfl, rfl⟩
  have hi : itemsD d = some ds := by rcases hd with rfl | rfl | rfl <;> rfl
  have c1 : mOr (mTst (mOp2 isD (mVarB 4) (mPure .non))) (mTst (mOp1 (isiD "bool") (mVarB 4))) (smLo x y ws (some (.imm d)) (some (.imm d)) a l m) none = some (false, none) := by rcases hd with rfl | rfl | rfl <;> rfl
  have c2 : mTst (mOp1 (isi2D "int" "str") (mVarB 4)) (smLo x y ws (some (.imm d)) (some (.imm d)) a l m) none = some (false, none) := by rcases hd with rfl | rfl | rfl <;> rfl
  have c3 : mTst (mOp1 (isiD "dict") (mVarB 4)) (smLo x y ws (some (.imm d)) (some (.imm d)) a l m) none = some (false, none) := by rcases hd with rfl | rfl | rfl <;> rfl
  have e5 : sSet 5 (mLst (mCons (mAndV (mOp1 (isiD "tuple") (mVarB 3)) (mOp1 (isiD "tuple") (mVarB 4))) (mCons (mAndV (mOp1 (isiD "list") (mVarB 3)) (mOp1 (isiD "list") (mVarB 4))) (mPure [])))) (smLo x y ws (some (.imm d)) (some (.imm d)) a l m) none = some (.nx, smLo x y ws (some (.imm d)) (some (.imm d)) (some (.imm (.lst [.bl b1, .bl b2]))) l m, none) := by
    unfold sSet; rw [eA]; rfl
  have en : mTst (mOp2 ninD (mPure (.bl true)) (mVarB 5)) (smLo x y ws (some (.imm d)) (some (.imm d)) (some (.imm (.lst [.bl b1, .bl b2]))) l m) none = some (false, none) := by
    refine mTst_of (mOp2_of rfl (ev_varB rfl) ?_)
    cases b1 <;> cases b2 <;> first | rfl | (rcases hb with h | h <;> cases h)
  have el : mTst (mOp2 neD (mCall lenD (mCons (mVarB 3) (mPure []))) (mCall lenD (mCons (mVarB 4) (mPure [])))) (smLo x y ws (some (.imm d)) (some (.imm d)) (some (.imm (.lst [.bl b1, .bl b2]))) l m) none = some (false, none) := by
    refine mTst_of (mOp2_of (mCall_of (cons_of (ev_varB rfl) rfl) (len_items hi)) (mCall_of (cons_of (ev_varB rfl) rfl) (len_items hi)) ?_)
    rw [neD_int]; simp
  have eo : mOr (mTst (mOp2 ninD (mPure (.bl true)) (mVarB 5))) (mTst (mOp2 neD (mCall lenD (mCons (mVarB 3) (mPure []))) (mCall lenD (mCons (mVarB 4) (mPure []))))) (smLo x y ws (some (.imm d)) (some (.imm d)) (some (.imm (.lst [.bl b1, .bl b2]))) l m) none = some (false, none) := by
    unfold mOr
    rw [en]
    simp only [Option.bind_some, Bool.false_eq_true, if_false]
    exact el
  have ez : mZip2 (mCons (mVar 3) (mCons (mVar 4) (mPure []))) (smLo x y ws (some (.imm d)) (some (.imm d)) (some (.imm (.lst [.bl b1, .bl b2]))) l m) none = some (prs ds, none) := by
    unfold mZip2
    rw [cons_of (ev_var rfl) (cons_of (ev_var rfl) rfl)]
    simp only [Option.bind_some, hi, Option.map_some, prs_zip]
  have eg := lc_rel (g := gTp 2 (gCns (gNm 7) (gCns (gNm 8) gNl))) (t := mPure true) (m := mTup (mCons (mVar 7) (mCons (mVar 8) (mPure [])))) (S := none) (ρ := wipeL (smLo x y ws (some (.imm d)) (some (.imm d)) (some (.imm (.lst [.bl b1, .bl b2]))) l m) [7, 8]) (fun e : D => D.tup [e, e]) (paired_mapL (R := fun p e => p = D.tup [e, e]) (e := fun e => D.tup [e, e]) (fun _ => rfl) ds) fun p e hp _ => by
    subst hp
    exact ⟨_, rfl, rfl, rfl⟩
  refine ⟨some (.imm (.lst [.bl b1, .bl b2])), l, m, ?_⟩
  refine (sSq_nx ep).trans ((sIf_of c1).trans ((sIf_of c2).trans ((sIf_of c3).trans ((sSq_nx e5).trans ?_))))
  refine (sSq_nx (((sIf_of eo).trans rfl : sIf _ _ _ _ _ = some (.nx, smLo x y ws (some (.imm d)) (some (.imm d)) (some (.imm (.lst [.bl b1, .bl b2]))) l m, none)))).trans ?_
  have e7 : mLc (mZip2 (mCons (mVar 3) (mCons (mVar 4) (mPure [])))) [7, 8] (gTp 2 (gCns (gNm 7) (gCns (gNm 8) gNl))) (mPure true) (mTup (mCons (mVar 7) (mCons (mVar 8) (mPure [])))) (smLo x y ws (some (.imm d)) (some (.imm d)) (some (.imm (.lst [.bl b1, .bl b2]))) l m) none = some (.lst (prs ds), none) := by
    unfold mLc
    rw [ez]
    simp only [Option.bind_some]
    show Option.map _ (lcGo _ _ _ _ (prs ds) none) = _
    unfold prs
    rw [eg]; rfl
  unfold sExt
  simp only [smLo, List.getElem?_cons_succ, List.getElem?_cons_zero]
  rw [e7]
  simp only [Option.bind_some]
  rw [if_pos (by unfold prs; rw [List.length_map]; omega)]
  rfl
theorem same_go {x y : D} : ∀ (k : Nat) (xs : List D) (o t a l m : Option LV), szDs xs ≤ k → k ≤ 100000 → (∀ d ∈ xs, PD 50 d) → ∃ j ρ', whN smT smB j (smLo x y (prs xs) o t a l m) none = some (.nx, ρ', none) := by
  intro k
  induction k with
  | zero =>
    intro xs o t a l m hk _ hx
    have hn : xs = [] := by
      (have := szDs_len xs); exact List.length_eq_zero_iff.mp (by omega)
    subst hn
    refine ⟨1, smLo x y (prs []) o t a l m, ?_⟩
    unfold whN
    rw [smT_ev (n := 0) (fun _ h => by cases h) (by omega)]
    rfl
  | succ k ih =>
    intro xs o t a l m hk hk1 hx
    by_cases hn : xs = []
    · subst hn
      refine ⟨1, smLo x y (prs []) o t a l m, ?_⟩
      unfold whN
      rw [smT_ev (n := 0) (fun _ h => by cases h) (by omega)]
      rfl
    · obtain ⟨ys, d, rfl⟩ : ∃ ys d, xs = ys ++ [d] := ⟨xs.dropLast, xs.getLast hn, (List.dropLast_concat_getLast hn).symm⟩
      have hd := hx d (by simp)
      have hys : ∀ e ∈ ys, PD 50 e := fun e he => hx e (List.mem_append_left _ he)
      rw [szDs_app] at hk
      have hk2 : szDs ys + szD d ≤ k + 1 := by simpa [szDs] using hk
      have hp : prs (ys ++ [d]) = prs ys ++ [.tup [d, d]] := by unfold prs; simp
      have step : ∀ {ρ1 : Lo} {j : Nat} {ρ' : Lo}, smB (smLo x y (prs (ys ++ [d])) o t a l m) none = some (.nx, ρ1, none) → whN smT smB j ρ1 none = some (.nx, ρ', none) → whN smT smB (j + 1) (smLo x y (prs (ys ++ [d])) o t a l m) none = some (.nx, ρ', none) := fun {ρ1 j ρ'} e e' => by
        unfold whN
        rw [smT_ev hx (by omega), decide_eq_true hn]
        simp only [Option.bind_some, if_true]
        rw [e]
        exact e'
      have leaf : ((∃ i, d = .int i) ∨ ∃ z, d = .str z ∧ SeqAt.shaped (.str z) = true) → ∃ j ρ', whN smT smB j (smLo x y (prs (ys ++ [d])) o t a l m) none = some (.nx, ρ', none) := fun h => by
        have := szD_pos d
        obtain ⟨j, ρ', e⟩ := ih ys (some (.imm d)) (some (.imm d)) a l m (by omega) (by omega) hys
        exact ⟨j + 1, ρ', step (by rw [hp]; exact smB_leaf (n := 0) h) e⟩
      have node : ∀ ds, (d = .tup ds ∨ d = .kt ds ∨ d = .lst ds) → (∀ e ∈ ds, PD 49 e) → ∃ j ρ', whN smT smB j (smLo x y (prs (ys ++ [d])) o t a l m) none = some (.nx, ρ', none) := fun ds h hds => by
        have hz : szD d = 1 + szDs ds := by rcases h with rfl | rfl | rfl <;> simp [szD]
        have h1 := szDs_len ys
        have h2 := szDs_len ds
        obtain ⟨a', l', m', e⟩ := smB_node (x := x) (y := y) (ws := prs ys) (o := o) (t := t) (a := a) (l := l) (m := m) h (by unfold prs; rw [List.length_map]; omega)
        obtain ⟨j, ρ', e2⟩ := ih (ys ++ ds) (some (.imm d)) (some (.imm d)) a' l' m' (by rw [szDs_app]; omega) (by omega) (fun e he => by
          rcases List.mem_append.mp he with h | h
          · exact hys e h
          · exact (hds e h).mono (by omega))
        have hp2 : prs (ys ++ ds) = prs ys ++ prs ds := by unfold prs; simp
        rw [hp2] at e2
        exact ⟨j + 1, ρ', step (by rw [hp]; exact e) e2⟩
      cases hd with
      | int _ i => exact leaf (.inl ⟨i, rfl⟩)
      | str _ h => exact leaf (.inr ⟨_, rfl, h⟩)
      | tup h => exact node _ (.inl rfl) h
      | kt h => exact node _ (.inr (.inl rfl)) h
      | lst h => exact node _ (.inr (.inr rfl)) h
/-- what is the same is the same -/
theorem same_ev {d : D} (h : PD 50 d) (hz : szD d ≤ 10000) : f_law_same [d, d] = some (.bl true) := by
  obtain ⟨j, ρ', e⟩ := same_go (x := d) (y := d) (szD d) [d] none none none none none (by simp [szDs]) (by omega) (fun e he => by rw [List.mem_singleton.mp he]; exact h)
  have e2 := sWh_of e
  show runP 2 9 m_law_same [d, d] = _
  rw [sameM_eq]
  have e1 : sSetF 2 (mLst (mCons (mTup (mCons (mVar 0) (mCons (mVar 1) (mPure [])))) (mPure []))) (startL 9 [d, d]) none = some (.nx, smLo d d (prs [d]) none none none none none, none) := rfl
  exact runP_rt rfl ((sSq_nx e1).trans ((sSq_nx e2).trans (sRet_of rfl)))
end K25
namespace K25
open PySem PyProof.Rows L2 Dv

def rowD (r : Row) : D := .tup [.tup (r.1.map mk), .tup (r.2.map mk)]
def budD (rs : List Row) : D := .tup [.str "budgets", .tup (rs.map rowD)]
structure RowN (g : Nat) (r : Row) : Prop where
  rp : RowP g r
  pn : ∀ q ∈ r.1, Num 600 3456 q
  qn : ∀ q ∈ r.2, Num 288 240 q
theorem rows_of {g : Nat} : ∀ {rds : List D}, (∀ d ∈ rds, SR g d) → ∃ rs : List Row, rds = rs.map rowD ∧ ∀ r ∈ rs, RowN g r
  | [], _ => ⟨[], rfl, fun _ h => by cases h⟩
  | d :: rds, h => by
    obtain ⟨x, y, rfl, hx, hy⟩ := h d List.mem_cons_self
    obtain ⟨ps, rfl, pl, hp⟩ := hx.ex
    obtain ⟨qs, rfl, ql, hq, hq1⟩ := hy.ex
    obtain ⟨rs, rfl, hr⟩ := rows_of (rds := rds) fun e he => h e (List.mem_cons_of_mem _ he)
    (refine ⟨(ps, qs) :: rs, rfl, fun r hm => ?_⟩); rcases List.mem_cons.mp hm with rfl | hm
    · exact ⟨⟨pl, ql, fun q hq' => (hp q hq').1, fun q hq' => (hq q hq').1, hq1⟩, fun q hq' => (hp q hq').2, fun q hq' => (hq q hq').2⟩
    · exact hr r hm
theorem paired_row (rs : List Row) : Paired RowR (rs.map rowD) rs := paired_mapL (R := RowR) (e := rowD) (fun r => ⟨_, _, rfl, vec_mk r.1, vec_mk r.2⟩) rs
theorem bud_of {g : Nat} {x : D} (h : StR g x) : ∃ rs, x = budD rs ∧ 1 ≤ rs.length ∧ rs.length ≤ 8 ∧ ∀ r ∈ rs, RowN g r := by
  obtain ⟨rds, rfl, hd, h1, h8⟩ := h
  obtain ⟨rs, rfl, hr⟩ := rows_of hd
  rw [List.length_map] at h1 h8
  exact ⟨rs, rfl, h1, h8, hr⟩
theorem budR_of {g : Nat} {rs : List Row} (h1 : 1 ≤ rs.length) (h8 : rs.length ≤ 8) (g2 : 2 ≤ g) (g4 : g ≤ 4) (h : ∀ r ∈ rs, RowP g r) : BudR (budD rs) rs g :=
  ⟨⟨_, rfl, paired_row rs⟩, h1, h8, h, g2, g4⟩
/-! ### one denominator for all -/
def prodD : List Rat → Nat
  | [] => 1
  | q :: l => q.den * prodD l
theorem prodD_ne : ∀ l, prodD l ≠ 0
  | [] => Nat.one_ne_zero
  | q :: l => Nat.mul_ne_zero q.den_nz (prodD_ne l)
theorem prodD_dvd : ∀ {l : List Rat} {q : Rat}, q ∈ l → q.den ∣ prodD l
  | [], _, h => by cases h
  | p :: l, q, h => by
    (rcases List.mem_cons.mp h with rfl | h)
    · exact Nat.dvd_mul_right _ _
    · exact Nat.dvd_trans (prodD_dvd h) (Nat.dvd_mul_left _ _)
theorem prodD_log : ∀ {l : List Rat}, (∀ q ∈ l, q.den ≤ 4096) → (prodD l).log2 ≤ 13 * l.length
  | [], _ => by
    have e : (1 : Nat).log2 = 0 := by decide +kernel
    show (1 : Nat).log2 ≤ _
    omega
  | p :: l, h => by
    have h1 := log2_mono (h p List.mem_cons_self)
    have e : (4096 : Nat).log2 = 12 := by decide +kernel
    have h2 := prodD_log (l := l) fun q hq => h q (List.mem_cons_of_mem _ hq)
    have h3 := log2_mul p.den (prodD l)
    simp only [prodD, List.length_cons]
    omega
theorem inD_dvd {E n : Nat} {q : Rat} (h0 : E ≠ 0) (hd : q.den ∣ E) (hn : q.num.natAbs ≤ n) : InD E (n * E) q := by
  obtain ⟨k, rfl⟩ := hd
  have hk : k ≠ 0 := fun z => by subst z; simp at h0
  refine ((inD_self q).up hk).mono ?_
  refine Nat.mul_le_mul hn ?_
  exact Nat.le_mul_of_pos_left _ q.den_pos
theorem bnd_of (L : List Rat) (hl : L.length ≤ 140) (h : ∀ q ∈ L, Num 4096 4096 q) : ∃ E N B, Bnd E N B ∧ (∀ q ∈ L, InD E N q) ∧ ∀ q : Rat, Num 3 9 q → InD E N q := by
  have hE : 6 * prodD L ≠ 0 := Nat.mul_ne_zero (by omega) (prodD_ne L)
  have h1 := prodD_log fun q hq => (h q hq).den
  have h2 := log2_mul 6 (prodD L)
  have e6 : (6 : Nat).log2 = 2 := by decide +kernel
  have e4 : (4096 : Nat).log2 = 12 := by decide +kernel
  have e1 : (10000 : Nat).log2 = 13 := by decide +kernel
  have h3 := log2_mul 4096 (6 * prodD L)
  have h4 := log2_mul (6 * prodD L) (6 * prodD L)
  have h5 := log2_mul (4096 * (6 * prodD L)) (4096 * (6 * prodD L))
  have h6 := log2_mul 10000 ((4096 * (6 * prodD L)) * (4096 * (6 * prodD L)))
  refine ⟨6 * prodD L, 4096 * (6 * prodD L), 10000 * ((4096 * (6 * prodD L)) * (4096 * (6 * prodD L))), ⟨⟨hE, by omega, by omega⟩, ⟨Nat.mul_ne_zero hE hE, by omega, by omega⟩, Nat.le_refl _⟩, fun q hq => ?_, fun q hq => ?_⟩
  · exact inD_dvd hE (Nat.dvd_trans (prodD_dvd hq) (Nat.dvd_mul_left _ _)) (h q hq).num
  · have hd := hq.den
    have h0 := q.den_nz
    refine inD_dvd hE (Nat.dvd_trans (?_ : q.den ∣ 6) (Nat.dvd_mul_right _ _)) (by have := hq.num; omega)
    have : q.den = 1 ∨ q.den = 2 ∨ q.den = 3 := by omega
    rcases this with h | h | h <;> rw [h] <;> decide
def ents (rs : List Row) : List Rat := rs.flatMap fun r => r.1 ++ r.2
theorem ents_len {g : Nat} (g4 : g ≤ 4) : ∀ {rs : List Row}, (∀ r ∈ rs, RowP g r) → (ents rs).length ≤ 8 * rs.length
  | [], _ => by simp [ents]
  | r :: rs, h => by
    have h1 := (h r List.mem_cons_self).pl
    have h2 := (h r List.mem_cons_self).ql
    have h3 := ents_len g4 (rs := rs) fun s hs => h s (List.mem_cons_of_mem _ hs)
    unfold ents at h3 ⊢
    rw [List.flatMap_cons, List.length_append, List.length_append, List.length_cons]
    omega
theorem rowB_of {g E N : Nat} (g2 : 2 ≤ g) (g4 : g ≤ 4) {rs : List Row} (h : ∀ r ∈ rs, RowP g r) (hi : ∀ q ∈ ents rs, InD E N q) : ∀ r ∈ rs, RowB E N r := fun r hr => by
  have h1 := (h r hr).pl
  have h2 := (h r hr).ql
  refine ⟨fun z => ?_, fun z => ?_, by omega, fun q hq => hi q ?_, fun q hq => hi q ?_⟩
  · rw [z] at h1; simp at h1; omega
  · rw [z] at h2; simp at h2; omega
  · exact List.mem_flatMap.mpr ⟨r, hr, List.mem_append_left _ hq⟩
  · exact List.mem_flatMap.mpr ⟨r, hr, List.mem_append_right _ hq⟩
/-! ### all bundles multiplied -/
def sc (f : Rat) (r : Row) : Row := (r.1, r.2.map (f * ·))
theorem rsum_mul (f : Rat) : ∀ l : List Rat, rsum (l.map (f * ·)) = f * rsum l
  | [] => (Rat.mul_zero f).symm
  | x :: l => by rw [List.map_cons, rsum_cons, rsum_cons, rsum_mul f l, Rat.mul_add]
theorem rdot_sc (f : Rat) (ps qs : List Rat) : rdot ps (qs.map (f * ·)) = f * rdot ps qs := by
  unfold rdot
  rw [← rsum_mul, List.map_map, List.zip_map_right, List.map_map]
  congr 1
  (refine List.map_congr_left fun p _ => ?_); show p.1 * (f * p.2) = f * (p.1 * p.2)
  rw [← Rat.mul_assoc, Rat.mul_comm p.1 f, Rat.mul_assoc]
theorem cst_sc (f : Rat) (r s : Row) : cst (sc f r) (sc f s) = f * cst r s := rdot_sc f r.1 s.2
theorem gap_sc (f : Rat) (rs : List Row) (i j : Nat) : gap (rs.map (sc f)) i j = f * gap rs i j := by
  unfold gap
  (rw [List.getElem?_map, List.getElem?_map]); cases rs[i]? with
  | none => exact (Rat.mul_zero f).symm
  | some r =>
    cases rs[j]? with
    | none => exact (Rat.mul_zero f).symm
    | some s =>
      show cst (sc f r) (sc f s) - cst (sc f r) (sc f r) = _
      rw [cst_sc, cst_sc]
      grind
theorem ring_sc {f : Rat} (hf : 0 < f) {n : Nat} {g : Nat → Nat → Rat} {ring : List Nat} (h : RingR n g ring) : RingR n (fun i j => f * g i j) ring := by
  refine ⟨h.two, h.len, h.nd, h.lt, ?_⟩
  have e : (stepsR ring).map (fun p => f * g p.1 p.2) = ((stepsR ring).map fun p => g p.1 p.2).map (f * ·) := by rw [List.map_map]; rfl
  rw [e, rsum_mul]
  have := Rat.mul_lt_mul_of_pos_left h.less hf
  rw [Rat.mul_zero] at this
  exact this
theorem keep_sc {f : Rat} (hf : 0 < f) {n : Nat} {g : Nat → Nat → Rat} {lev : Nat → Rat} (h : ∀ i j, i < n → j < n → lev j ≤ lev i + g i j) : ∀ i j, i < n → j < n → f * lev j ≤ f * lev i + f * g i j := fun i j hi hj => by
  have := Rat.mul_le_mul_of_nonneg_left (h i j hi hj) (Rat.le_of_lt hf)
  rw [Rat.mul_add] at this
  exact this
theorem num_mul {dn nn dn' nn' : Nat} {p q : Rat} (hp : Num dn nn p) (hq : Num dn' nn' q) : Num (dn * dn') (nn * nn') (p * q) := by
  have e : p * q = mkRat (p.num * q.num) (p.den * q.den) := by
    rw [← Rat.mkRat_mul_mkRat, Rat.mkRat_self, Rat.mkRat_self]
  rw [e]
  refine num_mk (Nat.mul_ne_zero p.den_nz q.den_nz) (Nat.mul_le_mul hp.den hq.den) ?_
  rw [Int.natAbs_mul]
  exact Nat.mul_le_mul hp.num hq.num
theorem rowP_sc {f : Rat} (hf : 0 < f) {g : Nat} {r : Row} (h : RowP g r) : RowP g (sc f r) := by
  refine ⟨h.pl, by show (r.2.map _).length = g; rw [List.length_map]; exact h.ql, h.pp, fun q hq => ?_, ?_⟩
  · obtain ⟨p, hp, rfl⟩ := List.mem_map.mp hq
    exact Rat.mul_nonneg (Rat.le_of_lt hf) (h.qp p hp)
  · obtain ⟨q, hq, h0⟩ := h.q1
    exact ⟨f * q, List.mem_map.mpr ⟨q, hq, rfl⟩, Rat.mul_pos hf h0⟩
end K25
namespace K25
open PySem PyProof.Rows L2 Dv

theorem pd_rat {d : D} {q : Rat} (h : IsR d q) : PD 1 d ∧ szD d = 3 := by
  rcases h with rfl | rfl
  · refine ⟨.tup fun d hd => ?_, by simp [mk, szD, szDs]⟩
    simp only [List.mem_cons, List.not_mem_nil, or_false] at hd
    rcases hd with rfl | rfl <;> exact .int _ _
  · refine ⟨.kt fun d hd => ?_, by simp [szD, szDs]⟩
    simp only [List.mem_cons, List.not_mem_nil, or_false] at hd
    rcases hd with rfl | rfl <;> exact .int _ _
theorem pd_rl : ∀ {ls : List D} {vs : List Rat}, RL ls vs → (∀ d ∈ ls, PD 1 d) ∧ szDs ls = 3 * vs.length
  | _, _, .nil => ⟨(fun _ h => by cases h), rfl⟩
  | _, _, .cons r p => by
    obtain ⟨h1, h2⟩ := pd_rat r
    obtain ⟨h3, h4⟩ := pd_rl p
    (refine ⟨fun d hd => ?_, by simp only [szDs, List.length_cons]; omega⟩); rcases List.mem_cons.mp hd with rfl | hd
    · exact h1
    · exact h3 d hd
theorem pd_pair {n : Nat} {x : Str} (hx : SeqAt.shaped (.str x) = true) {y : D} (h : PD n y) : PD (n + 1) (.tup [.str x, y]) := .tup fun d hd => by
  simp only [List.mem_cons, List.not_mem_nil, or_false] at hd
  rcases hd with rfl | rfl
  · exact .str _ hx
  · exact h
theorem sz_ring : ∀ ring : List Nat, szDs (ringD ring) = ring.length
  | [] => rfl
  | i :: r => by
    show szD (.int (i : Nat)) + szDs (ringD r) = _
    rw [sz_ring r, List.length_cons]
    simp only [szD]; omega
/-- what is told, and told again -/
theorem same_told {rs : List Row} {E N : Nat} {res : D} (h8 : rs.length ≤ 8) (h : StraightR rs E N res) : f_law_same [res, res] = some (.bl true) := by
  rcases h with ⟨ls, lev, rfl, K⟩ | ⟨ring, rfl, R⟩
  · have hn := keepL_of K
    obtain ⟨h1, h2⟩ := pd_rl hn.rl
    refine same_ev ((pd_pair sh_some (.tup h1)).mono (by omega)) ?_
    have := hn.len
    simp only [szD, szDs]
    omega
  · refine same_ev ((pd_pair sh_ring (n := 1) (.tup (n := 0) (ds := ringD ring) fun d hd => ?_)).mono (by omega)) ?_
    · obtain ⟨i, _, rfl⟩ := List.mem_map.mp hd
      exact .int _ _
    · have h1 := R.len
      have h2 := sz_ring ring
      show szD (.tup [.str "ring", .tup (ringD ring)]) ≤ _
      simp only [szD, szDs]
      omega
theorem same_wish (w : Rat) : f_law_same [.lst [mk w, mk w], .lst [mk w, mk w]] = some (.bl true) := by
  obtain ⟨h1, h2⟩ := pd_rat (isR_mk w)
  refine same_ev ((PD.lst (n := 1) (ds := [mk w, mk w]) fun d hd => ?_).mono (by omega)) ?_
  · simp only [List.mem_cons, List.not_mem_nil, or_false, or_self] at hd
    rw [hd]; exact h1
  · simp only [szD, szDs, h2]
    omega
/-- what is told of a turn's budgets -/
structure Told (A : Ads) (g : Nat) (rs : List Row) (f : Rat) (E N B : Nat) (told res' : D) : Prop where
  bnd : Bnd E N B
  rb : ∀ r ∈ rs, RowB E N r
  small : ∀ q : Rat, Num 3 9 q → InD E N q
  bud : BudR (budD rs) rs g
  ev : f_straight_paper A [budD rs] = some told
  is : f_is_straight_paper [budD rs, told] = some (.bl true)
  same : f_law_same [told, told] = some (.bl true)
  great : f_straight_paper A [budD (rs.map (sc f))] = some res'
  kind : (∃ ls lev, told = .tup [.str "some", .tup ls] ∧ KeepR rs.length (gap rs) (E * E) (5000 * (N * N)) ls lev ∧ ∃ y, res' = .tup [.str "some", y]) ∨ ∃ ring : List Nat, told = .tup [.str "ring", .tup (ringD ring)] ∧ RingR rs.length (gap rs) ring ∧ ∃ y, res' = .tup [.str "ring", y]
theorem told_ev {A : Ads} {g : Nat} {rs : List Row} {f : Rat} (hf : 0 < f) (hfn : Num 9 9 f) (h1 : 1 ≤ rs.length) (h8 : rs.length ≤ 8) (g2 : 2 ≤ g) (g4 : g ≤ 4) (h : ∀ r ∈ rs, RowN g r) : ∃ E N B told res', Told A g rs f E N B told res' := by
  have hp : ∀ r ∈ rs, RowP g r := fun r hr => (h r hr).rp
  have hp' : ∀ r ∈ rs.map (sc f), RowP g r := fun r hr => by
    obtain ⟨s, hs, rfl⟩ := List.mem_map.mp hr
    exact rowP_sc hf (hp s hs)
  have hl1 := ents_len g4 hp
  have hl2 := ents_len g4 hp'
  rw [List.length_map] at hl2
  have hn1 : ∀ q ∈ ents rs, Num 4096 4096 q := fun q hq => by
    (obtain ⟨r, hr, hq⟩ := List.mem_flatMap.mp hq); rcases List.mem_append.mp hq with hq | hq
    · exact ((h r hr).pn q hq).mono (by omega) (by omega)
    · exact ((h r hr).qn q hq).mono (by omega) (by omega)
  have hn2 : ∀ q ∈ ents (rs.map (sc f)), Num 4096 4096 q := fun q hq => by
    obtain ⟨r, hr, hq⟩ := List.mem_flatMap.mp hq
    (obtain ⟨s, hs, rfl⟩ := List.mem_map.mp hr); rcases List.mem_append.mp hq with hq | hq
    · exact ((h s hs).pn q hq).mono (by omega) (by omega)
    · obtain ⟨p, hp, rfl⟩ := List.mem_map.mp hq
      exact (num_mul hfn ((h s hs).qn p hp)).mono (by omega) (by omega)
  obtain ⟨E, N, B, b, hi, hs⟩ := bnd_of (ents rs ++ ents (rs.map (sc f))) (by rw [List.length_append]; omega) fun q hq => (List.mem_append.mp hq).elim (hn1 q) (hn2 q)
  have rb := rowB_of g2 g4 hp fun q hq => hi q (List.mem_append_left _ hq)
  have rb' := rowB_of g2 g4 hp' fun q hq => hi q (List.mem_append_right _ hq)
  have bud := budR_of h1 h8 g2 g4 hp
  have bud' := budR_of (rs := rs.map (sc f)) (by rw [List.length_map]; exact h1) (by rw [List.length_map]; exact h8) g2 g4 hp'
  obtain ⟨told, e, hS⟩ := paper_ev (A := A) b bud rb
  obtain ⟨res', e', hS'⟩ := paper_ev (A := A) b bud' rb'
  refine ⟨E, N, B, told, res', b, rb, hs, bud, e, is_paper_ev b bud rb hS, same_told h8 hS, e', ?_⟩
  have hg : gap (rs.map (sc f)) = fun i j => f * gap rs i j := by funext i j; exact gap_sc f rs i j
  rcases hS with ⟨ls, lev, rfl, K⟩ | ⟨ring, rfl, R⟩
  · refine .inl ⟨ls, lev, rfl, K, ?_⟩
    rcases hS' with ⟨ls', lev', rfl, K'⟩ | ⟨ring', rfl, R'⟩
    · exact ⟨_, rfl⟩
    · rw [List.length_map, hg] at R'
      exact (no_both (keep_sc hf K.keep) R').elim
  · refine .inr ⟨ring, rfl, R, ?_⟩
    rcases hS' with ⟨ls', lev', rfl, K'⟩ | ⟨ring', rfl, R'⟩
    · have hk := K'.keep
      rw [List.length_map, hg] at hk
      exact (no_both hk (ring_sc hf R)).elim
    · exact ⟨_, rfl⟩
/-! ### one drawn bundle -/
theorem bunR_of {E N g : Nat} {y : D} (hs : ∀ q : Rat, Num 3 9 q → InD E N q) (h : BdlR g 3 9 y) : ∃ qs, y = .tup (qs.map mk) ∧ BunR E N g y qs := by
  obtain ⟨qs, rfl, hl, hq, _⟩ := h.ex
  exact ⟨qs, rfl, vec_mk qs, hl, fun q hm => hs q (hq q hm).2, fun q hm => (hq q hm).1⟩
end K25
namespace K25
open PySem PyProof.Rows L2 Dv

variable {ns : List Int} {a : Addr}
theorem rs_pure {m : MS} {ρ ρ' : Lo} {fl : Fl} {P : Fl → Lo → Prop} (h : ∀ S, m ρ S = some (fl, ρ', S)) (p : P fl ρ') : RS ns a 0 m ρ P := fun c r ok _ _ => ⟨fl, ρ', r, h _, p, ok, Later.refl r⟩
theorem rs_det {m n : MS} {ρ ρ' : Lo} {k : Nat} {Q : Fl → Lo → Prop} (h : ∀ S, m ρ S = some (.nx, ρ', S)) (h2 : RS ns a k n ρ' Q) : RS ns a k (sSq m n) ρ Q := fun c r ok ha hc => by
  obtain ⟨fl, ρ2, r2, e2, p2, ok2, l2⟩ := h2 c r ok ha hc
  exact ⟨fl, ρ2, r2, (sSq_nx (h _)).trans e2, p2, ok2, l2⟩
theorem mOr_f {t u : MT} {ρ : Lo} {S S' : Sg} {b : Bool} (h1 : t ρ S = some (false, S)) (h2 : u ρ S = some (b, S')) : mOr t u ρ S = some (b, S') := by
  unfold mOr; rw [h1]; simp only [Option.bind_some, Bool.false_eq_true, if_false]; exact h2
theorem mNot_of {t : MT} {ρ : Lo} {S S' : Sg} {b : Bool} (h : t ρ S = some (b, S')) : mNot t ρ S = some (!b, S') := by
  unfold mNot; rw [h]; rfl
theorem sIf_f {t : MT} {m : MS} {ρ : Lo} {S : Sg} (h : t ρ S = some (false, S)) : sIf t m sNil ρ S = some (.nx, ρ, S) := (sIf_of h).trans rfl
theorem set_of {i : Nat} {m : ME} {ρ : Lo} {S S' : Sg} {d : D} (h : m ρ S = some (d, S')) : sSet i m ρ S = some (.nx, ρ.set i (some (.imm d)), S') := by
  unfold sSet; rw [h]; rfl
theorem callK0_of {f : List D → Option D} {ix : List Nat} {m : MA} {ρ : Lo} {S S' : Sg} {ds : List D} {d : D} (h : m ρ S = some (ds, S')) (hf : f (pick ix ds) = some d) : mCallK0 f ix m ρ S = some (d, S') := by
  unfold mCallK0; rw [h]; simp only [Option.bind_some]; rw [hf]; rfl
theorem lst_of {m : MA} {ρ : Lo} {S S' : Sg} {ds : List D} (h : m ρ S = some (ds, S')) (hl : ds.length ≤ 4096) : mLst m ρ S = some (.lst ds, S') := by
  unfold mLst; rw [h]; simp only [Option.bind_some]; rw [if_pos hl]
theorem tup_of {m : MA} {ρ : Lo} {S S' : Sg} {ds : List D} (h : m ρ S = some (ds, S')) (hl : ds.length ≤ 4096) : mTup m ρ S = some (.tup ds, S') := by
  unfold mTup; rw [h]; simp only [Option.bind_some]; rw [if_pos hl]
abbrev lLo (ns : List Int) (a : Addr) (t b gr rw gd td fc nu bu du pr ow am : Option LV) : Lo := [some (.imm (.scr ns)), some (.imm (.rng a)), t, b, gr, rw, gd, td, fc, nu, bu, du, pr, ow, am]
/-- what a row's turn looks at -/
noncomputable def rowB : MS := (sSq (sSet 10 (mCallR f_law_bu_bundle (mCons (mVar 1) (mCons (mVar 6) (mCons (mPure (.int 9)) (mPure []))))))
  (sSq (sSet 11 (mCall f_law_least (mCons (mVar 5) (mCons (mOp2 ixD (mVarB 7) (mPure (.int 1))) (mCons (mVar 10) (mPure []))))))
  (sSq (sIf (mNot (mTst (mCall f_law_same (mCons (mLst (mCons (mCall f_straight_wish (mCons (mVar 3) (mCons (mOp2 ixD (mVarB 7) (mPure (.int 1))) (mCons (mVar 10) (mPure []))))) (mCons (mCallK0 f_straight_wish [2, 1, 0] (mCons (mVar 10) (mCons (mOp2 ixD (mVarB 7) (mPure (.int 1))) (mCons (mVar 3) (mPure []))))) (mPure [])))) (mCons (mLst (mCons (mVar 11) (mCons (mVar 11) (mPure [])))) (mPure [])))))) (sRet (mPure (.bl false))) sNil)
  (sSq (sIf (mTst (mOp2 neD (mCall f_straight_wish (mCons (mVar 3) (mCons (mOp2 ixD (mVarB 7) (mPure (.int 1))) (mCons (mVar 13) (mPure []))))) (mVarB 9))) (sRet (mPure (.bl false))) sNil)
  (sIf (mTst (mCall f_law_less (mCons (mCall f_law_minus (mCons (mVar 9) (mCons (mCall f_law_dot (mCons (mVar 12) (mCons (mVar 13) (mPure [])))) (mPure [])))) (mCons (mCall f_law_minus (mCons (mVar 11) (mCons (mCall f_law_dot (mCons (mVar 12) (mCons (mVar 10) (mPure [])))) (mPure [])))) (mPure []))))) (sRet (mPure (.bl false))) sNil)))))
theorem rowb_rs {A : Ads} {g : Nat} {rs : List Row} {f : Rat} {E N B : Nat} {told res' : D} (T : Told A g rs f E N B told res') {ls : List D} {vs : List Rat} (htd : told = .tup [.str "some", .tup ls]) (hn : NumR rs E N ls vs) {p : Row × Rat} (hp : p ∈ rs.zip vs) {d : D} (hd : IsR d p.2) {t gr fc bu du am : Option LV} (g2 : 2 ≤ g) (g4 : g ≤ 4) (h1 : 1 ≤ rs.length) :
    RS ns a 20 rowB (lLo ns a t (some (.imm (budD rs))) gr (some (.imm (.tup (rs.map rowD)))) (some (.imm (.int (g : Nat)))) (some (.imm told)) fc (some (.imm d)) bu du (some (.imm (.tup (p.1.1.map mk)))) (some (.imm (.tup (p.1.2.map mk)))) am)
      (fun fl ρ' => fl = .nx ∧ ∃ bu du, ρ' = lLo ns a t (some (.imm (budD rs))) gr (some (.imm (.tup (rs.map rowD)))) (some (.imm (.int (g : Nat)))) (some (.imm told)) fc (some (.imm d)) bu du (some (.imm (.tup (p.1.1.map mk)))) (some (.imm (.tup (p.1.2.map mk)))) am) := by
  have b := T.bnd
  have big := b.big
  have hpr : p.1 ∈ rs := (List.of_mem_zip (show (p.1, p.2) ∈ _ from hp)).1
  have hpv : p.2 ∈ vs := (List.of_mem_zip (show (p.1, p.2) ∈ _ from hp)).2
  have hrb := T.rb p.1 hpr
  have hrp := T.bud.rp p.1 hpr
  have i1 : ixD told (.int 1) = some (.tup ls) := by rw [htd]; rfl
  refine RS.mono (k := 20 + 0) (rs_sq (P := fun ρ => ∃ y, BdlR g 3 9 y ∧ ρ = lLo ns a t (some (.imm (budD rs))) gr (some (.imm (.tup (rs.map rowD)))) (some (.imm (.int (g : Nat)))) (some (.imm told)) fc (some (.imm d)) (some (.imm y)) du (some (.imm (.tup (p.1.1.map mk)))) (some (.imm (.tup (p.1.2.map mk)))) am) ?_ ?_) (by omega) fun _ _ h => h
  · refine RS.mono (k := 0 + (0 + (0 + 0)) + 20) (rs_set (re_callR (k' := 20) (R := BdlR g 3 9) (re_cons (re_var (d := .rng a)) (re_cons (re_var (d := .int (g : Nat))) (re_cons re_cst re_nil))) ?_)) (by omega) ?_
    · rintro ds ⟨d1, e1, rfl, rfl, d2, e2, rfl, rfl, d3, e3, rfl, rfl, rfl⟩
      exact bundle_rf (by omega) g4 (by omega) (by omega)
    · rintro fl ρ' ⟨rfl, y, hy, rfl⟩
      exact ⟨rfl, y, hy, rfl⟩
  rintro ρ ⟨y, hy, rfl⟩
  obtain ⟨qs, rfl, hq⟩ := bunR_of T.small hy
  have q0 : qs ≠ [] := fun z => by have := hq.len; rw [z] at this; simp at this; omega
  have eL := law_least_ev b (paired_row rs) T.rb hn hq q0 h1
  have eW := wish_ev b T.bud T.rb hn hq
  have own : BunR E N g (.tup (p.1.2.map mk)) p.1.2 := ⟨vec_mk _, hrp.ql, hrb.qb, hrp.qp⟩
  have eO := wish_ev b T.bud T.rb hn own
  rw [wmin_own hn.keep hp] at eO
  -- the due
  refine rs_det (ρ' := lLo ns a t (some (.imm (budD rs))) gr (some (.imm (.tup (rs.map rowD)))) (some (.imm (.int (g : Nat)))) (some (.imm told)) fc (some (.imm d)) (some (.imm (.tup (qs.map mk)))) (some (.imm (mk (wmin rs vs qs)))) (some (.imm (.tup (p.1.1.map mk)))) (some (.imm (.tup (p.1.2.map mk)))) am) (fun S => ?_) ?_
  · exact set_of (mCall_of (cons_of (ev_var rfl) (cons_of (mOp2_of (ev_varB rfl) rfl i1) (cons_of (ev_var rfl) rfl))) eL)
  refine rs_det (fun S => sIf_f (mNot_of (b := true) (mTst_of (mCall_of (cons_of (lst_of (cons_of (mCall_of (cons_of (ev_var rfl) (cons_of (mOp2_of (ev_varB rfl) rfl i1) (cons_of (ev_var rfl) rfl))) eW) (cons_of (callK0_of (ds := [.tup (qs.map mk), .tup ls, budD rs]) (cons_of (ev_var rfl) (cons_of (mOp2_of (ev_varB rfl) rfl i1) (cons_of (ev_var rfl) rfl))) eW) rfl)) (by simp)) (cons_of (lst_of (cons_of (ev_var rfl) (cons_of (ev_var rfl) rfl)) (by simp)) rfl)) (same_wish (wmin rs vs qs)))))) ?_
  refine rs_det (fun S => sIf_f (mTst_of (mOp2_of (mCall_of (cons_of (ev_var rfl) (cons_of (mOp2_of (ev_varB rfl) rfl i1) (cons_of (ev_var rfl) rfl))) eO) (ev_varB rfl) (ne_rat hd)))) ?_
  have l4 : p.1.1.length * (N * N) ≤ B := Nat.le_trans (Nat.mul_le_mul_right (N * N) hrb.p4) (by omega)
  have d1 := law_dot_ev b.b1 b.b2 (vec_mk p.1.1) (vec_mk p.1.2) hrb.pb hrb.qb l4 (by omega) ⟨hrb.p0, hrb.q0⟩
  have d2 := law_dot_ev b.b1 b.b2 (vec_mk p.1.1) (vec_mk qs) hrb.pb hq.ind l4 (by omega) ⟨hrb.p0, q0⟩
  have n1 := (rdot_in b.b1.d0 hrb.pb hrb.qb).mono (Nat.mul_le_mul_right (N * N) hrb.p4)
  have n2 := (rdot_in b.b1.d0 hrb.pb hq.ind).mono (Nat.mul_le_mul_right (N * N) hrb.p4)
  have nv := hn.ind p.2 hpv
  have nw : InD (E * E) (5008 * (N * N)) (wmin rs vs qs) := by
    obtain ⟨z, hz, e⟩ := wmin_mem (qs := qs) hp
    rw [e]
    exact wish_in b (T.rb _ (List.of_mem_zip (show (z.1, z.2) ∈ _ from hz)).1) hq.ind (hn.ind _ (List.of_mem_zip (show (z.1, z.2) ∈ _ from hz)).2)
  have m1 := law_minus_ev hd (isR_mk (rdot p.1.1 p.1.2)) (b.b2.sm nv (by omega)) (b.b2.sm n1 (by omega))
  have m2 := law_minus_ev (isR_mk (wmin rs vs qs)) (isR_mk (rdot p.1.1 qs)) (b.b2.sm nw (by omega)) (b.b2.sm n2 (by omega))
  have lt := law_less_ev (isR_mk (p.2 - rdot p.1.1 p.1.2)) (isR_mk (wmin rs vs qs - rdot p.1.1 qs)) (b.b2.sm (nv.sub b.b2.d0 n1) (by omega)) (b.b2.sm (nw.sub b.b2.d0 n2) (by omega))
  rw [decide_eq_false (wmin_money (qs := qs) hp)] at lt
  refine rs_pure (fun S => sIf_f (mTst_of (mCall_of (cons_of (mCall_of (cons_of (ev_var rfl) (cons_of (mCall_of (cons_of (ev_var rfl) (cons_of (ev_var rfl) rfl)) d1) rfl)) m1) (cons_of (mCall_of (cons_of (ev_var rfl) (cons_of (mCall_of (cons_of (ev_var rfl) (cons_of (ev_var rfl) rfl)) d2) rfl)) m2) rfl)) lt))) ⟨rfl, _, _, rfl⟩
end K25
namespace K25
open PySem PyProof.Rows L2 Dv

variable {ns : List Int} {a : Addr}
theorem num_sm {dn nn : Nat} {q : Rat} (h : Num dn nn q) (h1 : dn ≤ 1000000) (h2 : nn ≤ 1000000) : Sm q := by
  have := h.den
  have := h.num
  have e : (1000000 : Nat).log2 = 19 := by decide +kernel
  exact ⟨by
    have := log2_mono (a := q.den) (b := 1000000) (by omega)
    omega, by
    have := log2_mono (a := q.num.natAbs) (b := 1000000) (by omega)
    omega⟩
theorem lc_of {mi : MA} {vs : List Nat} {g : MG} {t : MT} {m : ME} {ρ : Lo} {S S1 S2 : Sg} {ds ys : List D} (hi : mi ρ S = some (ds, S1)) (h : lcGo (wipeL ρ vs) g t m ds S1 = some (ys, S2)) : mLc mi vs g t m ρ S = some (.lst ys, S2) := by
  unfold mLc; rw [hi]; simp only [Option.bind_some]; rw [h]; rfl
theorem mOp1_of {f : D → Option D} {m : ME} {ρ : Lo} {S S1 : Sg} {d e : D} (h : m ρ S = some (d, S1)) (hf : f d = some e) : mOp1 f m ρ S = some (e, S1) := by
  unfold mOp1; rw [h]; simp only [Option.bind_some]; rw [hf]; rfl
noncomputable def greatM : ME := mTup (mCons (mPure (.str "budgets")) (mCons (mCall tupleD (mCons (mLc (mSeq (mVar 5)) [12, 13] (gTp 2 (gCns (gNm 12) (gCns (gNm 13) gNl))) (mPure true) (mTup (mCons (mVar 12) (mCons (mCall tupleD (mCons (mLc (mSeq (mVar 13)) [14] (gNm 14) (mPure true) (mCall f_law_times (mCons (mVar 8) (mCons (mVar 14) (mPure []))))) (mPure []))) (mPure []))))) (mPure []))) (mPure [])))
theorem great_ev {g : Nat} {rs : List Row} {f : Rat} (hf : Num 9 9 f) (h : ∀ r ∈ rs, RowN g r) {t b gr gd td nu bu du pr ow am : Option LV} (S : Sg) : greatM (lLo ns a t b gr (some (.imm (.tup (rs.map rowD)))) gd td (some (.imm (mk f))) nu bu du pr ow am) S = some (budD (rs.map (sc f)), S) := by
  have e1 := lc_rel (g := gTp 2 (gCns (gNm 12) (gCns (gNm 13) gNl))) (t := mPure true) (m := mTup (mCons (mVar 12) (mCons (mCall tupleD (mCons (mLc (mSeq (mVar 13)) [14] (gNm 14) (mPure true) (mCall f_law_times (mCons (mVar 8) (mCons (mVar 14) (mPure []))))) (mPure []))) (mPure [])))) (S := S)
    (ρ := lLo ns a t b gr (some (.imm (.tup (rs.map rowD)))) gd td (some (.imm (mk f))) nu bu du none none am) (fun r : Row => rowD (sc f r)) (paired_mapL (R := fun d r => d = rowD r) (e := rowD) (fun _ => rfl) rs) fun d r hd hm => by
      subst hd
      have e2 := lc_rel (g := gNm 14) (t := mPure true) (m := mCall f_law_times (mCons (mVar 8) (mCons (mVar 14) (mPure [])))) (S := S)
        (ρ := lLo ns a t b gr (some (.imm (.tup (rs.map rowD)))) gd td (some (.imm (mk f))) nu bu du (some (.imm (.tup (r.1.map mk)))) (some (.imm (.tup (r.2.map mk)))) none) (fun q : Rat => mk (f * q)) (paired_mapL (R := fun d q => d = mk q) (e := mk) (fun _ => rfl) r.2) fun d q hd hq => by
          subst hd
          exact ⟨_, rfl, rfl, mCall_of (cons_of (ev_var rfl) (cons_of (ev_var rfl) rfl)) (law_times_ev (isR_mk f) (isR_mk q) (num_sm hf (by omega) (by omega)) (num_sm ((h r hm).qn q hq) (by omega) (by omega)))⟩
      have e3 : (r.2.map fun q => mk (f * q)) = (r.2.map (f * ·)).map mk := by rw [List.map_map]; rfl
      rw [e3] at e2
      have e4 : mLc (mSeq (mVar 13)) [14] (gNm 14) (mPure true) (mCall f_law_times (mCons (mVar 8) (mCons (mVar 14) (mPure [])))) (lLo ns a t b gr (some (.imm (.tup (rs.map rowD)))) gd td (some (.imm (mk f))) nu bu du (some (.imm (.tup (r.1.map mk)))) (some (.imm (.tup (r.2.map mk)))) am) S = some (.lst ((r.2.map (f * ·)).map mk), S) := by
        exact lc_of (mSeq_of (d := .tup (r.2.map mk)) (ds := r.2.map mk) (ev_var rfl) rfl) e2
      exact ⟨_, rfl, rfl, tup_of (cons_of (ev_var rfl) (cons_of (mCall_of (cons_of e4 rfl) rfl) rfl)) (by simp)⟩
  have e5 : (rs.map fun r => rowD (sc f r)) = (rs.map (sc f)).map rowD := by rw [List.map_map]; rfl
  rw [e5] at e1
  have e6 : mLc (mSeq (mVar 5)) [12, 13] (gTp 2 (gCns (gNm 12) (gCns (gNm 13) gNl))) (mPure true) (mTup (mCons (mVar 12) (mCons (mCall tupleD (mCons (mLc (mSeq (mVar 13)) [14] (gNm 14) (mPure true) (mCall f_law_times (mCons (mVar 8) (mCons (mVar 14) (mPure []))))) (mPure []))) (mPure [])))) (lLo ns a t b gr (some (.imm (.tup (rs.map rowD)))) gd td (some (.imm (mk f))) nu bu du pr ow am) S = some (.lst ((rs.map (sc f)).map rowD), S) := by
    exact lc_of (mSeq_of (d := .tup (rs.map rowD)) (ds := rs.map rowD) (ev_var rfl) rfl) e1
  exact tup_of (cons_of rfl (cons_of (mCall_of (cons_of e6 rfl) rfl) rfl)) (by simp)
theorem ne_str_self {x : Str} (h : SeqAt.shaped (.str x) = true) : neD (.str x) (.str x) = some (.bl false) := by rw [str_ne h h]; simp
theorem ne_ring_some : neD (.str "ring") (.str "some") = some (.bl true) := by
  rw [ne_of_eq eq_ring_some]; rfl
/-- a turn, its budgets drawn -/
noncomputable def rest4 (A : Ads) : MS := (sSq (sIf (mOr (mNot (mTst (mOp1 (isiD "tuple") (mVarB 7)))) (mOr (mTst (mOp2 neD (mCall lenD (mCons (mVarB 7) (mPure []))) (mPure (.int 2)))) (mOr (mNot (mTst (mCall f_law_same (mCons (mCallK0 (f_straight_paper A) [0] (mCons (mVar 3) (mPure []))) (mCons (mVar 7) (mPure [])))))) (mTst (mOp2 isnotD (mCall f_is_straight_paper (mCons (mVar 3) (mCons (mVar 7) (mPure [])))) (mPure (.bl true))))))) (sRet (mPure (.bl false))) sNil)
  (sSq (sSet 4 greatM)
  (sSq (sIf (mTst (mOp2 neD (mOp2 ixD (mCall (f_straight_paper A) (mCons (mVar 4) (mPure []))) (mPure (.int 0))) (mOp2 ixD (mVarB 7) (mPure (.int 0))))) (sRet (mPure (.bl false))) sNil)
  (sSq (sIf (mTst (mOp2 neD (mOp2 ixD (mVarB 7) (mPure (.int 0))) (mPure (.str "some")))) (sSq (sIf (mOr (mTst (mOp2 neD (mOp2 ixD (mVarB 7) (mPure (.int 0))) (mPure (.str "ring")))) (mNot (mTst (mCall f_law_is_loop (mCons (mVar 5) (mCons (mOp2 ixD (mVarB 7) (mPure (.int 1))) (mPure []))))))) (sRet (mPure (.bl false))) sNil)
  sCt) sNil)
  (sSq (sIf (mOr (mNot (mTst (mCall f_law_keeps (mCons (mVar 5) (mCons (mOp2 ixD (mVarB 7) (mPure (.int 1))) (mPure [])))))) (mTst (mCall f_law_bu_has_ring (mCons (mVar 5) (mPure []))))) (sRet (mPure (.bl false))) sNil)
  (sFor (mZip2 (mCons (mVar 5) (mCons (mOp2 ixD (mVarB 7) (mPure (.int 1))) (mPure [])))) (gTp 2 (gCns (gTp 2 (gCns (gNm 12) (gCns (gNm 13) gNl))) (gCns (gNm 9) gNl))) rowB))))))
def LP (ns : List Int) (a : Addr) (ρ : Lo) : Prop := ∃ t b gr rw gd td fc nu bu du pr ow am, ρ = lLo ns a t b gr rw gd td fc nu bu du pr ow am
theorem rest4_rs {A : Ads} {g : Nat} {rs : List Row} {f : Rat} (hf : 0 < f) (hfn : Num 9 9 f) (h1 : 1 ≤ rs.length) (h8 : rs.length ≤ 8) (g2 : 2 ≤ g) (g4 : g ≤ 4) (h : ∀ r ∈ rs, RowN g r) {told : D} (het : f_straight_paper A [budD rs] = some told) {t gr nu bu du pr ow am : Option LV} :
    RS ns a 160 (rest4 A) (lLo ns a t (some (.imm (budD rs))) gr (some (.imm (.tup (rs.map rowD)))) (some (.imm (.int (g : Nat)))) (some (.imm told)) (some (.imm (mk f))) nu bu du pr ow am) (fun fl ρ' => (fl = .nx ∨ fl = .ct) ∧ LP ns a ρ') := by
  obtain ⟨E, N, B, told', res', T⟩ := told_ev (A := A) hf hfn h1 h8 g2 g4 h
  have ett : told' = told := Option.some.inj (T.ev.symm.trans het)
  subst ett
  have b := T.bnd
  obtain ⟨k, y, y', e1, e2, hk⟩ : ∃ k y y', told' = .tup [.str k, y] ∧ res' = .tup [.str k, y'] ∧ SeqAt.shaped (.str k) = true := by
    rcases T.kind with ⟨ls, lev, e, _, y, e'⟩ | ⟨ring, e, _, y, e'⟩
    · exact ⟨_, _, _, e, e', sh_some⟩
    · exact ⟨_, _, _, e, e', sh_ring⟩
  have i0 : ixD told' (.int 0) = some (.str k) := by rw [e1]; rfl
  have i0' : ixD res' (.int 0) = some (.str k) := by rw [e2]; rfl
  have is7 : isiD "tuple" told' = some (.bl true) := by rw [e1]; rfl
  have len7 : lenD [told'] = some (.int 2) := by rw [e1]; rfl
  have ne22 : neD (.int 2) (.int 2) = some (.bl false) := by rw [neD_int]; simp
  refine rs_det (fun S => sIf_f (mOr_f (mNot_of (b := true) (mTst_of (mOp1_of (ev_varB rfl) is7))) (mOr_f (mTst_of (mOp2_of (mCall_of (cons_of (ev_varB rfl) rfl) len7) rfl ne22)) (mOr_f (mNot_of (b := true) (mTst_of (mCall_of (cons_of (callK0_of (ds := [budD rs]) (cons_of (ev_var rfl) rfl) T.ev) (cons_of (ev_var rfl) rfl)) T.same))) (mTst_of (b := false) (mOp2_of (mCall_of (cons_of (ev_var rfl) (cons_of (ev_var rfl) rfl)) T.is) rfl rfl)))))) ?_
  refine rs_det (fun S => set_of (great_ev hfn h S)) ?_
  refine rs_det (fun S => sIf_f (mTst_of (mOp2_of (mOp2_of (mCall_of (cons_of (ev_var rfl) rfl) T.great) rfl i0') (mOp2_of (ev_varB rfl) rfl i0) (ne_str_self hk)))) ?_
  rcases T.kind with ⟨ls, lev, e, K, y, e'⟩ | ⟨ring, e, R, y, e'⟩
  · have hks : k = "some" := by rw [e] at e1; cases e1; rfl
    subst hks
    have hn := keepL_of K
    have i1 : ixD told' (.int 1) = some (.tup ls) := by rw [e]; rfl
    have hring := has_ring_ev b (paired_row rs) T.rb h8 K.keep
    have hkeep := law_keeps_ev b (paired_row rs) T.rb hn
    refine rs_det (fun S => sIf_f (mTst_of (mOp2_of (mOp2_of (ev_varB rfl) rfl i0) rfl (ne_str_self sh_some)))) ?_
    refine rs_det (fun S => sIf_f (mOr_f (mNot_of (b := true) (mTst_of (mCall_of (cons_of (ev_var rfl) (cons_of (mOp2_of (ev_varB rfl) rfl i1) rfl)) hkeep))) (mTst_of (mCall_of (cons_of (ev_var rfl) rfl) hring)))) ?_
    have hz : ∀ {gr nu bu du pr ow am : Option LV} (S : Sg), mZip2 (mCons (mVar 5) (mCons (mOp2 ixD (mVarB 7) (mPure (.int 1))) (mPure []))) (lLo ns a t (some (.imm (budD rs))) gr (some (.imm (.tup (rs.map rowD)))) (some (.imm (.int (g : Nat)))) (some (.imm told')) (some (.imm (mk f))) nu bu du pr ow am) S = some (List.zipWith (fun a b => D.tup [a, b]) (rs.map rowD) ls, S) := fun S => by
      unfold mZip2
      rw [cons_of (ev_var rfl) (cons_of (mOp2_of (ev_varB rfl) rfl i1) rfl)]
      rfl
    have hpz := paired_zip (paired_mapL (R := fun d r => d = rowD r) (e := rowD) (fun _ => rfl) rs) hn.rl
    have hzl : (List.zipWith (fun a b => D.tup [a, b]) (rs.map rowD) ls).length ≤ 8 := by
      rw [List.length_zipWith, List.length_map]; omega
    refine RS.mono (k := 0 + 8 * 20) (rs_for (k := 0) (k' := 20) (L := 8) (Pd := fun ds => ds = List.zipWith (fun a b => D.tup [a, b]) (rs.map rowD) ls) (fun i ρ => ∃ nu bu du pr ow, ρ = lLo ns a t (some (.imm (budD rs))) (some (.imm (budD (rs.map (sc f))))) (some (.imm (.tup (rs.map rowD)))) (some (.imm (.int (g : Nat)))) (some (.imm told')) (some (.imm (mk f))) nu bu du pr ow am) (re_pure (fun S => hz S) ⟨hzl, rfl⟩) ⟨_, _, _, _, _, rfl⟩ ?_) (by omega) ?_
    · rintro ds rfl i d ρ' hd ⟨nu, bu, du, pr, ow, rfl⟩
      obtain ⟨p, hp, x0, w0, rfl, rfl, hdv⟩ := paired_get'' hpz hd
      refine ⟨_, rfl, RS.mono (k := 20) (rowb_rs T e hn (List.mem_of_getElem? hp) hdv g2 g4 h1) (Nat.le_refl _) ?_⟩
      rintro fl ρ2 ⟨rfl, bu, du, rfl⟩
      exact ⟨.inl rfl, _, _, _, _, _, rfl⟩
    · rintro fl ρ' ⟨rfl, ds, _, _, nu, bu, du, pr, ow, rfl⟩
      exact ⟨.inl rfl, _, _, _, _, _, _, _, _, _, _, _, _, _, rfl⟩
  · have hks : k = "ring" := by rw [e] at e1; cases e1; rfl
    subst hks
    have i1 : ixD told' (.int 1) = some (.tup (ringD ring)) := by rw [e]; rfl
    have hloop := law_loop_ev b (paired_row rs) T.rb h8 R
    refine RS.mono (k := 0) (rs_pure (fl := .ct) (ρ' := lLo ns a t (some (.imm (budD rs))) (some (.imm (budD (rs.map (sc f))))) (some (.imm (.tup (rs.map rowD)))) (some (.imm (.int (g : Nat)))) (some (.imm told')) (some (.imm (mk f))) nu bu du pr ow am) (P := fun fl ρ' => (fl = .nx ∨ fl = .ct) ∧ LP ns a ρ') (fun S => ?_) ⟨.inr rfl, _, _, _, _, _, _, _, _, _, _, _, _, _, rfl⟩) (by omega) fun _ _ h => h
    refine sSq_no (fl := .ct) ?_ (fun z => nomatch z)
    refine (sIf_of (b := true) (mTst_of (mOp2_of (mOp2_of (ev_varB rfl) rfl i0) rfl ne_ring_some))).trans ?_
    exact (sSq_nx (sIf_f (mOr_f (mTst_of (mOp2_of (mOp2_of (ev_varB rfl) rfl i0) rfl ne_ring_ring)) (mNot_of (b := true) (mTst_of (mCall_of (cons_of (ev_var rfl) (cons_of (mOp2_of (ev_varB rfl) rfl i1) rfl)) hloop)))))).trans rfl
end K25
namespace K25
open PySem PyProof.Rows L2 Dv

variable {ns : List Int} {a : Addr}
/-- a turn of the law -/
noncomputable def turnB (A : Ads) : MS := (sSq (sSet 3 (mCallR f_law_straight_rows (mCons (mVar 1) (mCons (mOp2 ixD (mCallR f_law_bu_drawn (mCons (mVar 1) (mCons (mPure (.int 8)) (mPure [])))) (mPure (.int 1))) (mPure [])))))
  (sSq (sPar2 5 6 false (mOp2 ixD (mVarB 3) (mPure (.int 1))) false (mCall lenD (mCons (mOp2 ixD (mOp2 ixD (mOp2 ixD (mVarB 3) (mPure (.int 1))) (mPure (.int 0))) (mPure (.int 0))) (mPure []))))
  (sSq (sPar2 7 8 false (mCall (f_straight_paper A) (mCons (mVar 3) (mPure []))) false (mCall f_law_q (mCons (mOp2 addD (mPure (.int 1)) (mCallR f_law_draw (mCons (mVar 1) (mCons (mPure (.int 9)) (mPure []))))) (mCons (mOp2 addD (mPure (.int 1)) (mCallR f_law_draw (mCons (mVar 1) (mCons (mPure (.int 9)) (mPure []))))) (mPure [])))))
  (rest4 A))))
theorem law_eq (A : Ads) : m_law A = (sSq (sFor (mRg1 (mCons (mOp2 addD (mPure (.int 4)) (mCall minD (mCons (mCall lenD (mCons (mVarB 0) (mPure []))) (mCons (mPure (.int 6)) (mPure []))))) (mPure []))) (gNm 2) (turnB A)) (sRet (mPure (.bl true)))) := rfl
theorem turnb_rs {A : Ads} {t b gr rw gd td fc nu bu du pr ow am : Option LV} : RS ns a 700 (turnB A) (lLo ns a t b gr rw gd td fc nu bu du pr ow am) (fun fl ρ' => (fl = .nx ∨ fl = .ct) ∧ LP ns a ρ') := by
  refine RS.mono (k := 502 + 162) (rs_sq (P := fun ρ => ∃ g rs, 2 ≤ g ∧ g ≤ 4 ∧ 1 ≤ rs.length ∧ rs.length ≤ 8 ∧ (∀ r ∈ rs, RowN g r) ∧ ρ = lLo ns a t (some (.imm (budD rs))) gr rw gd td fc nu bu du pr ow am) ?_ ?_) (by omega) fun _ _ h => h
  · refine RS.mono (k := 0 + ((0 + (0 + 0) + 501 + 0) + 0) + 1) (rs_set (re_callR (k' := 1) (R := fun x => ∃ g, 2 ≤ g ∧ g ≤ 4 ∧ StR g x) (re_cons (re_var (d := .rng a)) (re_cons (re_op2 (R := fun x => ∃ g fds, 2 ≤ g ∧ g ≤ 4 ∧ x = .tup fds ∧ (∀ d ∈ fds, FR g d) ∧ 1 ≤ fds.length ∧ fds.length ≤ 8) (re_callR (k' := 501) (R := fun x => ∃ g, 2 ≤ g ∧ g ≤ 4 ∧ BgR g x) (re_cons (re_var (d := .rng a)) (re_cons re_cst re_nil)) ?_) re_cst ?_) re_nil)) ?_)) (by omega) ?_
    · rintro ds ⟨d1, e1, rfl, rfl, d2, e2, rfl, rfl, rfl⟩
      exact drawn_rf (by omega) (by omega)
    · rintro x y ⟨g, g2, g4, fds, rfl, hf, h1, h8⟩ rfl
      exact ⟨.tup fds, rfl, g, fds, g2, g4, rfl, hf, h1, h8⟩
    · rintro ds ⟨d1, e1, rfl, rfl, d2, e2, rfl, ⟨g, fds, g2, g4, rfl, hf, h1, h8⟩, rfl⟩
      exact (straight_rows_rf (by omega) hf h1 h8).mono (Nat.le_refl _) fun x h => ⟨g, g2, g4, h⟩
    · rintro fl ρ' ⟨rfl, x, ⟨g, g2, g4, h⟩, rfl⟩
      obtain ⟨rs, rfl, h1, h8, hr⟩ := bud_of h
      exact ⟨rfl, g, rs, g2, g4, h1, h8, hr, rfl⟩
  rintro ρ ⟨g, rs, g2, g4, h1, h8, hr, rfl⟩
  have i1 : ixD (budD rs) (.int 1) = some (.tup (rs.map rowD)) := rfl
  obtain ⟨x, hx1, hx2⟩ : ∃ x : List D, (ixD (.tup (rs.map rowD)) (.int 0)).bind (fun d => ixD d (.int 0)) = some (.tup x) ∧ x.length = g := by
    cases rs with
    | nil => simp at h1
    | cons r rs =>
      refine ⟨r.1.map mk, ?_, by rw [List.length_map]; exact (hr r List.mem_cons_self).rp.pl⟩
      have e : ixD (.tup (rowD r :: rs.map rowD)) (.int 0) = some (rowD r) := ix_nat (n := 0) rfl rfl
      rw [List.map_cons, e]
      rfl
  obtain ⟨d0, e0, e00⟩ := Option.bind_eq_some_iff.mp hx1
  refine rs_det (ρ' := lLo ns a t (some (.imm (budD rs))) gr (some (.imm (.tup (rs.map rowD)))) (some (.imm (.int (g : Nat)))) td fc nu bu du pr ow am) (fun S => ?_) ?_
  · have eg : lenD [.tup x] = some (.int (g : Nat)) := by rw [len_items (d := .tup x) rfl, hx2]
    exact sPar2_of (mOp2_of (ev_varB rfl) rfl i1) (mCall_of (cons_of (mOp2_of (mOp2_of (mOp2_of (ev_varB rfl) rfl i1) rfl e0) rfl e00) rfl) eg)
  obtain ⟨E, N, B, told, res', T⟩ := told_ev (A := A) (f := 1) (by decide) ⟨by decide, by decide⟩ h1 h8 g2 g4 hr
  refine RS.mono (k := 2 + 160) (rs_sq (P := fun ρ => ∃ f, 0 < f ∧ Num 9 9 f ∧ ρ = lLo ns a t (some (.imm (budD rs))) gr (some (.imm (.tup (rs.map rowD)))) (some (.imm (.int (g : Nat)))) (some (.imm told)) (some (.imm (mk f))) nu bu du pr ow am) ?_ ?_) (by omega) fun _ _ h => h
  · refine RS.mono (k := 0 + (1 + (1 + 0))) (rs_par2 (P := fun d => d = told) (Q := PosD 9 9) (re_pure (fun S => mCall_of (cons_of (ev_var rfl) rfl) T.ev) rfl) (re_call (re_cons (re_one_plus rfl (by omega) (by omega)) (re_cons (re_one_plus rfl (by omega) (by omega)) re_nil)) ?_)) (by omega) ?_
    · rintro ds ⟨d1, e1, rfl, ⟨v, rfl, v0, v1⟩, d2, e2, rfl, ⟨w, rfl, w0, w1⟩, rfl⟩
      exact q_pos (by omega) (by omega) (by omega) (by omega) (by omega)
    · rintro fl ρ' ⟨rfl, d, e, rfl, ⟨f, rfl, hf, hn⟩, rfl⟩
      exact ⟨rfl, f, hf, hn, rfl⟩
  rintro ρ ⟨f, hf, hn, rfl⟩
  exact rest4_rs hf hn h1 h8 g2 g4 hr T.ev
theorem law_rs {A : Ads} (hl : ns.length ≤ 1000) : RS ns a 7000 (m_law A) ((startL 15 [.scr ns]).set 1 (some (.imm (.rng a)))) (fun fl _ => fl = .rt (.bl true)) := by
  rw [law_eq]
  refine RS.mono (k := 7000 + 0) (rs_sq (P := fun ρ => True) ?_ ?_) (by omega) fun _ _ h => h
  · refine RS.mono (k := 0 + 10 * 700) (rs_for (k := 0) (k' := 700) (L := 10) (Pd := fun _ => True) (fun i ρ => LP ns a ρ) (re_pure (d := rangeL 0 (((4 + min ns.length 6 : Nat)) : Int)) (fun S => ?_) ⟨by rw [range_len]; omega, trivial⟩) ⟨_, _, _, _, _, _, _, _, _, _, _, _, _, rfl⟩ ?_) (by omega) ?_
    · refine rg1_nat ?_ (by omega)
      have e1 : mCall lenD (mCons (mVarB 0) (mPure [])) ((startL 15 [.scr ns]).set 1 (some (.imm (.rng a)))) S = some (.int (ns.length : Nat), S) := by
        refine mCall_of (cons_of (ev_varB rfl) rfl) ?_
        rfl
      have e2 : minD [.int (ns.length : Nat), .int 6] = some (.int ((min ns.length 6 : Nat) : Int)) := by
        unfold minD
        simp only
        congr 2
        split <;> omega
      refine cons_of (mOp2_of (d := .int ((4 + min ns.length 6 : Nat) : Int)) rfl (mCall_of (cons_of e1 (cons_of rfl rfl)) e2) ?_) rfl
      rw [addD_int]
      congr 2
    · rintro ds - i d ρ' hd ⟨t, b, gr, rw, gd, td, fc, nu, bu, du, pr, ow, am, rfl⟩
      exact ⟨_, rfl, turnb_rs⟩
    · rintro fl ρ' ⟨rfl, _⟩
      exact ⟨rfl, trivial⟩
  · rintro ρ -
    exact rs_pure (fun S => rfl) rfl
/-- the law answers True -/
theorem law_true {A : Ads} (hl : ns.length ≤ 1000) {r : Rng} (h1 : r.great = bigOf ns) (h2 : r.cells = absOf ns) (h3 : r.rest = 0) (h4 : r.turn = 0) : ∃ ρ' S', m_law A ((startL 15 [.scr ns]).set 1 (some (.imm (.rng r.at_)))) (some r) = some (.rt (.bl true), ρ', S') := by
  have ok : RgOk ns 0 r := by
    refine ⟨h2, hl, by omega, by omega, by omega, by omega, ?_, fun z hz => ?_⟩
    · rw [h1]; unfold bigOf; rw [List.length_map]; exact Nat.le_trans (List.length_filter_le _ _) hl
    · rw [h1] at hz
      obtain ⟨y, hy, rfl⟩ := List.mem_map.mp hz
      have := of_decide_eq_true (List.mem_filter.mp hy).2
      omega
  obtain ⟨fl, ρ', r', e, rfl, _, _⟩ := law_rs (A := A) (a := r.at_) hl 0 r ok rfl (by omega)
  exact ⟨ρ', some r', e⟩
end K25
namespace K25
open PySem PySem.Spec PyProof.Rows L2 Dv
open C8 (Cal pe_c)
def topS (i : Nat) : Stmt := PySem.Challenge.pw_choiceshown_k25_whole_wishes_straight_in.main.body.getD i (.Pass ⟨0, 0, 0, 0⟩)
structure Tx (K : PySem.W.Frag) (mg : Str → Option Value) (A : Ads) : Prop where
  a_plus : mg "plus" = some (.ref A.plus)
  g_LEAST_GOODS : ∃ u, mg "LEAST_GOODS" = some u ∧ RelV (V.int 2) u
  g_MOST : ∃ u, mg "MOST" = some u ∧ RelV (V.int 200) u
  g_MOST_BUDGETS : ∃ u, mg "MOST_BUDGETS" = some u ∧ RelV (V.int 8) u
  g_MOST_GOODS : ∃ u, mg "MOST_GOODS" = some u ∧ RelV (V.int 4) u
  k_ZERO : ∃ a, mg "ZERO" = some (.ref a) ∧ SqT K (fun _ => none) a [(V.int 0), (V.int 1)]
  n_abs : mg "abs" = none
  n_all : mg "all" = none
  n_any : mg "any" = none
  n_bool : mg "bool" = none
  n_dict : mg "dict" = none
  n_enumerate : mg "enumerate" = none
  b_gcd : mg "gcd" = some (.builtin "math.gcd")
  n_int : mg "int" = none
  n_isinstance : mg "isinstance" = none
  n_len : mg "len" = none
  n_list : mg "list" = none
  n_min : mg "min" = none
  n_range : mg "range" = none
  n_set : mg "set" = none
  n_sorted : mg "sorted" = none
  n_str : mg "str" = none
  n_sum : mg "sum" = none
  n_tuple : mg "tuple" = none
  n_zip : mg "zip" = none
structure Cat (P : Program) (w : World) (K : PySem.W.Frag) (mg : Str → Option Value) (base : Heap) (k : Nat) (f : Addr) (fd : FuncData) (ps : List Str) (sp : Sp) : Prop where
  F : FnOk P w K mg base CX0 k f fd ps sp
  kp : (PySem.W.keepIn K (.ref f) = true)
  b : Binds K fd ps []
section
variable {P : Program} {w : World} {K : PySem.W.Frag} {mg : Str → Option Value} {base : Heap} {A : Ads}
abbrev s_law_begun : Stmt := topS 50
theorem sc_law_begun : FnScope ["script", "great", "cell"] ["script"] (defScope s_law_begun) := ⟨rfl, rfl, rfl, by decide +kernel, rfl, by decide +kernel, by decide +kernel⟩
theorem ok_law_begun (T : Tx K mg A) {f : Addr} {fd : FuncData} (F : Fun K "_law_begun" "_law_begun" s_law_begun f fd) : FnOk P w K mg base CX0 1 f fd ["script"] (spBegun K) :=
  begun_ok F sc_law_begun fun H0 F0 R cdv B outer s H E hr => pss_cons (ss_setLcF (i := 1) (own := [("cell", 2)]) rfl sc_law_begun.nd (si_scr' rfl (se_var 0)) (blkOk_by (N := ["script", "great", "cell"]) (sc := defScope s_law_begun) (by decide +kernel)) (fun _ _ _ _ _ => (sg_name 2 sc_law_begun.nd)) (fun _ _ _ _ _ => (sts_one (st_ge (eb_of (se_cb (c_abs) (pe_callB call_abs (by rfl) T.n_abs (by decide +kernel) (sb_cons (se_varB 2) sb_nil)))) (eb_of (se_pow (eb_of se_int) (eb_of se_int)))))) (fun _ _ _ _ _ => (se_sub (eb_of (se_cb (c_abs) (pe_callB call_abs (by rfl) T.n_abs (by decide +kernel) (sb_cons (se_varB 2) sb_nil)))) (eb_of (se_pow (eb_of se_int) (eb_of se_int))))) (by decide)) (pss_one (
  ps_ret (pe_disp (pps_cons pe_str (pv 1) (pps_cons pe_str (sf_lc (own := [("cell", 2)]) rfl sc_law_begun.nd (si_scr' rfl (se_var 0)) (blkOk_by (N := ["script", "great", "cell"]) (sc := defScope s_law_begun) (by decide +kernel)) (fun _ _ _ _ _ => (sg_name 2 sc_law_begun.nd)) (fun _ _ _ _ _ => sts_nil) (fun _ _ _ _ _ => (se_cb (c_abs) (pe_callB call_abs (by rfl) T.n_abs (by decide +kernel) (sb_cons (se_varB 2) sb_nil)))) (by decide)) (pps_cons pe_str pe_int (pps_cons pe_str pe_int pps_nil)))) rfl rfl (by simp) (by decide))))
abbrev s_law_blended : Stmt := topS 51
theorem sc_law_blended : FnScope ["state", "prime", "turn", "found", "blend", "cell"] ["state"] (defScope s_law_blended) := ⟨rfl, rfl, rfl, by decide +kernel, rfl, by decide +kernel, by decide +kernel⟩
theorem ok_law_blended (T : Tx K mg A) {f : Addr} {fd : FuncData} (F : Fun K "_law_blended" "_law_blended" s_law_blended f fd) : FnOk P w K mg base CX0 1 f fd ["state"] (spR K f_law_blended) :=
  fn_rng F sc_law_blended fun H0 F0 R cdv B outer s H E hr =>
  (ss_cons (ss_par2 (k1 := false) (k2 := false) (ps_par (i := 2) (j := 3) rfl sc_law_blended.nd rfl rfl (by decide) rfl rfl (pa_cons (se_add rfl (eb_of (se_stI (key := "turn") (g := Rng.turn) (fun _ => rfl) (pe_dget (hu_of hr) (pv 0) pe_str (fun _ _ => rfl)))) (eb_of se_int)) (pa_cons se_int pa_nil)) (by rfl)))
    (ss_cons (ss_stturn (ps_dput (hu_of hr) (pv 0) pe_str (se_var 2) (by rfl)))
    (ss_cons (ss_for (ps_for PassesOwn.never rfl (si_seq rfl (ee_of (sf_lst (sa_cons se_int (sa_cons se_int (sa_cons se_int sa_nil)))))) (sg_name 1 sc_law_blended.nd) (ss_cons (ss_set (ps_set (i := 4) sc_law_blended.nd rfl (.inl rfl) (se_add rfl (eb_of (se_mulI (eb_of se_int) (se_varB 2))) (eb_of (se_fdiv (se_varB 1) (eb_of se_int))))))
    (ss_cons (ss_for (ps_for PassesOwn.never rfl (si_seq rfl (se_stC (pe_dget (hu_of hr) (pv 0) pe_str (fun _ _ => rfl)))) (sg_name 5 sc_law_blended.nd) (ss_one (ss_set (ps_set (i := 4) sc_law_blended.nd rfl (.inl rfl) (se_mod (eb_of (se_cb (c_int) (pe_callTy call_int1 (by rfl) T.n_int (by decide +kernel) (sb_cons (eb_of (se_add rfl (eb_of (se_add rfl (eb_of (se_mulI (se_varB 4) (eb_of se_int))) (se_varB 5))) (se_varB 2))) sb_nil)))) (se_varB 1)))))))
    (ss_one (ss_set (ps_set (i := 3) sc_law_blended.nd rfl (.inl rfl) (se_add rfl (eb_of (se_mulI (se_varB 3) (eb_of se_int))) (eb_of (se_mod (eb_of (se_cb (c_int) (pe_callTy call_int1 (by rfl) T.n_int (by decide +kernel) (sb_cons (eb_of (se_pow (se_varB 4) (eb_of se_int))) sb_nil)))) (se_varB 1)))))))))))
    (ss_one (ss_ret (se_var 3))))))
abbrev s_law_draw : Stmt := topS 52
theorem sc_law_draw : FnScope ["state", "room", "found"] ["state", "room"] (defScope s_law_draw) := ⟨rfl, rfl, rfl, by decide +kernel, rfl, by decide +kernel, by decide +kernel⟩
theorem ok_law_draw (T : Tx K mg A) (c_law_blended : Cal P w K mg base 1 "_law_blended" (spR K f_law_blended) []) {f : Addr} {fd : FuncData} (F : Fun K "_law_draw" "_law_draw" s_law_draw f fd) : FnOk P w K mg base CX0 2 f fd ["state", "room"] (spR K f_law_draw) :=
  fn_rng F sc_law_draw fun H0 F0 R cdv B outer s H E hr =>
  (ss_cons (ss_if (st_eq rfl (u64 hr) (eb_of (se_stI (key := "rest") (g := Rng.rest) (fun _ => rfl) (pe_dget (hu_of hr) (pv 0) pe_str (fun _ _ => rfl)))) (eb_of se_int)) (ss_one (ss_strest (ps_dput (hu_of hr) (pv 0) pe_str (se_ite (st_stG (pt_cmpR (op_neD (u64 hr)) (pe_dget (hu_of hr) (pv 0) pe_str (fun _ _ => rfl)) (pe_lst pa_nil) (nomark _))) (se_stP (pe_bm PySem.F.plainAttrs_list PySem.F.slot_list_pop PySem.F.type_list_pop mt_popAt (pe_dget (hu_of hr) (pv 0) pe_str (fun _ _ => rfl)) (pa_cons pe_int pa_nil))) (se_callR (pe_c c_law_blended hr (by decide) (by rfl) (sa_cons (se_var 0) sa_nil)))) (by rfl)))) ss_nil)
    (ss_cons (ss_set (ps_set (i := 2) sc_law_draw.nd rfl (.inl rfl) (se_mod (eb_of (se_cb (c_int) (pe_callTy call_int1 (by rfl) T.n_int (by decide +kernel) (sb_cons (eb_of (se_stI (key := "rest") (g := Rng.rest) (fun _ => rfl) (pe_dget (hu_of hr) (pv 0) pe_str (fun _ _ => rfl)))) sb_nil)))) (se_varB 1))))
    (ss_cons (ss_strest (ps_dput (hu_of hr) (pv 0) pe_str (se_fdiv (eb_of (se_stI (key := "rest") (g := Rng.rest) (fun _ => rfl) (pe_dget (hu_of hr) (pv 0) pe_str (fun _ _ => rfl)))) (se_varB 1)) (by rfl)))
    (ss_one (ss_ret (se_var 2))))))
abbrev s_law_q : Stmt := topS 56
theorem sc_law_q : FnScope ["n", "d", "one", "other"] ["n", "d"] (defScope s_law_q) := ⟨rfl, rfl, rfl, by decide +kernel, rfl, by decide +kernel, by decide +kernel⟩
theorem ok_law_q (T : Tx K mg A) {f : Addr} {fd : FuncData} (F : Fun K "_law_q" "_law_q" s_law_q f fd) : FnOk P w K mg base CX0 1 f fd ["n", "d"] (spP K f_law_q) :=
  fn_pure F sc_law_q fun H0 F0 R cdv B outer s H E hr =>
  (ss_cons (ss_par2 (k1 := false) (k2 := false) (ps_par (i := 2) (j := 3) rfl sc_law_q.nd rfl rfl (by decide) rfl rfl (pa_cons (se_cb (c_abs) (pe_callB call_abs (by rfl) T.n_abs (by decide +kernel) (sb_cons (se_varB 0) sb_nil))) (pa_cons (se_cb (c_abs) (pe_callB call_abs (by rfl) T.n_abs (by decide +kernel) (sb_cons (se_varB 1) sb_nil))) pa_nil)) (by rfl)))
    (ss_cons (ss_while (ps_while PassesOwn.never (st_gt (se_varB 3) (eb_of se_int)) (ss_one (ss_par2 (k1 := false) (k2 := false) (ps_par (i := 2) (j := 3) rfl sc_law_q.nd rfl rfl (by decide) rfl rfl (pa_cons (se_var 3) (pa_cons (se_mod (eb_of (se_cb (c_int) (pe_callTy call_int1 (by rfl) T.n_int (by decide +kernel) (sb_cons (se_varB 2) sb_nil)))) (se_varB 3)) pa_nil)) (by rfl))))))
    (ss_one (ss_ret (se_ite (st_gt (se_varB 1) (eb_of se_int)) (se_tup (sa_cons (se_fdiv (se_varB 0) (se_varB 2)) (sa_cons (se_fdiv (se_varB 1) (se_varB 2)) sa_nil))) (se_tup (sa_cons (se_fdiv (eb_of (se_neg (se_varB 0))) (se_varB 2)) (sa_cons (se_fdiv (eb_of (se_neg (se_varB 1))) (se_varB 2)) sa_nil))))))))
abbrev s_law_over : Stmt := topS 60
theorem sc_law_over : FnScope ["one", "other"] ["one", "other"] (defScope s_law_over) := ⟨rfl, rfl, rfl, by decide +kernel, rfl, by decide +kernel, by decide +kernel⟩
theorem ok_law_over (T : Tx K mg A) (c_law_q : Cal P w K mg base 1 "_law_q" (spP K f_law_q) []) {f : Addr} {fd : FuncData} (F : Fun K "_law_over" "_law_over" s_law_over f fd) : FnOk P w K mg base CX0 2 f fd ["one", "other"] (spP K f_law_over) :=
  fn_pure F sc_law_over fun H0 F0 R cdv B outer s H E hr =>
  (ss_one (ss_ret (se_call (pe_c c_law_q hr (by decide) (by rfl) (sa_cons (se_mulI (eb_of (se_ix rfl (se_varB 0) (eb_of se_int))) (eb_of (se_ix rfl (se_varB 1) (eb_of se_int)))) (sa_cons (se_mulI (eb_of (se_ix rfl (se_varB 0) (eb_of se_int))) (eb_of (se_ix rfl (se_varB 1) (eb_of se_int)))) sa_nil))))))
abbrev s_law_plus : Stmt := topS 57
theorem sc_law_plus : FnScope ["one", "other"] ["one", "other"] (defScope s_law_plus) := ⟨rfl, rfl, rfl, by decide +kernel, rfl, by decide +kernel, by decide +kernel⟩
theorem ok_law_plus (T : Tx K mg A) (c_law_q : Cal P w K mg base 1 "_law_q" (spP K f_law_q) []) {f : Addr} {fd : FuncData} (F : Fun K "_law_plus" "_law_plus" s_law_plus f fd) : FnOk P w K mg base CX0 2 f fd ["one", "other"] (spP K f_law_plus) :=
  fn_pure F sc_law_plus fun H0 F0 R cdv B outer s H E hr =>
  (ss_one (ss_ret (se_call (pe_c c_law_q hr (by decide) (by rfl) (sa_cons (se_add rfl (eb_of (se_mulI (eb_of (se_ix rfl (se_varB 0) (eb_of se_int))) (eb_of (se_ix rfl (se_varB 1) (eb_of se_int))))) (eb_of (se_mulI (eb_of (se_ix rfl (se_varB 1) (eb_of se_int))) (eb_of (se_ix rfl (se_varB 0) (eb_of se_int)))))) (sa_cons (se_mulI (eb_of (se_ix rfl (se_varB 0) (eb_of se_int))) (eb_of (se_ix rfl (se_varB 1) (eb_of se_int)))) sa_nil))))))
abbrev s_law_straight_rows : Stmt := topS 78
theorem sc_law_straight_rows : FnScope ["draws", "rows", "found", "prices", "own", "amount"] ["draws", "rows"] (defScope s_law_straight_rows) := ⟨rfl, rfl, rfl, by decide +kernel, rfl, by decide +kernel, by decide +kernel⟩
theorem ok_law_straight_rows (T : Tx K mg A) (c_law_over : Cal P w K mg base 2 "_law_over" (spP K f_law_over) []) (c_law_plus : Cal P w K mg base 2 "_law_plus" (spP K f_law_plus) []) (c_law_draw : Cal P w K mg base 2 "_law_draw" (spR K f_law_draw) []) {f : Addr} {fd : FuncData} (F : Fun K "_law_straight_rows" "_law_straight_rows" s_law_straight_rows f fd) : FnOk P w K mg base CX0 3 f fd ["draws", "rows"] (spR K f_law_straight_rows) :=
  fn_rng F sc_law_straight_rows fun H0 F0 R cdv B outer s H E hr =>
  (ss_cons (ss_setF (ps_set (i := 2) sc_law_straight_rows.nd rfl (.inl rfl) (sf_lst sa_nil)))
    (ss_cons (ss_for (ps_for PassesOwn.never rfl (si_seq rfl (se_var 1)) (sg_tup rfl rfl (sgs_cons (sg_name 3 sc_law_straight_rows.nd) (sgs_cons (sg_name 4 sc_law_straight_rows.nd) sgs_nil))) (ss_one (ss_app (ps_expr (pe_bm PySem.F.plainAttrs_list PySem.F.slot_list_append PySem.F.type_list_append mt_append (pv 2) (pa_cons (se_tup (sa_cons (se_cb (c_tuple) (pe_callTy call_tuple_of (by rfl) T.n_tuple (by decide +kernel) (sb_cons (eb_of (ee_of (sf_lc (own := [("amount", 5)]) rfl sc_law_straight_rows.nd (si_seq rfl (se_var 4)) (blkOk_by (N := ["draws", "rows", "found", "prices", "own", "amount"]) (sc := defScope s_law_straight_rows) (by decide +kernel)) (fun _ _ _ _ _ => (sg_name 5 sc_law_straight_rows.nd)) (fun _ _ _ _ _ => sts_nil) (fun _ _ _ _ _ => (se_call (pe_c c_law_over hr (by decide) (by rfl) (sa_cons (se_tup (sa_cons se_int (sa_cons se_int sa_nil))) (sa_cons (se_call (pe_c c_law_plus hr (by decide) (by rfl) (sa_cons (se_tup (sa_cons se_int (sa_cons se_int sa_nil))) (sa_cons (se_var 5) sa_nil)))) sa_nil))))) (by decide)))) sb_nil))) (sa_cons (se_var 4) sa_nil))) pa_nil)))))))
    (ss_one (ss_ret (se_ite (st_eq rfl (u64 hr) (eb_of (se_callR (pe_c c_law_draw hr (by decide) (by rfl) (sa_cons (se_var 0) (sa_cons se_int sa_nil))))) (eb_of se_int)) (se_tup (sa_cons se_str (sa_cons (se_cb (c_tuple) (pe_callTy call_tuple_of (by rfl) T.n_tuple (by decide +kernel) (sb_cons (se_varB 2) sb_nil))) sa_nil))) (se_tup (sa_cons se_str (sa_cons (se_var 1) sa_nil))))))))
abbrev s_is_whole : Stmt := topS 8
theorem sc_is_whole : FnScope ["value"] ["value"] (defScope s_is_whole) := ⟨rfl, rfl, rfl, by decide +kernel, rfl, by decide +kernel, by decide +kernel⟩
theorem ok_is_whole (T : Tx K mg A) {f : Addr} {fd : FuncData} (F : Fun K "is_whole" "is_whole" s_is_whole f fd) : FnOk P w K mg base CX0 1 f fd ["value"] (spP K f_is_whole) :=
  fn_pure F sc_is_whole fun H0 F0 R cdv B outer s H E hr =>
  (ss_one (ss_ret (se_andV (se_isi (pe_callB call_isi (by rfl) T.n_isinstance (by decide +kernel) (pa_cons (se_varB 0) (pa_cons (pe_bltn (by rfl) T.n_int (by decide +kernel) rfl) pa_nil)))) (se_one (se_notV (se_isi (pe_callB call_isi (by rfl) T.n_isinstance (by decide +kernel) (pa_cons (se_varB 0) (pa_cons (pe_bltn (by rfl) T.n_bool (by decide +kernel) rfl) pa_nil)))))))))
abbrev s_is_ratio : Stmt := topS 9
theorem sc_is_ratio : FnScope ["value", "part"] ["value"] (defScope s_is_ratio) := ⟨rfl, rfl, rfl, by decide +kernel, rfl, by decide +kernel, by decide +kernel⟩
theorem ok_is_ratio (T : Tx K mg A) (c_is_whole : Cal P w K mg base 1 "is_whole" (spP K f_is_whole) []) {f : Addr} {fd : FuncData} (F : Fun K "is_ratio" "is_ratio" s_is_ratio f fd) : FnOk P w K mg base CX0 2 f fd ["value"] (spP K f_is_ratio) :=
  fn_pure F sc_is_ratio fun H0 F0 R cdv B outer s H E hr =>
  (ss_cons (ss_if (L2.PW.pt (sw_or (st_not (st_val (se_isi (pe_callB call_isi (by rfl) T.n_isinstance (by decide +kernel) (pa_cons (se_varB 0) (pa_cons (pe_bltn (by rfl) T.n_tuple (by decide +kernel) rfl) pa_nil)))))) (sw_or (st_ne rfl (u64 hr) (eb_of (se_cb (c_lenA.or (c_lenK.or c_lenS)) (pe_callB (c_len rfl) (by rfl) T.n_len boot_len (sb_cons (se_varB 0) sb_nil)))) (eb_of se_int)) (sw_or1 (st_not (st_val (se_cb (c_all) (pe_callB (cr_all rfl) (by rfl) T.n_all (by decide +kernel) (sb_cons (eb_of (ee_of (sf_lc (own := [("part", 1)]) rfl sc_is_ratio.nd (si_seq rfl (se_var 0)) (blkOk_by (N := ["value", "part"]) (sc := defScope s_is_ratio) (by decide +kernel)) (fun _ _ _ _ _ => (sg_name 1 sc_is_ratio.nd)) (fun _ _ _ _ _ => sts_nil) (fun _ _ _ _ _ => (se_call (pe_c c_is_whole hr (by decide) (by rfl) (sa_cons (se_var 1) sa_nil)))) (by decide)))) sb_nil))))))))) (ss_one (ss_ret se_bl)) ss_nil)
    (ss_one (ss_ret (se_andV (se_gt (eb_of (se_ix rfl (se_varB 0) (eb_of se_int))) (eb_of se_int)) (se_one (se_eq rfl (u64 hr) (eb_of (se_cb c_gcd (pe_callBfun cr_gcd (by rfl) T.b_gcd (sb_cons (eb_of (se_ix rfl (se_varB 0) (eb_of se_int))) (sb_cons (eb_of (se_ix rfl (se_varB 0) (eb_of se_int))) sb_nil))))) (eb_of se_int)))))))
abbrev s_is_vector : Stmt := topS 19
theorem sc_is_vector : FnScope ["value", "part"] ["value"] (defScope s_is_vector) := ⟨rfl, rfl, rfl, by decide +kernel, rfl, by decide +kernel, by decide +kernel⟩
theorem ok_is_vector (T : Tx K mg A) (c_is_ratio : Cal P w K mg base 2 "is_ratio" (spP K f_is_ratio) []) {f : Addr} {fd : FuncData} (F : Fun K "is_vector" "is_vector" s_is_vector f fd) : FnOk P w K mg base CX0 3 f fd ["value"] (spP K f_is_vector) :=
  fn_pure F sc_is_vector fun H0 F0 R cdv B outer s H E hr =>
  (ss_one (ss_ret (se_andV (se_isi (pe_callB call_isi (by rfl) T.n_isinstance (by decide +kernel) (pa_cons (se_varB 0) (pa_cons (pe_bltn (by rfl) T.n_tuple (by decide +kernel) rfl) pa_nil)))) (se_andV (se_chn op_le op_le r_le r_le (eb_of se_int) (eb_of (se_cb (c_lenA.or (c_lenK.or c_lenS)) (pe_callB (c_len rfl) (by rfl) T.n_len boot_len (sb_cons (se_varB 0) sb_nil)))) (eb_of (se_gc (by rfl) T.g_MOST (fun F => .int _)))) (se_one (se_cb (c_all) (pe_callB (cr_all rfl) (by rfl) T.n_all (by decide +kernel) (sb_cons (eb_of (ee_of (sf_lc (own := [("part", 1)]) rfl sc_is_vector.nd (si_seq rfl (se_var 0)) (blkOk_by (N := ["value", "part"]) (sc := defScope s_is_vector) (by decide +kernel)) (fun _ _ _ _ _ => (sg_name 1 sc_is_vector.nd)) (fun _ _ _ _ _ => sts_nil) (fun _ _ _ _ _ => (se_call (pe_c c_is_ratio hr (by decide) (by rfl) (sa_cons (se_var 1) sa_nil)))) (by decide)))) sb_nil))))))))
abbrev s_is_budget : Stmt := topS 25
theorem sc_is_budget : FnScope ["value", "goods", "part"] ["value", "goods"] (defScope s_is_budget) := ⟨rfl, rfl, rfl, by decide +kernel, rfl, by decide +kernel, by decide +kernel⟩
theorem ok_is_budget (T : Tx K mg A) (c_is_vector : Cal P w K mg base 3 "is_vector" (spP K f_is_vector) []) {f : Addr} {fd : FuncData} (F : Fun K "is_budget" "is_budget" s_is_budget f fd) : FnOk P w K mg base CX0 4 f fd ["value", "goods"] (spP K f_is_budget) :=
  fn_pure F sc_is_budget fun H0 F0 R cdv B outer s H E hr =>
  (ss_cons (ss_if (L2.PW.pt (sw_or (st_not (st_val (se_isi (pe_callB call_isi (by rfl) T.n_isinstance (by decide +kernel) (pa_cons (se_varB 0) (pa_cons (pe_bltn (by rfl) T.n_tuple (by decide +kernel) rfl) pa_nil)))))) (sw_or (st_ne rfl (u64 hr) (eb_of (se_cb (c_lenA.or (c_lenK.or c_lenS)) (pe_callB (c_len rfl) (by rfl) T.n_len boot_len (sb_cons (se_varB 0) sb_nil)))) (eb_of se_int)) (sw_or1 (st_not (st_val (se_cb (c_all) (pe_callB (cr_all rfl) (by rfl) T.n_all (by decide +kernel) (sb_cons (eb_of (ee_of (sf_lc (own := [("part", 2)]) rfl sc_is_budget.nd (si_seq rfl (se_var 0)) (blkOk_by (N := ["value", "goods", "part"]) (sc := defScope s_is_budget) (by decide +kernel)) (fun _ _ _ _ _ => (sg_name 2 sc_is_budget.nd)) (fun _ _ _ _ _ => sts_nil) (fun _ _ _ _ _ => (se_call (pe_c c_is_vector hr (by decide) (by rfl) (sa_cons (se_var 2) sa_nil)))) (by decide)))) sb_nil))))))))) (ss_one (ss_ret se_bl)) ss_nil)
    (ss_cons (ss_if (st_not (st_val (se_cb (c_all) (pe_callB (cr_all rfl) (by rfl) T.n_all (by decide +kernel) (sb_cons (eb_of (ee_of (sf_lc (own := [("part", 2)]) rfl sc_is_budget.nd (si_seq rfl (se_var 0)) (blkOk_by (N := ["value", "goods", "part"]) (sc := defScope s_is_budget) (by decide +kernel)) (fun _ _ _ _ _ => (sg_name 2 sc_is_budget.nd)) (fun _ _ _ _ _ => sts_nil) (fun _ _ _ _ _ => (se_eq rfl (u64 hr) (eb_of (se_cb (c_lenA.or (c_lenK.or c_lenS)) (pe_callB (c_len rfl) (by rfl) T.n_len boot_len (sb_cons (se_varB 2) sb_nil)))) (se_varB 1))) (by decide)))) sb_nil))))) (ss_one (ss_ret se_bl)) ss_nil)
    (ss_cons (ss_if (L2.PW.pt (sw_or (st_not (st_val (se_cb (c_all) (pe_callB (cr_all rfl) (by rfl) T.n_all (by decide +kernel) (sb_cons (eb_of (ee_of (sf_lc (own := [("part", 2)]) rfl sc_is_budget.nd (si_seq rfl (se_ix rfl (se_varB 0) (eb_of se_int))) (blkOk_by (N := ["value", "goods", "part"]) (sc := defScope s_is_budget) (by decide +kernel)) (fun _ _ _ _ _ => (sg_name 2 sc_is_budget.nd)) (fun _ _ _ _ _ => sts_nil) (fun _ _ _ _ _ => (se_gt (eb_of (se_ix rfl (se_varB 2) (eb_of se_int))) (eb_of se_int))) (by decide)))) sb_nil))))) (sw_or1 (st_not (st_val (se_cb (c_all) (pe_callB (cr_all rfl) (by rfl) T.n_all (by decide +kernel) (sb_cons (eb_of (ee_of (sf_lc (own := [("part", 2)]) rfl sc_is_budget.nd (si_seq rfl (se_ix rfl (se_varB 0) (eb_of se_int))) (blkOk_by (N := ["value", "goods", "part"]) (sc := defScope s_is_budget) (by decide +kernel)) (fun _ _ _ _ _ => (sg_name 2 sc_is_budget.nd)) (fun _ _ _ _ _ => sts_nil) (fun _ _ _ _ _ => (se_ge (eb_of (se_ix rfl (se_varB 2) (eb_of se_int))) (eb_of se_int))) (by decide)))) sb_nil)))))))) (ss_one (ss_ret se_bl)) ss_nil)
    (ss_one (ss_ret (se_cb (c_any) (pe_callB (cr_any rfl) (by rfl) T.n_any (by decide +kernel) (sb_cons (eb_of (ee_of (sf_lc (own := [("part", 2)]) rfl sc_is_budget.nd (si_seq rfl (se_ix rfl (se_varB 0) (eb_of se_int))) (blkOk_by (N := ["value", "goods", "part"]) (sc := defScope s_is_budget) (by decide +kernel)) (fun _ _ _ _ _ => (sg_name 2 sc_is_budget.nd)) (fun _ _ _ _ _ => sts_nil) (fun _ _ _ _ _ => (se_gt (eb_of (se_ix rfl (se_varB 2) (eb_of se_int))) (eb_of se_int))) (by decide)))) sb_nil))))))))
abbrev s_are_budgets_of : Stmt := topS 26
theorem sc_are_budgets_of : FnScope ["value", "goods", "row"] ["value", "goods"] (defScope s_are_budgets_of) := ⟨rfl, rfl, rfl, by decide +kernel, rfl, by decide +kernel, by decide +kernel⟩
theorem ok_are_budgets_of (T : Tx K mg A) (c_is_budget : Cal P w K mg base 4 "is_budget" (spP K f_is_budget) []) {f : Addr} {fd : FuncData} (F : Fun K "are_budgets_of" "are_budgets_of" s_are_budgets_of f fd) : FnOk P w K mg base CX0 5 f fd ["value", "goods"] (spP K f_are_budgets_of) :=
  fn_pure F sc_are_budgets_of fun H0 F0 R cdv B outer s H E hr =>
  (ss_cons (ss_if (L2.PW.pt (sw_or (st_not (st_val (se_isi (pe_callB call_isi (by rfl) T.n_isinstance (by decide +kernel) (pa_cons (se_varB 0) (pa_cons (pe_bltn (by rfl) T.n_tuple (by decide +kernel) rfl) pa_nil)))))) (sw_or (st_ne rfl (u64 hr) (eb_of (se_cb (c_lenA.or (c_lenK.or c_lenS)) (pe_callB (c_len rfl) (by rfl) T.n_len boot_len (sb_cons (se_varB 0) sb_nil)))) (eb_of se_int)) (sw_or (st_not (st_val (se_isi (pe_callB call_isi (by rfl) T.n_isinstance (by decide +kernel) (pa_cons (eb_of (se_ix rfl (se_varB 0) (eb_of se_int))) (pa_cons (pe_bltn (by rfl) T.n_str (by decide +kernel) rfl) pa_nil)))))) (sw_or1 (st_ne rfl (u64 hr) (eb_of (se_ix rfl (se_varB 0) (eb_of se_int))) (eb_of se_str))))))) (ss_one (ss_ret se_bl)) ss_nil)
    (ss_cons (ss_if (L2.PW.pt (sw_or (st_not (st_val (se_isi (pe_callB call_isi (by rfl) T.n_isinstance (by decide +kernel) (pa_cons (eb_of (se_ix rfl (se_varB 0) (eb_of se_int))) (pa_cons (pe_bltn (by rfl) T.n_tuple (by decide +kernel) rfl) pa_nil)))))) (sw_or1 (st_not (st_chn op_le op_le r_le r_le (eb_of se_int) (eb_of (se_cb (c_lenA.or (c_lenK.or c_lenS)) (pe_callB (c_len rfl) (by rfl) T.n_len boot_len (sb_cons (eb_of (se_ix rfl (se_varB 0) (eb_of se_int))) sb_nil)))) (eb_of (se_gc (by rfl) T.g_MOST_BUDGETS (fun F => .int _)))))))) (ss_one (ss_ret se_bl)) ss_nil)
    (ss_one (ss_ret (se_cb (c_all) (pe_callB (cr_all rfl) (by rfl) T.n_all (by decide +kernel) (sb_cons (eb_of (ee_of (sf_lc (own := [("row", 2)]) rfl sc_are_budgets_of.nd (si_seq rfl (se_ix rfl (se_varB 0) (eb_of se_int))) (blkOk_by (N := ["value", "goods", "row"]) (sc := defScope s_are_budgets_of) (by decide +kernel)) (fun _ _ _ _ _ => (sg_name 2 sc_are_budgets_of.nd)) (fun _ _ _ _ _ => sts_nil) (fun _ _ _ _ _ => (se_call (pe_c c_is_budget hr (by decide) (by rfl) (sa_cons (se_var 2) (sa_cons (se_var 1) sa_nil))))) (by decide)))) sb_nil)))))))
abbrev s_is_budgets : Stmt := topS 27
theorem sc_is_budgets : FnScope ["value", "goods"] ["value"] (defScope s_is_budgets) := ⟨rfl, rfl, rfl, by decide +kernel, rfl, by decide +kernel, by decide +kernel⟩
theorem ok_is_budgets (T : Tx K mg A) (c_are_budgets_of : Cal P w K mg base 5 "are_budgets_of" (spP K f_are_budgets_of) []) {f : Addr} {fd : FuncData} (F : Fun K "is_budgets" "is_budgets" s_is_budgets f fd) : FnOk P w K mg base CX0 6 f fd ["value"] (spP K f_is_budgets) :=
  fn_pure F sc_is_budgets fun H0 F0 R cdv B outer s H E hr =>
  (ss_one (ss_ret (se_cb (c_any) (pe_callB (cr_any rfl) (by rfl) T.n_any (by decide +kernel) (sb_cons (eb_of (ee_of (sf_lc (own := [("goods", 1)]) rfl sc_is_budgets.nd (si_rg2 (pi_range2 (by rfl) T.n_range (sb_cons (eb_of (se_gc (by rfl) T.g_LEAST_GOODS (fun F => .int _))) (sb_cons (eb_of (se_add rfl (eb_of (se_gc (by rfl) T.g_MOST_GOODS (fun F => .int _))) (eb_of se_int))) sb_nil)))) (blkOk_by (N := ["value", "goods"]) (sc := defScope s_is_budgets) (by decide +kernel)) (fun _ _ _ _ _ => (sg_name 1 sc_is_budgets.nd)) (fun _ _ _ _ _ => sts_nil) (fun _ _ _ _ _ => (se_call (pe_c c_are_budgets_of hr (by decide) (by rfl) (sa_cons (se_var 0) (sa_cons (se_var 1) sa_nil))))) (by decide)))) sb_nil)))))
abbrev s_need_budgets : Stmt := topS 28
theorem sc_need_budgets : FnScope ["budgets"] ["budgets"] (defScope s_need_budgets) := ⟨rfl, rfl, rfl, by decide +kernel, rfl, by decide +kernel, by decide +kernel⟩
theorem ok_need_budgets (T : Tx K mg A) (c_is_budgets : Cal P w K mg base 6 "is_budgets" (spP K f_is_budgets) []) {f : Addr} {fd : FuncData} (F : Fun K "need_budgets" "need_budgets" s_need_budgets f fd) : FnOk P w K mg base CX0 7 f fd ["budgets"] (spP K f_need_budgets) :=
  fn_pure F sc_need_budgets fun H0 F0 R cdv B outer s H E hr =>
  (ss_one (ss_if (st_not (st_val (se_call (pe_c c_is_budgets hr (by decide) (by rfl) (sa_cons (se_var 0) sa_nil))))) (ss_one ss_never) ss_nil))
abbrev s_ring_behind : Stmt := topS 38
theorem sc_ring_behind : FnScope ["back", "spot", "many", "here", "lap", "found", "later"] ["back", "spot", "many"] (defScope s_ring_behind) := ⟨rfl, rfl, rfl, by decide +kernel, rfl, by decide +kernel, by decide +kernel⟩
theorem ok_ring_behind (T : Tx K mg A) {f : Addr} {fd : FuncData} (F : Fun K "ring_behind" "ring_behind" s_ring_behind f fd) : FnOk P w K mg base CX0 1 f fd ["back", "spot", "many"] (spP K f_ring_behind) :=
  fn_pure F sc_ring_behind fun H0 F0 R cdv B outer s H E hr =>
  (ss_cons (ss_set (ps_set (i := 3) sc_ring_behind.nd rfl (.inl rfl) (se_var 1)))
    (ss_cons (ss_for (ps_for PassesOwn.never rfl (si_rg1 (pi_range1 (by rfl) T.n_range (sb_cons (se_varB 2) sb_nil))) (sg_name 4 sc_ring_behind.nd) (ss_one (ss_set (ps_set (i := 3) sc_ring_behind.nd rfl (.inl rfl) (se_ix rfl (se_varB 0) (se_varB 3)))))))
    (ss_cons (ss_par2 (k1 := true) (k2 := false) (ps_par (i := 5) (j := 6) rfl sc_ring_behind.nd rfl rfl (by decide) rfl rfl (pa_cons (sf_lst (sa_cons (se_var 3) sa_nil)) (pa_cons (se_ix rfl (se_varB 0) (se_varB 3)) pa_nil)) (by rfl)))
    (ss_cons (ss_while (ps_while PassesOwn.never (st_ne rfl (u64 hr) (se_varB 6) (se_varB 3)) (ss_cons (ss_app (ps_expr (pe_bm PySem.F.plainAttrs_list PySem.F.slot_list_append PySem.F.type_list_append mt_append (pv 5) (pa_cons (se_var 6) pa_nil))))
    (ss_one (ss_set (ps_set (i := 6) sc_ring_behind.nd rfl (.inl rfl) (se_ix rfl (se_varB 0) (se_varB 6))))))))
    (ss_one (ss_ret (se_cb (c_tuple) (pe_callTy call_tuple_of (by rfl) T.n_tuple (by decide +kernel) (sb_cons (eb_of (ee_of (sf_revL (pe_revL (se_varB 5))))) sb_nil)))))))))
abbrev s_is_less : Stmt := topS 14
theorem sc_is_less : FnScope ["one", "other"] ["one", "other"] (defScope s_is_less) := ⟨rfl, rfl, rfl, by decide +kernel, rfl, by decide +kernel, by decide +kernel⟩
theorem ok_is_less (T : Tx K mg A) {f : Addr} {fd : FuncData} (F : Fun K "is_less" "is_less" s_is_less f fd) : FnOk P w K mg base CX0 1 f fd ["one", "other"] (spP K f_is_less) :=
  fn_pure F sc_is_less fun H0 F0 R cdv B outer s H E hr =>
  (ss_one (ss_ret (se_lt (eb_of (se_mulI (eb_of (se_ix rfl (se_varB 0) (eb_of se_int))) (eb_of (se_ix rfl (se_varB 1) (eb_of se_int))))) (eb_of (se_mulI (eb_of (se_ix rfl (se_varB 1) (eb_of se_int))) (eb_of (se_ix rfl (se_varB 0) (eb_of se_int))))))))
abbrev s_lowest : Stmt := topS 10
theorem sc_lowest : FnScope ["n", "d", "common"] ["n", "d"] (defScope s_lowest) := ⟨rfl, rfl, rfl, by decide +kernel, rfl, by decide +kernel, by decide +kernel⟩
theorem ok_lowest (T : Tx K mg A) {f : Addr} {fd : FuncData} (F : Fun K "lowest" "lowest" s_lowest f fd) : FnOk P w K mg base CX0 1 f fd ["n", "d"] (spP K f_lowest) :=
  fn_pure F sc_lowest fun H0 F0 R cdv B outer s H E hr =>
  (ss_cons (ss_set (ps_set (i := 2) sc_lowest.nd rfl (.inl rfl) (se_ite (st_gt (se_varB 1) (eb_of se_int)) (se_cb c_gcd (pe_callBfun cr_gcd (by rfl) T.b_gcd (sb_cons (se_varB 0) (sb_cons (se_varB 1) sb_nil)))) (se_neg (eb_of (se_cb c_gcd (pe_callBfun cr_gcd (by rfl) T.b_gcd (sb_cons (se_varB 0) (sb_cons (se_varB 1) sb_nil)))))))))
    (ss_one (ss_ret (se_tup (sa_cons (se_fdiv (se_varB 0) (se_varB 2)) (sa_cons (se_fdiv (se_varB 1) (se_varB 2)) sa_nil))))))
abbrev s_plus : Stmt := topS 11
theorem sc_plus : FnScope ["one", "other"] ["one", "other"] (defScope s_plus) := ⟨rfl, rfl, rfl, by decide +kernel, rfl, by decide +kernel, by decide +kernel⟩
theorem ok_plus (T : Tx K mg A) (c_lowest : Cal P w K mg base 1 "lowest" (spP K f_lowest) []) {f : Addr} {fd : FuncData} (F : Fun K "plus" "plus" s_plus f fd) : FnOk P w K mg base CX0 2 f fd ["one", "other"] (spP K f_plus) :=
  fn_pure F sc_plus fun H0 F0 R cdv B outer s H E hr =>
  (ss_one (ss_ret (se_call (pe_c c_lowest hr (by decide) (by rfl) (sa_cons (se_add rfl (eb_of (se_mulI (eb_of (se_ix rfl (se_varB 0) (eb_of se_int))) (eb_of (se_ix rfl (se_varB 1) (eb_of se_int))))) (eb_of (se_mulI (eb_of (se_ix rfl (se_varB 1) (eb_of se_int))) (eb_of (se_ix rfl (se_varB 0) (eb_of se_int)))))) (sa_cons (se_mulI (eb_of (se_ix rfl (se_varB 0) (eb_of se_int))) (eb_of (se_ix rfl (se_varB 1) (eb_of se_int)))) sa_nil))))))
abbrev s_kept : Stmt := topS 39
theorem sc_kept : FnScope ["table", "start", "together", "many", "lap", "levels", "back", "changed", "one", "other", "here"] ["table", "start", "together"] (defScope s_kept) := ⟨rfl, rfl, rfl, by decide +kernel, rfl, by decide +kernel, by decide +kernel⟩
theorem ok_kept (T : Tx K mg A) {fd_plus : FuncData} (cat_plus : Cat P w K mg base 2 A.plus fd_plus ["one", "other"] (spP K f_plus)) (c_is_less : Cal P w K mg base 1 "is_less" (spP K f_is_less) []) (c_ring_behind : Cal P w K mg base 1 "ring_behind" (spP K f_ring_behind) []) {f : Addr} {fd : FuncData} (F : Fun K "kept" "kept" s_kept f fd) : FnOk P w K mg base CX0 3 f fd ["table", "start", "together"] (spP K (f_kept A)) :=
  fn_pure F sc_kept fun H0 F0 R cdv B outer s H E hr =>
  (ss_cons (ss_set (ps_set (i := 3) sc_kept.nd rfl (.inl rfl) (se_cb (c_lenA.or (c_lenK.or c_lenS)) (pe_callB (c_len rfl) (by rfl) T.n_len boot_len (sb_cons (se_varB 0) sb_nil)))))
    (ss_cons (ss_par2 (k1 := true) (k2 := true) (ps_par (i := 5) (j := 6) rfl sc_kept.nd rfl rfl (by decide) rfl rfl (pa_cons (sf_mulL (eb_of (ee_of (sf_lst (sa_cons (se_var 1) sa_nil)))) (se_varB 3)) (pa_cons (sf_mulL (eb_of (ee_of (sf_lst (sa_cons se_non sa_nil)))) (se_varB 3)) pa_nil)) (by rfl)))
    (ss_cons (ss_for (ps_for PassesOwn.never rfl (si_rg1 (pi_range1 (by rfl) T.n_range (sb_cons (eb_of (se_add rfl (se_varB 3) (eb_of se_int))) sb_nil))) (sg_name 4 sc_kept.nd) (ss_cons (ss_set (ps_set (i := 7) sc_kept.nd rfl (.inl rfl) se_non))
    (ss_cons (ss_for (ps_for PassesOwn.never rfl (si_rg1 (pi_range1 (by rfl) T.n_range (sb_cons (se_varB 3) sb_nil))) (sg_name 8 sc_kept.nd) (ss_one (ss_for (ps_for PassesOwn.never rfl (si_rg1 (pi_range1 (by rfl) T.n_range (sb_cons (se_varB 3) sb_nil))) (sg_name 9 sc_kept.nd) (ss_one (ss_if (st_isnot (eb_of (se_ix rfl (eb_of (se_ix rfl (se_varB 0) (se_varB 8))) (se_varB 9))) (eb_of se_non)) (ss_cons (ss_set (ps_set (i := 10) sc_kept.nd rfl (.inl rfl) (se_callL (pe_callL cat_plus.F (hr.mono (by decide)) (i := 2) rfl (by exact Or.inl rfl) cat_plus.kp cat_plus.b .nil pass0 (sa_cons (se_ix rfl (se_varB 5) (se_varB 8)) (sa_cons (se_ix rfl (eb_of (se_ix rfl (se_varB 0) (se_varB 8))) (se_varB 9)) sa_nil))))))
    (ss_one (ss_if (st_val (se_call (pe_c c_is_less hr (by decide) (by rfl) (sa_cons (se_var 10) (sa_cons (se_ix rfl (se_varB 5) (se_varB 9)) sa_nil))))) (ss_one (ss_asgH (ps_asg (se_tup (sa_cons (se_var 10) (sa_cons (se_var 8) (sa_cons (se_var 9) sa_nil)))) (sh_tup rfl rfl (shs_cons (sh_ix (pg_sub (pv 5) (se_var 9) set_list)) (shs_cons (sh_ix (pg_sub (pv 6) (se_var 9) set_list)) (shs_cons (sh_of (sg_name 7 sc_kept.nd)) shs_nil))))))) ss_nil))) ss_nil)))))))
    (ss_one (ss_if (st_is (se_varB 7) (eb_of se_non)) (ss_one (ss_ret (se_tup (sa_cons se_str (sa_cons (se_cb (c_tuple) (pe_callTy call_tuple_of (by rfl) T.n_tuple (by decide +kernel) (sb_cons (se_varB 5) sb_nil))) sa_nil))))) ss_nil))))))
    (ss_one (ss_frz 6 (ss_ret (se_tup (sa_cons se_str (sa_cons (se_call (pe_c c_ring_behind hr (by decide) (by rfl) (sa_cons (se_var 6) (sa_cons (se_var 7) (sa_cons (se_var 3) sa_nil))))) sa_nil)))))))))
abbrev s_kept_differences : Stmt := topS 40
theorem sc_kept_differences : FnScope ["table"] ["table"] (defScope s_kept_differences) := ⟨rfl, rfl, rfl, by decide +kernel, rfl, by decide +kernel, by decide +kernel⟩
theorem ok_kept_differences (T : Tx K mg A) (c_kept : Cal P w K mg base 3 "kept" (spP K (f_kept A)) []) {f : Addr} {fd : FuncData} (F : Fun K "kept_differences" "kept_differences" s_kept_differences f fd) : FnOk P w K mg base CX0 4 f fd ["table"] (spP K (f_kept_differences A)) :=
  fn_pure F sc_kept_differences fun H0 F0 R cdv B outer s H E hr =>
  (ss_one (ss_ret (se_call (pe_c c_kept hr (by decide) (by rfl) (sa_cons (se_var 0) (sa_cons (se_gk (by rfl) T.k_ZERO rfl (fun F => (.cons (.int _) (.cons (.int _) .nil)))) (sa_cons (se_fnv (by rfl) T.a_plus) sa_nil)))))))
abbrev s_total : Stmt := topS 15
theorem sc_total : FnScope ["ratios", "found", "each"] ["ratios"] (defScope s_total) := ⟨rfl, rfl, rfl, by decide +kernel, rfl, by decide +kernel, by decide +kernel⟩
theorem ok_total (T : Tx K mg A) (c_plus : Cal P w K mg base 2 "plus" (spP K f_plus) []) {f : Addr} {fd : FuncData} (F : Fun K "total" "total" s_total f fd) : FnOk P w K mg base CX0 3 f fd ["ratios"] (spP K f_total) :=
  fn_pure F sc_total fun H0 F0 R cdv B outer s H E hr =>
  (ss_cons (ss_set (ps_set (i := 1) sc_total.nd rfl (.inl rfl) (se_gk (by rfl) T.k_ZERO rfl (fun F => (.cons (.int _) (.cons (.int _) .nil))))))
    (ss_cons (ss_for (ps_for PassesOwn.never rfl (si_seq rfl (se_var 0)) (sg_name 2 sc_total.nd) (ss_one (ss_set (ps_set (i := 1) sc_total.nd rfl (.inl rfl) (se_call (pe_c c_plus hr (by decide) (by rfl) (sa_cons (se_var 1) (sa_cons (se_var 2) sa_nil)))))))))
    (ss_one (ss_ret (se_var 1)))))
abbrev s_times : Stmt := topS 13
theorem sc_times : FnScope ["one", "other"] ["one", "other"] (defScope s_times) := ⟨rfl, rfl, rfl, by decide +kernel, rfl, by decide +kernel, by decide +kernel⟩
theorem ok_times (T : Tx K mg A) (c_lowest : Cal P w K mg base 1 "lowest" (spP K f_lowest) []) {f : Addr} {fd : FuncData} (F : Fun K "times" "times" s_times f fd) : FnOk P w K mg base CX0 2 f fd ["one", "other"] (spP K f_times) :=
  fn_pure F sc_times fun H0 F0 R cdv B outer s H E hr =>
  (ss_one (ss_ret (se_call (pe_c c_lowest hr (by decide) (by rfl) (sa_cons (se_mulI (eb_of (se_ix rfl (se_varB 0) (eb_of se_int))) (eb_of (se_ix rfl (se_varB 1) (eb_of se_int)))) (sa_cons (se_mulI (eb_of (se_ix rfl (se_varB 0) (eb_of se_int))) (eb_of (se_ix rfl (se_varB 1) (eb_of se_int)))) sa_nil))))))
abbrev s_dot : Stmt := topS 20
theorem sc_dot : FnScope ["one", "other", "left", "right"] ["one", "other"] (defScope s_dot) := ⟨rfl, rfl, rfl, by decide +kernel, rfl, by decide +kernel, by decide +kernel⟩
theorem ok_dot (T : Tx K mg A) (c_total : Cal P w K mg base 3 "total" (spP K f_total) []) (c_times : Cal P w K mg base 2 "times" (spP K f_times) []) {f : Addr} {fd : FuncData} (F : Fun K "dot" "dot" s_dot f fd) : FnOk P w K mg base CX0 4 f fd ["one", "other"] (spP K f_dot) :=
  fn_pure F sc_dot fun H0 F0 R cdv B outer s H E hr =>
  (ss_one (ss_ret (se_call (pe_c c_total hr (by decide) (by rfl) (sa_cons (ee_of (sf_lc (own := [("left", 2), ("right", 3)]) rfl sc_dot.nd (si_zip2 rfl (pi_zip2 (by rfl) T.n_zip (sa_cons (se_var 0) (sa_cons (se_var 1) sa_nil)))) (blkOk_by (N := ["one", "other", "left", "right"]) (sc := defScope s_dot) (by decide +kernel)) (fun _ _ _ _ _ => (sg_tup rfl rfl (sgs_cons (sg_name 2 sc_dot.nd) (sgs_cons (sg_name 3 sc_dot.nd) sgs_nil)))) (fun _ _ _ _ _ => sts_nil) (fun _ _ _ _ _ => (se_call (pe_c c_times hr (by decide) (by rfl) (sa_cons (se_var 2) (sa_cons (se_var 3) sa_nil))))) (by decide))) sa_nil)))))
abbrev s_costs_of : Stmt := topS 33
theorem sc_costs_of : FnScope ["rows", "prices", "own", "others", "bundle"] ["rows"] (defScope s_costs_of) := ⟨rfl, rfl, rfl, by decide +kernel, rfl, by decide +kernel, by decide +kernel⟩
theorem ok_costs_of (T : Tx K mg A) (c_dot : Cal P w K mg base 4 "dot" (spP K f_dot) []) {f : Addr} {fd : FuncData} (F : Fun K "costs_of" "costs_of" s_costs_of f fd) : FnOk P w K mg base CX0 5 f fd ["rows"] (spP K f_costs_of) :=
  fn_pure F sc_costs_of fun H0 F0 R cdv B outer s H E hr =>
  (ss_one (ss_ret (ee_of (sf_lc (own := [("prices", 1), ("own", 2)]) rfl sc_costs_of.nd (si_seq rfl (se_var 0)) (blkOk_by (N := ["rows", "prices", "own", "others", "bundle"]) (sc := defScope s_costs_of) (by decide +kernel)) (fun _ _ _ _ _ => (sg_tup rfl rfl (sgs_cons (sg_name 1 sc_costs_of.nd) (sgs_cons (sg_name 2 sc_costs_of.nd) sgs_nil)))) (fun _ _ _ _ _ => sts_nil) (fun _ _ _ _ _ => (ee_of (sf_lc (own := [("others", 3), ("bundle", 4)]) rfl sc_costs_of.nd (si_seq rfl (se_var 0)) (blkOk_by (by kernel_rfl)) (fun _ _ _ _ _ => (sg_tup rfl rfl (sgs_cons (sg_name 3 sc_costs_of.nd) (sgs_cons (sg_name 4 sc_costs_of.nd) sgs_nil)))) (fun _ _ _ _ _ => sts_nil) (fun _ _ _ _ _ => (se_call (pe_c c_dot hr (by decide) (by rfl) (sa_cons (se_var 1) (sa_cons (se_var 4) sa_nil))))) (by decide)))) (by decide)))))
abbrev s_minus : Stmt := topS 12
theorem sc_minus : FnScope ["one", "other"] ["one", "other"] (defScope s_minus) := ⟨rfl, rfl, rfl, by decide +kernel, rfl, by decide +kernel, by decide +kernel⟩
theorem ok_minus (T : Tx K mg A) (c_lowest : Cal P w K mg base 1 "lowest" (spP K f_lowest) []) {f : Addr} {fd : FuncData} (F : Fun K "minus" "minus" s_minus f fd) : FnOk P w K mg base CX0 2 f fd ["one", "other"] (spP K f_minus) :=
  fn_pure F sc_minus fun H0 F0 R cdv B outer s H E hr =>
  (ss_one (ss_ret (se_call (pe_c c_lowest hr (by decide) (by rfl) (sa_cons (se_sub (eb_of (se_mulI (eb_of (se_ix rfl (se_varB 0) (eb_of se_int))) (eb_of (se_ix rfl (se_varB 1) (eb_of se_int))))) (eb_of (se_mulI (eb_of (se_ix rfl (se_varB 1) (eb_of se_int))) (eb_of (se_ix rfl (se_varB 0) (eb_of se_int)))))) (sa_cons (se_mulI (eb_of (se_ix rfl (se_varB 0) (eb_of se_int))) (eb_of (se_ix rfl (se_varB 1) (eb_of se_int)))) sa_nil))))))
abbrev s_gaps_of : Stmt := topS 42
theorem sc_gaps_of : FnScope ["rows", "table", "part", "at", "line"] ["rows"] (defScope s_gaps_of) := ⟨rfl, rfl, rfl, by decide +kernel, rfl, by decide +kernel, by decide +kernel⟩
theorem ok_gaps_of (T : Tx K mg A) (c_costs_of : Cal P w K mg base 5 "costs_of" (spP K f_costs_of) []) (c_minus : Cal P w K mg base 2 "minus" (spP K f_minus) []) {f : Addr} {fd : FuncData} (F : Fun K "gaps_of" "gaps_of" s_gaps_of f fd) : FnOk P w K mg base CX0 6 f fd ["rows"] (spP K f_gaps_of) :=
  fn_pure F sc_gaps_of fun H0 F0 R cdv B outer s H E hr =>
  (ss_cons (ss_set (ps_set (i := 1) sc_gaps_of.nd rfl (.inl rfl) (se_call (pe_c c_costs_of hr (by decide) (by rfl) (sa_cons (se_var 0) sa_nil)))))
    (ss_one (ss_ret (ee_of (sf_lc (own := [("at", 3), ("line", 4)]) rfl sc_gaps_of.nd (si_enum (pi_enum (by rfl) T.n_enumerate (sa_cons (se_var 1) sa_nil))) (blkOk_by (N := ["rows", "table", "part", "at", "line"]) (sc := defScope s_gaps_of) (by decide +kernel)) (fun _ _ _ _ _ => (sg_tup rfl rfl (sgs_cons (sg_name 3 sc_gaps_of.nd) (sgs_cons (sg_name 4 sc_gaps_of.nd) sgs_nil)))) (fun _ _ _ _ _ => sts_nil) (fun _ _ _ _ _ => (ee_of (sf_lc (own := [("part", 2)]) rfl sc_gaps_of.nd (si_seq rfl (se_var 4)) (blkOk_by (by kernel_rfl)) (fun _ _ _ _ _ => (sg_name 2 sc_gaps_of.nd)) (fun _ _ _ _ _ => sts_nil) (fun _ _ _ _ _ => (se_call (pe_c c_minus hr (by decide) (by rfl) (sa_cons (se_var 2) (sa_cons (se_ix rfl (se_varB 4) (se_varB 3)) sa_nil))))) (by decide)))) (by decide))))))
abbrev s_straight_of : Stmt := topS 44
theorem sc_straight_of : FnScope ["rows"] ["rows"] (defScope s_straight_of) := ⟨rfl, rfl, rfl, by decide +kernel, rfl, by decide +kernel, by decide +kernel⟩
theorem ok_straight_of (T : Tx K mg A) (c_kept_differences : Cal P w K mg base 4 "kept_differences" (spP K (f_kept_differences A)) []) (c_gaps_of : Cal P w K mg base 6 "gaps_of" (spP K f_gaps_of) []) {f : Addr} {fd : FuncData} (F : Fun K "straight_of" "straight_of" s_straight_of f fd) : FnOk P w K mg base CX0 7 f fd ["rows"] (spP K (f_straight_of A)) :=
  fn_pure F sc_straight_of fun H0 F0 R cdv B outer s H E hr =>
  (ss_one (ss_ret (se_call (pe_c c_kept_differences hr (by decide) (by rfl) (sa_cons (se_call (pe_c c_gaps_of hr (by decide) (by rfl) (sa_cons (se_var 0) sa_nil))) sa_nil)))))
abbrev s_straight_paper : Stmt := topS 45
theorem sc_straight_paper : FnScope ["budgets"] ["budgets"] (defScope s_straight_paper) := ⟨rfl, rfl, rfl, by decide +kernel, rfl, by decide +kernel, by decide +kernel⟩
theorem ok_straight_paper (T : Tx K mg A) (c_need_budgets : Cal P w K mg base 7 "need_budgets" (spP K f_need_budgets) []) (c_straight_of : Cal P w K mg base 7 "straight_of" (spP K (f_straight_of A)) []) {f : Addr} {fd : FuncData} (F : Fun K "straight_paper" "straight_paper" s_straight_paper f fd) : FnOk P w K mg base CX0 8 f fd ["budgets"] (spP K (f_straight_paper A)) :=
  fn_pure F sc_straight_paper fun H0 F0 R cdv B outer s H E hr =>
  (ss_cons (ss_expr (ps_expr (se_call (pe_c c_need_budgets hr (by decide) (by rfl) (sa_cons (se_var 0) sa_nil)))))
    (ss_one (ss_ret (se_call (pe_c c_straight_of hr (by decide) (by rfl) (sa_cons (se_ix rfl (se_varB 0) (eb_of se_int)) sa_nil))))))
abbrev s_law_sum : Stmt := topS 62
theorem sc_law_sum : FnScope ["some", "found", "each"] ["some"] (defScope s_law_sum) := ⟨rfl, rfl, rfl, by decide +kernel, rfl, by decide +kernel, by decide +kernel⟩
theorem ok_law_sum (T : Tx K mg A) (c_law_plus : Cal P w K mg base 2 "_law_plus" (spP K f_law_plus) []) {f : Addr} {fd : FuncData} (F : Fun K "_law_sum" "_law_sum" s_law_sum f fd) : FnOk P w K mg base CX0 3 f fd ["some"] (spP K f_law_sum) :=
  fn_pure F sc_law_sum fun H0 F0 R cdv B outer s H E hr =>
  (ss_cons (ss_set (ps_set (i := 1) sc_law_sum.nd rfl (.inl rfl) (se_tup (sa_cons se_int (sa_cons se_int sa_nil)))))
    (ss_cons (ss_for (ps_for PassesOwn.never rfl (si_seq rfl (se_var 0)) (sg_name 2 sc_law_sum.nd) (ss_one (ss_set (ps_set (i := 1) sc_law_sum.nd rfl (.inl rfl) (se_call (pe_c c_law_plus hr (by decide) (by rfl) (sa_cons (se_var 1) (sa_cons (se_var 2) sa_nil)))))))))
    (ss_one (ss_ret (se_var 1)))))
abbrev s_law_times : Stmt := topS 59
theorem sc_law_times : FnScope ["one", "other"] ["one", "other"] (defScope s_law_times) := ⟨rfl, rfl, rfl, by decide +kernel, rfl, by decide +kernel, by decide +kernel⟩
theorem ok_law_times (T : Tx K mg A) (c_law_q : Cal P w K mg base 1 "_law_q" (spP K f_law_q) []) {f : Addr} {fd : FuncData} (F : Fun K "_law_times" "_law_times" s_law_times f fd) : FnOk P w K mg base CX0 2 f fd ["one", "other"] (spP K f_law_times) :=
  fn_pure F sc_law_times fun H0 F0 R cdv B outer s H E hr =>
  (ss_one (ss_ret (se_call (pe_c c_law_q hr (by decide) (by rfl) (sa_cons (se_mulI (eb_of (se_ix rfl (se_varB 0) (eb_of se_int))) (eb_of (se_ix rfl (se_varB 1) (eb_of se_int)))) (sa_cons (se_mulI (eb_of (se_ix rfl (se_varB 0) (eb_of se_int))) (eb_of (se_ix rfl (se_varB 1) (eb_of se_int)))) sa_nil))))))
abbrev s_law_dot : Stmt := topS 63
theorem sc_law_dot : FnScope ["one", "other", "left", "right"] ["one", "other"] (defScope s_law_dot) := ⟨rfl, rfl, rfl, by decide +kernel, rfl, by decide +kernel, by decide +kernel⟩
theorem ok_law_dot (T : Tx K mg A) (c_law_sum : Cal P w K mg base 3 "_law_sum" (spP K f_law_sum) []) (c_law_times : Cal P w K mg base 2 "_law_times" (spP K f_law_times) []) {f : Addr} {fd : FuncData} (F : Fun K "_law_dot" "_law_dot" s_law_dot f fd) : FnOk P w K mg base CX0 4 f fd ["one", "other"] (spP K f_law_dot) :=
  fn_pure F sc_law_dot fun H0 F0 R cdv B outer s H E hr =>
  (ss_one (ss_ret (se_call (pe_c c_law_sum hr (by decide) (by rfl) (sa_cons (ee_of (sf_lc (own := [("left", 2), ("right", 3)]) rfl sc_law_dot.nd (si_zip2 rfl (pi_zip2 (by rfl) T.n_zip (sa_cons (se_var 0) (sa_cons (se_var 1) sa_nil)))) (blkOk_by (N := ["one", "other", "left", "right"]) (sc := defScope s_law_dot) (by decide +kernel)) (fun _ _ _ _ _ => (sg_tup rfl rfl (sgs_cons (sg_name 2 sc_law_dot.nd) (sgs_cons (sg_name 3 sc_law_dot.nd) sgs_nil)))) (fun _ _ _ _ _ => sts_nil) (fun _ _ _ _ _ => (se_call (pe_c c_law_times hr (by decide) (by rfl) (sa_cons (se_var 2) (sa_cons (se_var 3) sa_nil))))) (by decide))) sa_nil)))))
abbrev s_law_bu_costs : Stmt := topS 69
theorem sc_law_bu_costs : FnScope ["rows", "prices", "own", "others", "bundle"] ["rows"] (defScope s_law_bu_costs) := ⟨rfl, rfl, rfl, by decide +kernel, rfl, by decide +kernel, by decide +kernel⟩
theorem ok_law_bu_costs (T : Tx K mg A) (c_law_dot : Cal P w K mg base 4 "_law_dot" (spP K f_law_dot) []) {f : Addr} {fd : FuncData} (F : Fun K "_law_bu_costs" "_law_bu_costs" s_law_bu_costs f fd) : FnOk P w K mg base CX0 5 f fd ["rows"] (spP K f_law_bu_costs) :=
  fn_pure F sc_law_bu_costs fun H0 F0 R cdv B outer s H E hr =>
  (ss_one (ss_ret (ee_of (sf_lc (own := [("prices", 1), ("own", 2)]) rfl sc_law_bu_costs.nd (si_seq rfl (se_var 0)) (blkOk_by (N := ["rows", "prices", "own", "others", "bundle"]) (sc := defScope s_law_bu_costs) (by decide +kernel)) (fun _ _ _ _ _ => (sg_tup rfl rfl (sgs_cons (sg_name 1 sc_law_bu_costs.nd) (sgs_cons (sg_name 2 sc_law_bu_costs.nd) sgs_nil)))) (fun _ _ _ _ _ => sts_nil) (fun _ _ _ _ _ => (ee_of (sf_lc (own := [("others", 3), ("bundle", 4)]) rfl sc_law_bu_costs.nd (si_seq rfl (se_var 0)) (blkOk_by (by kernel_rfl)) (fun _ _ _ _ _ => (sg_tup rfl rfl (sgs_cons (sg_name 3 sc_law_bu_costs.nd) (sgs_cons (sg_name 4 sc_law_bu_costs.nd) sgs_nil)))) (fun _ _ _ _ _ => sts_nil) (fun _ _ _ _ _ => (se_call (pe_c c_law_dot hr (by decide) (by rfl) (sa_cons (se_var 1) (sa_cons (se_var 4) sa_nil))))) (by decide)))) (by decide)))))
abbrev s_law_less : Stmt := topS 61
theorem sc_law_less : FnScope ["one", "other"] ["one", "other"] (defScope s_law_less) := ⟨rfl, rfl, rfl, by decide +kernel, rfl, by decide +kernel, by decide +kernel⟩
theorem ok_law_less (T : Tx K mg A) {f : Addr} {fd : FuncData} (F : Fun K "_law_less" "_law_less" s_law_less f fd) : FnOk P w K mg base CX0 1 f fd ["one", "other"] (spP K f_law_less) :=
  fn_pure F sc_law_less fun H0 F0 R cdv B outer s H E hr =>
  (ss_one (ss_ret (se_lt (eb_of (se_mulI (eb_of (se_ix rfl (se_varB 0) (eb_of se_int))) (eb_of (se_ix rfl (se_varB 1) (eb_of se_int))))) (eb_of (se_mulI (eb_of (se_ix rfl (se_varB 1) (eb_of se_int))) (eb_of (se_ix rfl (se_varB 0) (eb_of se_int))))))))
abbrev s_law_bu_pairs : Stmt := topS 71
theorem sc_law_bu_pairs : FnScope ["rows", "strictly", "one", "table", "found", "other"] ["rows", "strictly"] (defScope s_law_bu_pairs) := ⟨rfl, rfl, rfl, by decide +kernel, rfl, by decide +kernel, by decide +kernel⟩
theorem ok_law_bu_pairs (T : Tx K mg A) (c_law_bu_costs : Cal P w K mg base 5 "_law_bu_costs" (spP K f_law_bu_costs) []) (c_law_less : Cal P w K mg base 1 "_law_less" (spP K f_law_less) []) {f : Addr} {fd : FuncData} (F : Fun K "_law_bu_pairs" "_law_bu_pairs" s_law_bu_pairs f fd) : FnOk P w K mg base CX0 6 f fd ["rows", "strictly"] (spP K f_law_bu_pairs) :=
  fn_pure F sc_law_bu_pairs fun H0 F0 R cdv B outer s H E hr =>
  (ss_cons (ss_par2 (k1 := false) (k2 := true) (ps_par (i := 3) (j := 4) rfl sc_law_bu_pairs.nd rfl rfl (by decide) rfl rfl (pa_cons (se_call (pe_c c_law_bu_costs hr (by decide) (by rfl) (sa_cons (se_var 0) sa_nil))) (pa_cons (sf_lst sa_nil) pa_nil)) (by rfl)))
    (ss_cons (ss_for (ps_for PassesOwn.never rfl (si_rg1 (pi_range1 (by rfl) T.n_range (sb_cons (eb_of (se_cb (c_lenA.or (c_lenK.or c_lenS)) (pe_callB (c_len rfl) (by rfl) T.n_len boot_len (sb_cons (se_varB 0) sb_nil)))) sb_nil))) (sg_name 2 sc_law_bu_pairs.nd) (ss_one (ss_for (ps_for PassesOwn.never rfl (si_rg1 (pi_range1 (by rfl) T.n_range (sb_cons (eb_of (se_cb (c_lenA.or (c_lenK.or c_lenS)) (pe_callB (c_len rfl) (by rfl) T.n_len boot_len (sb_cons (se_varB 0) sb_nil)))) sb_nil))) (sg_name 5 sc_law_bu_pairs.nd) (ss_one (ss_if (L2.PW.pt (sw_and (st_ne rfl (u64 hr) (se_varB 2) (se_varB 5)) (sw_and1 (L2.PW.pt (sw_or (st_val (se_call (pe_c c_law_less hr (by decide) (by rfl) (sa_cons (se_ix rfl (eb_of (se_ix rfl (se_varB 3) (se_varB 2))) (se_varB 5)) (sa_cons (se_ix rfl (eb_of (se_ix rfl (se_varB 3) (se_varB 2))) (se_varB 2)) sa_nil))))) (sw_or1 (L2.PW.pt (sw_and (st_not (st_val (se_var 1))) (sw_and1 (st_eq rfl (u64 hr) (eb_of (se_ix rfl (eb_of (se_ix rfl (se_varB 3) (se_varB 2))) (se_varB 5))) (eb_of (se_ix rfl (eb_of (se_ix rfl (se_varB 3) (se_varB 2))) (se_varB 2))))))))))))) (ss_one (ss_app (ps_expr (pe_bm PySem.F.plainAttrs_list PySem.F.slot_list_append PySem.F.type_list_append mt_append (pv 4) (pa_cons (se_tup (sa_cons (se_var 2) (sa_cons (se_var 5) sa_nil))) pa_nil))))) ss_nil)))))))
    (ss_one (ss_frz 4 (ss_ret (se_var 4))))))
abbrev s_law_bu_has_ring : Stmt := topS 72
theorem sc_law_bu_has_ring : FnScope ["rows", "step", "lap", "pairs", "many", "links", "more", "one", "near", "other", "begin", "far"] ["rows"] (defScope s_law_bu_has_ring) := ⟨rfl, rfl, rfl, by decide +kernel, rfl, by decide +kernel, by decide +kernel⟩
theorem ok_law_bu_has_ring (T : Tx K mg A) (c_law_bu_pairs : Cal P w K mg base 6 "_law_bu_pairs" (spP K f_law_bu_pairs) []) {f : Addr} {fd : FuncData} (F : Fun K "_law_bu_has_ring" "_law_bu_has_ring" s_law_bu_has_ring f fd) : FnOk P w K mg base CX0 7 f fd ["rows"] (spP K f_law_bu_has_ring) :=
  fn_pure F sc_law_bu_has_ring fun H0 F0 R cdv B outer s H E hr =>
  (ss_cons (ss_parT3 (k1 := false) (k2 := false) (k3 := true) rfl (ps_asg (pe_tup (pa_cons (se_call (pe_c c_law_bu_pairs hr (by decide) (by rfl) (sa_cons (se_var 0) (sa_cons se_bl sa_nil)))) (pa_cons (se_cb (c_lenA.or (c_lenK.or c_lenS)) (pe_callB (c_len rfl) (by rfl) T.n_len boot_len (sb_cons (se_varB 0) sb_nil))) (pa_cons sf_newT pa_nil)))) (pg_tup rfl (pgs_cons (pg_name (i := 3) sc_law_bu_has_ring.nd rfl (.inl rfl)) (pgs_cons (pg_name (i := 4) sc_law_bu_has_ring.nd rfl (.inl rfl)) (pgs_cons (pg_name (i := 5) sc_law_bu_has_ring.nd rfl (.inr rfl)) pgs_nil))))))
    (ss_cons (ss_for (ps_for PassesOwn.never rfl (si_seq rfl (ee_of (sf_addL (se_varB 3) (eb_of (ee_of (sf_lc (own := [("one", 7)]) rfl sc_law_bu_has_ring.nd (si_rg1 (pi_range1 (by rfl) T.n_range (sb_cons (se_varB 4) sb_nil))) (blkOk_by (N := ["rows", "step", "lap", "pairs", "many", "links", "more", "one", "near", "other", "begin", "far"]) (sc := defScope s_law_bu_has_ring) (by decide +kernel)) (fun _ _ _ _ _ => (sg_name 7 sc_law_bu_has_ring.nd)) (fun _ _ _ _ _ => sts_nil) (fun _ _ _ _ _ => (se_tup (sa_cons (se_var 7) (sa_cons (se_var 7) sa_nil)))) (by decide))))))) (sg_name 1 sc_law_bu_has_ring.nd) (ss_one (ss_put (ps_dput (hu_of hr) (pv 5) (se_var 1) se_bl (by rfl))))))
    (ss_cons (ss_for (ps_for PassesOwn.never rfl (si_rg1 (pi_range1 (by rfl) T.n_range (sb_cons (se_varB 4) sb_nil))) (sg_name 2 sc_law_bu_has_ring.nd) (ss_cons (ss_set (ps_set (i := 6) sc_law_bu_has_ring.nd rfl (.inl rfl) (ee_of (sf_lst sa_nil))))
    (ss_cons (ss_for (ps_for PassesOwn.never rfl (si_seq rfl (ee_of (sf_cb c_sortDT (pe_callB (call_sortedDT rfl) (by rfl) T.n_sorted (by decide +kernel) (sb_cons (se_varB 5) sb_nil))))) (sg_tup rfl rfl (sgs_cons (sg_name 7 sc_law_bu_has_ring.nd) (sgs_cons (sg_name 8 sc_law_bu_has_ring.nd) sgs_nil))) (ss_one (ss_set (ps_set (i := 6) sc_law_bu_has_ring.nd rfl (.inl rfl) (ee_of (sf_addL (se_varB 6) (eb_of (ee_of (sf_lc (own := [("begin", 10), ("far", 11)]) rfl sc_law_bu_has_ring.nd (si_seq rfl (se_var 3)) (blkOk_by (N := ["rows", "step", "lap", "pairs", "many", "links", "more", "one", "near", "other", "begin", "far"]) (sc := defScope s_law_bu_has_ring) (by decide +kernel)) (fun _ _ _ _ _ => (sg_tup rfl rfl (sgs_cons (sg_name 10 sc_law_bu_has_ring.nd) (sgs_cons (sg_name 11 sc_law_bu_has_ring.nd) sgs_nil)))) (fun _ _ _ _ _ => (sts_one (st_eq rfl (u64 hr) (se_varB 10) (se_varB 8)))) (fun _ _ _ _ _ => (se_tup (sa_cons (se_var 7) (sa_cons (se_var 11) sa_nil)))) (by decide)))))))))))
    (ss_one (ss_for (ps_for PassesOwn.never rfl (si_seq rfl (se_var 6)) (sg_name 1 sc_law_bu_has_ring.nd) (ss_one (ss_put (ps_dput (hu_of hr) (pv 5) (se_var 1) se_bl (by rfl)))))))))))
    (ss_one (ss_ret (se_ne rfl (u64 hr) (eb_of (ee_of (sf_lc (own := [("one", 7), ("other", 9)]) rfl sc_law_bu_has_ring.nd (si_seq rfl (se_call (pe_c c_law_bu_pairs hr (by decide) (by rfl) (sa_cons (se_var 0) (sa_cons se_bl sa_nil))))) (blkOk_by (N := ["rows", "step", "lap", "pairs", "many", "links", "more", "one", "near", "other", "begin", "far"]) (sc := defScope s_law_bu_has_ring) (by decide +kernel)) (fun _ _ _ _ _ => (sg_tup rfl rfl (sgs_cons (sg_name 7 sc_law_bu_has_ring.nd) (sgs_cons (sg_name 9 sc_law_bu_has_ring.nd) sgs_nil)))) (fun _ _ _ _ _ => (sts_one (st_din (pt_cmp (pc_din (hu_of hr) (eb_of (se_tup (sa_cons (se_var 9) (sa_cons (se_var 7) sa_nil)))) (se_varB 5)))))) (fun _ _ _ _ _ => se_int) (by decide)))) (eb_of (ee_of (sf_lst sa_nil)))))))))
abbrev s_law_pick : Stmt := topS 53
theorem sc_law_pick : FnScope ["state", "some"] ["state", "some"] (defScope s_law_pick) := ⟨rfl, rfl, rfl, by decide +kernel, rfl, by decide +kernel, by decide +kernel⟩
theorem ok_law_pick (T : Tx K mg A) (c_law_draw : Cal P w K mg base 2 "_law_draw" (spR K f_law_draw) []) {f : Addr} {fd : FuncData} (F : Fun K "_law_pick" "_law_pick" s_law_pick f fd) : FnOk P w K mg base CX0 3 f fd ["state", "some"] (spR K f_law_pick) :=
  fn_rng F sc_law_pick fun H0 F0 R cdv B outer s H E hr =>
  (ss_one (ss_ret (se_ix rfl (se_varB 1) (eb_of (se_callR (pe_c c_law_draw hr (by decide) (by rfl) (sa_cons (se_var 0) (sa_cons (se_cb (c_lenA.or (c_lenK.or c_lenS)) (pe_callB (c_len rfl) (by rfl) T.n_len boot_len (sb_cons (se_varB 1) sb_nil))) sa_nil))))))))
abbrev s_law_bu_bundle : Stmt := topS 66
theorem sc_law_bu_bundle : FnScope ["draws", "goods", "size", "found", "good", "part"] ["draws", "goods", "size"] (defScope s_law_bu_bundle) := ⟨rfl, rfl, rfl, by decide +kernel, rfl, by decide +kernel, by decide +kernel⟩
theorem ok_law_bu_bundle (T : Tx K mg A) (c_law_pick : Cal P w K mg base 3 "_law_pick" (spR K f_law_pick) []) (c_law_q : Cal P w K mg base 1 "_law_q" (spP K f_law_q) []) (c_law_draw : Cal P w K mg base 2 "_law_draw" (spR K f_law_draw) []) {f : Addr} {fd : FuncData} (F : Fun K "_law_bu_bundle" "_law_bu_bundle" s_law_bu_bundle f fd) : FnOk P w K mg base CX0 4 f fd ["draws", "goods", "size"] (spR K f_law_bu_bundle) :=
  fn_rng F sc_law_bu_bundle fun H0 F0 R cdv B outer s H E hr =>
  (ss_cons (ss_setLcF (i := 3) (own := [("good", 4)]) rfl sc_law_bu_bundle.nd (si_rg1 (pi_range1 (by rfl) T.n_range (sb_cons (se_varB 1) sb_nil))) (blkOk_by (N := ["draws", "goods", "size", "found", "good", "part"]) (sc := defScope s_law_bu_bundle) (by decide +kernel)) (fun _ _ _ _ _ => (sg_name 4 sc_law_bu_bundle.nd)) (fun _ _ _ _ _ => sts_nil) (fun _ _ _ _ _ => (se_callR (pe_c c_law_pick hr (by decide) (by rfl) (sa_cons (se_var 0) (sa_cons (ee_of (sf_lst (sa_cons (se_tup (sa_cons se_int (sa_cons se_int sa_nil))) (sa_cons (se_tup (sa_cons (se_callR (pe_c c_law_draw hr (by decide) (by rfl) (sa_cons (se_var 0) (sa_cons (se_add rfl (se_varB 2) (eb_of se_int)) sa_nil)))) (sa_cons se_int sa_nil))) (sa_cons (se_call (pe_c c_law_q hr (by decide) (by rfl) (sa_cons (se_callR (pe_c c_law_draw hr (by decide) (by rfl) (sa_cons (se_var 0) (sa_cons (se_add rfl (se_varB 2) (eb_of se_int)) sa_nil)))) (sa_cons (se_add rfl (eb_of se_int) (eb_of (se_callR (pe_c c_law_draw hr (by decide) (by rfl) (sa_cons (se_var 0) (sa_cons se_int sa_nil)))))) sa_nil)))) sa_nil))))) sa_nil))))) (by decide))
    (ss_cons (ss_if (st_eq rfl (u64 hr) (eb_of (ee_of (sf_lcC (own := [("part", 5)]) rfl sc_law_bu_bundle.nd (sc_own rfl (pv 3)) (blkOk_by (N := ["draws", "goods", "size", "found", "good", "part"]) (sc := defScope s_law_bu_bundle) (by decide +kernel)) (fun _ _ _ _ _ => (sg_name 5 sc_law_bu_bundle.nd)) (fun _ _ _ _ _ => (sts_one (st_ne rfl (u64 hr) (se_varB 5) (eb_of (se_tup (sa_cons se_int (sa_cons se_int sa_nil))))))) (fun _ _ _ _ _ => se_int) (by decide)))) (eb_of (ee_of (sf_lst sa_nil)))) (ss_one (ss_ix (ps_asg (se_tup (sa_cons se_int (sa_cons se_int sa_nil))) (pg_sub (pv 3) (se_callR (pe_c c_law_draw hr (by decide) (by rfl) (sa_cons (se_var 0) (sa_cons (se_var 1) sa_nil)))) set_list)))) ss_nil)
    (ss_one (ss_ret (se_cb (c_tuple) (pe_callTy call_tuple_of (by rfl) T.n_tuple (by decide +kernel) (sb_cons (se_varB 3) sb_nil)))))))
abbrev s_law_minus : Stmt := topS 58
theorem sc_law_minus : FnScope ["one", "other"] ["one", "other"] (defScope s_law_minus) := ⟨rfl, rfl, rfl, by decide +kernel, rfl, by decide +kernel, by decide +kernel⟩
theorem ok_law_minus (T : Tx K mg A) (c_law_q : Cal P w K mg base 1 "_law_q" (spP K f_law_q) []) {f : Addr} {fd : FuncData} (F : Fun K "_law_minus" "_law_minus" s_law_minus f fd) : FnOk P w K mg base CX0 2 f fd ["one", "other"] (spP K f_law_minus) :=
  fn_pure F sc_law_minus fun H0 F0 R cdv B outer s H E hr =>
  (ss_one (ss_ret (se_call (pe_c c_law_q hr (by decide) (by rfl) (sa_cons (se_sub (eb_of (se_mulI (eb_of (se_ix rfl (se_varB 0) (eb_of se_int))) (eb_of (se_ix rfl (se_varB 1) (eb_of se_int))))) (eb_of (se_mulI (eb_of (se_ix rfl (se_varB 1) (eb_of se_int))) (eb_of (se_ix rfl (se_varB 0) (eb_of se_int)))))) (sa_cons (se_mulI (eb_of (se_ix rfl (se_varB 0) (eb_of se_int))) (eb_of (se_ix rfl (se_varB 1) (eb_of se_int)))) sa_nil))))))
abbrev s_law_least : Stmt := topS 77
theorem sc_law_least : FnScope ["rows", "told", "bundle", "found", "number", "here", "prices", "own"] ["rows", "told", "bundle"] (defScope s_law_least) := ⟨rfl, rfl, rfl, by decide +kernel, rfl, by decide +kernel, by decide +kernel⟩
theorem ok_law_least (T : Tx K mg A) (c_law_plus : Cal P w K mg base 2 "_law_plus" (spP K f_law_plus) []) (c_law_minus : Cal P w K mg base 2 "_law_minus" (spP K f_law_minus) []) (c_law_dot : Cal P w K mg base 4 "_law_dot" (spP K f_law_dot) []) (c_law_less : Cal P w K mg base 1 "_law_less" (spP K f_law_less) []) {f : Addr} {fd : FuncData} (F : Fun K "_law_least" "_law_least" s_law_least f fd) : FnOk P w K mg base CX0 5 f fd ["rows", "told", "bundle"] (spP K f_law_least) :=
  fn_pure F sc_law_least fun H0 F0 R cdv B outer s H E hr =>
  (ss_cons (ss_set (ps_set (i := 3) sc_law_least.nd rfl (.inl rfl) se_non))
    (ss_cons (ss_for (ps_for PassesOwn.never rfl (si_zip2 rfl (pi_zip2 (by rfl) T.n_zip (sa_cons (se_var 0) (sa_cons (se_var 1) sa_nil)))) (sg_tup rfl rfl (sgs_cons (sg_tup rfl rfl (sgs_cons (sg_name 6 sc_law_least.nd) (sgs_cons (sg_name 7 sc_law_least.nd) sgs_nil))) (sgs_cons (sg_name 4 sc_law_least.nd) sgs_nil))) (ss_cons (ss_set (ps_set (i := 5) sc_law_least.nd rfl (.inl rfl) (se_call (pe_c c_law_plus hr (by decide) (by rfl) (sa_cons (se_var 4) (sa_cons (se_call (pe_c c_law_minus hr (by decide) (by rfl) (sa_cons (se_call (pe_c c_law_dot hr (by decide) (by rfl) (sa_cons (se_var 6) (sa_cons (se_var 2) sa_nil)))) (sa_cons (se_call (pe_c c_law_dot hr (by decide) (by rfl) (sa_cons (se_var 6) (sa_cons (se_var 7) sa_nil)))) sa_nil)))) sa_nil))))))
    (ss_one (ss_set (ps_set (i := 3) sc_law_least.nd rfl (.inl rfl) (se_ite (L2.PW.pt (sw_or (st_is (se_varB 3) (eb_of se_non)) (sw_or1 (st_val (se_call (pe_c c_law_less hr (by decide) (by rfl) (sa_cons (se_var 5) (sa_cons (se_var 3) sa_nil)))))))) (se_var 5) (se_var 3))))))))
    (ss_one (ss_ret (se_var 3)))))
abbrev s_law_bu_prices : Stmt := topS 65
theorem sc_law_bu_prices : FnScope ["draws", "goods", "size", "good"] ["draws", "goods", "size"] (defScope s_law_bu_prices) := ⟨rfl, rfl, rfl, by decide +kernel, rfl, by decide +kernel, by decide +kernel⟩
theorem ok_law_bu_prices (T : Tx K mg A) (c_law_q : Cal P w K mg base 1 "_law_q" (spP K f_law_q) []) (c_law_draw : Cal P w K mg base 2 "_law_draw" (spR K f_law_draw) []) (c_law_pick : Cal P w K mg base 3 "_law_pick" (spR K f_law_pick) []) {f : Addr} {fd : FuncData} (F : Fun K "_law_bu_prices" "_law_bu_prices" s_law_bu_prices f fd) : FnOk P w K mg base CX0 4 f fd ["draws", "goods", "size"] (spR K f_law_bu_prices) :=
  fn_rng F sc_law_bu_prices fun H0 F0 R cdv B outer s H E hr =>
  (ss_one (ss_ret (se_cb (c_tuple) (pe_callTy call_tuple_of (by rfl) T.n_tuple (by decide +kernel) (sb_cons (eb_of (ee_of (sf_lc (own := [("good", 3)]) rfl sc_law_bu_prices.nd (si_rg1 (pi_range1 (by rfl) T.n_range (sb_cons (se_varB 1) sb_nil))) (blkOk_by (N := ["draws", "goods", "size", "good"]) (sc := defScope s_law_bu_prices) (by decide +kernel)) (fun _ _ _ _ _ => (sg_name 3 sc_law_bu_prices.nd)) (fun _ _ _ _ _ => sts_nil) (fun _ _ _ _ _ => (se_call (pe_c c_law_q hr (by decide) (by rfl) (sa_cons (se_add rfl (eb_of se_int) (eb_of (se_callR (pe_c c_law_draw hr (by decide) (by rfl) (sa_cons (se_var 0) (sa_cons (se_var 2) sa_nil)))))) (sa_cons (se_add rfl (eb_of se_int) (eb_of (se_callR (pe_c c_law_draw hr (by decide) (by rfl) (sa_cons (se_var 0) (sa_cons (se_callR (pe_c c_law_pick hr (by decide) (by rfl) (sa_cons (se_var 0) (sa_cons (ee_of (sf_lst (sa_cons se_int (sa_cons se_int (sa_cons se_int sa_nil))))) sa_nil)))) sa_nil)))))) sa_nil))))) (by decide)))) sb_nil)))))
abbrev s_law_bu_budgets : Stmt := topS 67
theorem sc_law_bu_budgets : FnScope ["draws", "rows", "goods", "shares", "lap", "way", "size", "found", "money", "good", "prices", "bundle", "share", "price"] ["draws", "rows", "goods"] (defScope s_law_bu_budgets) := ⟨rfl, rfl, rfl, by decide +kernel, rfl, by decide +kernel, by decide +kernel⟩
theorem ok_law_bu_budgets (T : Tx K mg A) (c_law_draw : Cal P w K mg base 2 "_law_draw" (spR K f_law_draw) []) (c_law_pick : Cal P w K mg base 3 "_law_pick" (spR K f_law_pick) []) (c_law_bu_prices : Cal P w K mg base 4 "_law_bu_prices" (spR K f_law_bu_prices) []) (c_law_bu_bundle : Cal P w K mg base 4 "_law_bu_bundle" (spR K f_law_bu_bundle) []) (c_law_q : Cal P w K mg base 1 "_law_q" (spP K f_law_q) []) (c_law_over : Cal P w K mg base 2 "_law_over" (spP K f_law_over) []) (c_law_times : Cal P w K mg base 2 "_law_times" (spP K f_law_times) []) {f : Addr} {fd : FuncData} (F : Fun K "_law_bu_budgets" "_law_bu_budgets" s_law_bu_budgets f fd) : FnOk P w K mg base CX0 5 f fd ["draws", "rows", "goods"] (spR K f_law_bu_budgets) :=
  fn_rng F sc_law_bu_budgets fun H0 F0 R cdv B outer s H E hr =>
  (ss_cons (ss_par3 (k1 := false) (k2 := false) (k3 := true) (ps_par3 (i := 5) (j := 6) (l := 7) rfl sc_law_bu_budgets.nd rfl rfl rfl (by decide) (by decide) (by decide) rfl rfl rfl (pa_cons (se_callR (pe_c c_law_draw hr (by decide) (by rfl) (sa_cons (se_var 0) (sa_cons se_int sa_nil)))) (pa_cons (se_callR (pe_c c_law_pick hr (by decide) (by rfl) (sa_cons (se_var 0) (sa_cons (ee_of (sf_lst (sa_cons se_int (sa_cons se_int (sa_cons se_int sa_nil))))) sa_nil)))) (pa_cons (sf_lst sa_nil) pa_nil))) (by rfl)))
    (ss_cons (ss_set (ps_set (i := 3) sc_law_bu_budgets.nd rfl (.inr rfl) (ee_of (sf_lc (own := [("good", 9)]) rfl sc_law_bu_budgets.nd (si_rg1 (pi_range1 (by rfl) T.n_range (sb_cons (se_varB 2) sb_nil))) (blkOk_by (N := ["draws", "rows", "goods", "shares", "lap", "way", "size", "found", "money", "good", "prices", "bundle", "share", "price"]) (sc := defScope s_law_bu_budgets) (by decide +kernel)) (fun _ _ _ _ _ => (sg_name 9 sc_law_bu_budgets.nd)) (fun _ _ _ _ _ => sts_nil) (fun _ _ _ _ _ => (se_add rfl (eb_of se_int) (eb_of (se_callR (pe_c c_law_draw hr (by decide) (by rfl) (sa_cons (se_var 0) (sa_cons se_int sa_nil))))))) (by decide)))))
    (ss_cons (ss_for (ps_for PassesOwn.never rfl (si_rg1 (pi_range1 (by rfl) T.n_range (sb_cons (eb_of (se_add rfl (eb_of se_int) (eb_of (se_callR (pe_c c_law_draw hr (by decide) (by rfl) (sa_cons (se_var 0) (sa_cons (se_var 1) sa_nil))))))) sb_nil))) (sg_name 4 sc_law_bu_budgets.nd) (ss_cons (ss_par2 (k1 := false) (k2 := false) (ps_par (i := 10) (j := 11) rfl sc_law_bu_budgets.nd rfl rfl (by decide) rfl rfl (pa_cons (se_callR (pe_c c_law_bu_prices hr (by decide) (by rfl) (sa_cons (se_var 0) (sa_cons (se_var 2) (sa_cons (se_var 6) sa_nil))))) (pa_cons (se_callR (pe_c c_law_bu_bundle hr (by decide) (by rfl) (sa_cons (se_var 0) (sa_cons (se_var 2) (sa_cons (se_var 6) sa_nil))))) pa_nil)) (by rfl)))
    (ss_cons (ss_set (ps_set (i := 8) sc_law_bu_budgets.nd rfl (.inr rfl) (se_call (pe_c c_law_q hr (by decide) (by rfl) (sa_cons (se_add rfl (eb_of se_int) (eb_of (se_callR (pe_c c_law_draw hr (by decide) (by rfl) (sa_cons (se_var 0) (sa_cons se_int sa_nil)))))) (sa_cons (se_add rfl (eb_of se_int) (eb_of (se_callR (pe_c c_law_draw hr (by decide) (by rfl) (sa_cons (se_var 0) (sa_cons se_int sa_nil)))))) sa_nil))))))
    (ss_cons (ss_if (st_in rfl (u65 hr) (by rfl) (se_varB 5) (eb_of (ee_of (sf_lst (sa_cons se_int (sa_cons se_int sa_nil)))))) (ss_one (ss_set (ps_set (i := 11) sc_law_bu_budgets.nd rfl (.inl rfl) (se_cb (c_tuple) (pe_callTy call_tuple_of (by rfl) T.n_tuple (by decide +kernel) (sb_cons (eb_of (ee_of (sf_lc (own := [("share", 12), ("price", 13)]) rfl sc_law_bu_budgets.nd (si_zip2 rfl (pi_zip2 (by rfl) T.n_zip (sa_cons (se_var 3) (sa_cons (se_var 10) sa_nil)))) (blkOk_by (N := ["draws", "rows", "goods", "shares", "lap", "way", "size", "found", "money", "good", "prices", "bundle", "share", "price"]) (sc := defScope s_law_bu_budgets) (by decide +kernel)) (fun _ _ _ _ _ => (sg_tup rfl rfl (sgs_cons (sg_name 12 sc_law_bu_budgets.nd) (sgs_cons (sg_name 13 sc_law_bu_budgets.nd) sgs_nil)))) (fun _ _ _ _ _ => sts_nil) (fun _ _ _ _ _ => (se_call (pe_c c_law_over hr (by decide) (by rfl) (sa_cons (se_call (pe_c c_law_times hr (by decide) (by rfl) (sa_cons (se_var 8) (sa_cons (se_tup (sa_cons (se_var 12) (sa_cons (se_cb (c_sum) (pe_callB (cr_sum rfl) (by rfl) T.n_sum (by decide +kernel) (sb_cons (se_varB 3) sb_nil))) sa_nil))) sa_nil)))) (sa_cons (se_var 13) sa_nil))))) (by decide)))) sb_nil)))))) ss_nil)
    (ss_cons (ss_if (st_eq rfl (u64 hr) (se_varB 5) (eb_of se_int)) (ss_one (ss_set (ps_set (i := 11) sc_law_bu_budgets.nd rfl (.inl rfl) (se_cb (c_tuple) (pe_callTy call_tuple_of (by rfl) T.n_tuple (by decide +kernel) (sb_cons (eb_of (ee_of (sf_lc (own := [("share", 12)]) rfl sc_law_bu_budgets.nd (si_seq rfl (se_var 3)) (blkOk_by (N := ["draws", "rows", "goods", "shares", "lap", "way", "size", "found", "money", "good", "prices", "bundle", "share", "price"]) (sc := defScope s_law_bu_budgets) (by decide +kernel)) (fun _ _ _ _ _ => (sg_name 12 sc_law_bu_budgets.nd)) (fun _ _ _ _ _ => sts_nil) (fun _ _ _ _ _ => (se_call (pe_c c_law_times hr (by decide) (by rfl) (sa_cons (se_var 8) (sa_cons (se_tup (sa_cons (se_var 12) (sa_cons se_int sa_nil))) sa_nil))))) (by decide)))) sb_nil)))))) ss_nil)
    (ss_cons (ss_if (L2.PW.pt (sw_and (st_eq rfl (u64 hr) (se_varB 5) (eb_of se_int)) (sw_and1 (st_eq rfl (u64 hr) (eb_of (se_callR (pe_c c_law_draw hr (by decide) (by rfl) (sa_cons (se_var 0) (sa_cons se_int sa_nil))))) (eb_of se_int))))) (ss_one (ss_set (ps_set (i := 11) sc_law_bu_budgets.nd rfl (.inl rfl) (se_callR (pe_c c_law_bu_bundle hr (by decide) (by rfl) (sa_cons (se_var 0) (sa_cons (se_var 2) (sa_cons (se_var 6) sa_nil)))))))) ss_nil)
    (ss_cons (ss_if (L2.PW.pt (sw_and (st_ne rfl (u64 hr) (se_varB 7) (eb_of (ee_of (sf_lst sa_nil)))) (sw_and1 (st_eq rfl (u64 hr) (eb_of (se_callR (pe_c c_law_draw hr (by decide) (by rfl) (sa_cons (se_var 0) (sa_cons se_int sa_nil))))) (eb_of se_int))))) (ss_one (ss_set (ps_set (i := 10) sc_law_bu_budgets.nd rfl (.inl rfl) (se_ix rfl (eb_of (se_ix rfl (se_varB 7) (eb_of (se_neg (eb_of se_int))))) (eb_of se_int))))) ss_nil)
    (ss_cons (ss_if (L2.PW.pt (sw_and (st_ne rfl (u64 hr) (se_varB 7) (eb_of (ee_of (sf_lst sa_nil)))) (sw_and1 (st_eq rfl (u64 hr) (eb_of (se_callR (pe_c c_law_draw hr (by decide) (by rfl) (sa_cons (se_var 0) (sa_cons se_int sa_nil))))) (eb_of se_int))))) (ss_one (ss_set (ps_set (i := 11) sc_law_bu_budgets.nd rfl (.inl rfl) (se_ix rfl (eb_of (se_ix rfl (se_varB 7) (eb_of (se_neg (eb_of se_int))))) (eb_of se_int))))) ss_nil)
    (ss_one (ss_app (ps_expr (pe_bm PySem.F.plainAttrs_list PySem.F.slot_list_append PySem.F.type_list_append mt_append (pv 7) (pa_cons (se_tup (sa_cons (se_var 10) (sa_cons (se_var 11) sa_nil))) pa_nil))))))))))))))
    (ss_one (ss_ret (se_tup (sa_cons se_str (sa_cons (se_cb (c_tuple) (pe_callTy call_tuple_of (by rfl) T.n_tuple (by decide +kernel) (sb_cons (se_varB 7) sb_nil))) sa_nil))))))))
abbrev s_law_bu_drawn : Stmt := topS 68
theorem sc_law_bu_drawn : FnScope ["draws", "rows"] ["draws", "rows"] (defScope s_law_bu_drawn) := ⟨rfl, rfl, rfl, by decide +kernel, rfl, by decide +kernel, by decide +kernel⟩
theorem ok_law_bu_drawn (T : Tx K mg A) (c_law_bu_budgets : Cal P w K mg base 5 "_law_bu_budgets" (spR K f_law_bu_budgets) []) (c_law_pick : Cal P w K mg base 3 "_law_pick" (spR K f_law_pick) []) {f : Addr} {fd : FuncData} (F : Fun K "_law_bu_drawn" "_law_bu_drawn" s_law_bu_drawn f fd) : FnOk P w K mg base CX0 6 f fd ["draws", "rows"] (spR K f_law_bu_drawn) :=
  fn_rng F sc_law_bu_drawn fun H0 F0 R cdv B outer s H E hr =>
  (ss_one (ss_ret (se_callR (pe_c c_law_bu_budgets hr (by decide) (by rfl) (sa_cons (se_var 0) (sa_cons (se_var 1) (sa_cons (se_callR (pe_c c_law_pick hr (by decide) (by rfl) (sa_cons (se_var 0) (sa_cons (ee_of (sf_lst (sa_cons se_int (sa_cons se_int (sa_cons se_int (sa_cons se_int sa_nil)))))) sa_nil)))) sa_nil)))))))
abbrev s_law_is_truth : Stmt := topS 54
theorem sc_law_is_truth : FnScope ["found", "due"] ["found", "due"] (defScope s_law_is_truth) := ⟨rfl, rfl, rfl, by decide +kernel, rfl, by decide +kernel, by decide +kernel⟩
theorem ok_law_is_truth (T : Tx K mg A) {f : Addr} {fd : FuncData} (F : Fun K "_law_is_truth" "_law_is_truth" s_law_is_truth f fd) : FnOk P w K mg base CX0 1 f fd ["found", "due"] (spP K f_law_is_truth) :=
  fn_pure F sc_law_is_truth fun H0 F0 R cdv B outer s H E hr =>
  (ss_one (ss_ret (se_ite (st_val (se_var 1)) (se_is (se_varB 0) (eb_of se_bl)) (se_is (se_varB 0) (eb_of se_bl)))))
abbrev s_law_same : Stmt := topS 55
theorem sc_law_same : FnScope ["found", "due", "waiting", "one", "other", "alike", "key", "left", "right"] ["found", "due"] (defScope s_law_same) := ⟨rfl, rfl, rfl, by decide +kernel, rfl, by decide +kernel, by decide +kernel⟩
theorem ok_law_same (T : Tx K mg A) (c_law_is_truth : Cal P w K mg base 1 "_law_is_truth" (spP K f_law_is_truth) []) {f : Addr} {fd : FuncData} (F : Fun K "_law_same" "_law_same" s_law_same f fd) : FnOk P w K mg base CX0 2 f fd ["found", "due"] (spP K f_law_same) :=
  fn_pure F sc_law_same fun H0 F0 R cdv B outer s H E hr =>
  (ss_cons (ss_setF (ps_set (i := 2) sc_law_same.nd rfl (.inl rfl) (sf_lst (sa_cons (se_tup (sa_cons (se_var 0) (sa_cons (se_var 1) sa_nil))) sa_nil))))
    (ss_cons (ss_while (ps_while PassesOwn.never (st_ne rfl (u64 hr) (se_varB 2) (eb_of (ee_of (sf_lst sa_nil)))) (ss_cons (ss_pop (ps_asg (pe_bm0 PySem.F.plainAttrs_list PySem.F.slot_list_pop PySem.F.type_list_pop mt_pop (pv 2)) (sg_tup rfl rfl (sgs_cons (sg_name 3 sc_law_same.nd) (sgs_cons (sg_name 4 sc_law_same.nd) sgs_nil)))))
    (ss_one (ss_if (L2.PW.pt (sw_or (st_is (se_varB 4) (eb_of se_non)) (sw_or1 (st_val (se_isi (pe_callB call_isi (by rfl) T.n_isinstance (by decide +kernel) (pa_cons (se_varB 4) (pa_cons (pe_bltn (by rfl) T.n_bool (by decide +kernel) rfl) pa_nil)))))))) (ss_one (ss_if (st_ite (st_is (se_varB 4) (eb_of se_non)) (st_isnot (se_varB 3) (eb_of se_non)) (st_not (st_val (se_call (pe_c c_law_is_truth hr (by decide) (by rfl) (sa_cons (se_var 3) (sa_cons (se_var 4) sa_nil))))))) (ss_one (ss_ret se_bl)) ss_nil)) (ss_one (ss_if (st_val (se_isi2 (pe_callB call_isiT (by rfl) T.n_isinstance (by decide +kernel) (pa_cons (se_varB 4) (pa_cons (pe_tup (pa_cons (pe_bltn (by rfl) T.n_int (by decide +kernel) rfl) (pa_cons (pe_bltn (by rfl) T.n_str (by decide +kernel) rfl) pa_nil))) pa_nil))))) (ss_one (ss_if (L2.PW.pt (sw_or (st_val (se_isi (pe_callB call_isi (by rfl) T.n_isinstance (by decide +kernel) (pa_cons (se_varB 3) (pa_cons (pe_bltn (by rfl) T.n_bool (by decide +kernel) rfl) pa_nil))))) (sw_or (st_ne rfl (u64 hr) (eb_of (se_isi (pe_callB call_isi (by rfl) T.n_isinstance (by decide +kernel) (pa_cons (se_varB 3) (pa_cons (pe_bltn (by rfl) T.n_int (by decide +kernel) rfl) pa_nil))))) (eb_of (se_isi (pe_callB call_isi (by rfl) T.n_isinstance (by decide +kernel) (pa_cons (se_varB 4) (pa_cons (pe_bltn (by rfl) T.n_int (by decide +kernel) rfl) pa_nil)))))) (sw_or1 (st_ne rfl (u64 hr) (se_varB 3) (se_varB 4)))))) (ss_one (ss_ret se_bl)) ss_nil)) (ss_one (ss_if (st_val (se_isi (pe_callB call_isi (by rfl) T.n_isinstance (by decide +kernel) (pa_cons (se_varB 4) (pa_cons (pe_bltn (by rfl) T.n_dict (by decide +kernel) rfl) pa_nil))))) sss_never (ss_cons (ss_set (ps_set (i := 5) sc_law_same.nd rfl (.inl rfl) (ee_of (sf_lst (sa_cons (se_andV (se_isi (pe_callB call_isi (by rfl) T.n_isinstance (by decide +kernel) (pa_cons (se_varB 3) (pa_cons (pe_bltn (by rfl) T.n_tuple (by decide +kernel) rfl) pa_nil)))) (se_one (se_isi (pe_callB call_isi (by rfl) T.n_isinstance (by decide +kernel) (pa_cons (se_varB 4) (pa_cons (pe_bltn (by rfl) T.n_tuple (by decide +kernel) rfl) pa_nil)))))) (sa_cons (se_andV (se_isi (pe_callB call_isi (by rfl) T.n_isinstance (by decide +kernel) (pa_cons (se_varB 3) (pa_cons (pe_bltn (by rfl) T.n_list (by decide +kernel) rfl) pa_nil)))) (se_one (se_isi (pe_callB call_isi (by rfl) T.n_isinstance (by decide +kernel) (pa_cons (se_varB 4) (pa_cons (pe_bltn (by rfl) T.n_list (by decide +kernel) rfl) pa_nil)))))) sa_nil))))))
    (ss_cons (ss_if (L2.PW.pt (sw_or (st_nin rfl (u65 hr) (by rfl) (eb_of se_bl) (se_varB 5)) (sw_or1 (st_ne rfl (u64 hr) (eb_of (se_cb (c_lenA.or (c_lenK.or c_lenS)) (pe_callB (c_len rfl) (by rfl) T.n_len boot_len (sb_cons (se_varB 3) sb_nil)))) (eb_of (se_cb (c_lenA.or (c_lenK.or c_lenS)) (pe_callB (c_len rfl) (by rfl) T.n_len boot_len (sb_cons (se_varB 4) sb_nil)))))))) (ss_one (ss_ret se_bl)) ss_nil)
    (ss_one (ss_ext (ps_expr (pe_bm PySem.F.plainAttrs_list PySem.F.slot_list_extend PySem.F.type_list_extend mt_extend (pv 2) (pa_cons (ee_of (sf_lc (own := [("left", 7), ("right", 8)]) rfl sc_law_same.nd (si_zip2 rfl (pi_zip2 (by rfl) T.n_zip (sa_cons (se_var 3) (sa_cons (se_var 4) sa_nil)))) (blkOk_by (N := ["found", "due", "waiting", "one", "other", "alike", "key", "left", "right"]) (sc := defScope s_law_same) (by decide +kernel)) (fun _ _ _ _ _ => (sg_tup rfl rfl (sgs_cons (sg_name 7 sc_law_same.nd) (sgs_cons (sg_name 8 sc_law_same.nd) sgs_nil)))) (fun _ _ _ _ _ => sts_nil) (fun _ _ _ _ _ => (se_tup (sa_cons (se_var 7) (sa_cons (se_var 8) sa_nil)))) (by decide))) pa_nil))))))))))))))))
    (ss_one (ss_ret se_bl))))
abbrev s_are_straight : Stmt := topS 46
theorem sc_are_straight : FnScope ["rows", "value", "line", "number", "part", "other"] ["rows", "value"] (defScope s_are_straight) := ⟨rfl, rfl, rfl, by decide +kernel, rfl, by decide +kernel, by decide +kernel⟩
theorem ok_are_straight (T : Tx K mg A) (c_is_ratio : Cal P w K mg base 2 "is_ratio" (spP K f_is_ratio) []) (c_gaps_of : Cal P w K mg base 6 "gaps_of" (spP K f_gaps_of) []) (c_is_less : Cal P w K mg base 1 "is_less" (spP K f_is_less) []) (c_plus : Cal P w K mg base 2 "plus" (spP K f_plus) []) {f : Addr} {fd : FuncData} (F : Fun K "are_straight" "are_straight" s_are_straight f fd) : FnOk P w K mg base CX0 7 f fd ["rows", "value"] (spP K f_are_straight) :=
  fn_pure F sc_are_straight fun H0 F0 R cdv B outer s H E hr =>
  (ss_cons (ss_if (L2.PW.pt (sw_or (st_not (st_val (se_isi (pe_callB call_isi (by rfl) T.n_isinstance (by decide +kernel) (pa_cons (se_varB 1) (pa_cons (pe_bltn (by rfl) T.n_tuple (by decide +kernel) rfl) pa_nil)))))) (sw_or (st_ne rfl (u64 hr) (eb_of (se_cb (c_lenA.or (c_lenK.or c_lenS)) (pe_callB (c_len rfl) (by rfl) T.n_len boot_len (sb_cons (se_varB 1) sb_nil)))) (eb_of (se_cb (c_lenA.or (c_lenK.or c_lenS)) (pe_callB (c_len rfl) (by rfl) T.n_len boot_len (sb_cons (se_varB 0) sb_nil))))) (sw_or1 (st_not (st_val (se_cb (c_all) (pe_callB (cr_all rfl) (by rfl) T.n_all (by decide +kernel) (sb_cons (eb_of (ee_of (sf_lc (own := [("number", 3)]) rfl sc_are_straight.nd (si_seq rfl (se_var 1)) (blkOk_by (N := ["rows", "value", "line", "number", "part", "other"]) (sc := defScope s_are_straight) (by decide +kernel)) (fun _ _ _ _ _ => (sg_name 3 sc_are_straight.nd)) (fun _ _ _ _ _ => sts_nil) (fun _ _ _ _ _ => (se_call (pe_c c_is_ratio hr (by decide) (by rfl) (sa_cons (se_var 3) sa_nil)))) (by decide)))) sb_nil))))))))) (ss_one (ss_ret se_bl)) ss_nil)
    (ss_cons (ss_for (ps_for PassesOwn.never rfl (si_zip2 rfl (pi_zip2 (by rfl) T.n_zip (sa_cons (se_call (pe_c c_gaps_of hr (by decide) (by rfl) (sa_cons (se_var 0) sa_nil))) (sa_cons (se_var 1) sa_nil)))) (sg_tup rfl rfl (sgs_cons (sg_name 2 sc_are_straight.nd) (sgs_cons (sg_name 3 sc_are_straight.nd) sgs_nil))) (ss_one (ss_if (st_val (se_cb (c_any) (pe_callB (cr_any rfl) (by rfl) T.n_any (by decide +kernel) (sb_cons (eb_of (ee_of (sf_lc (own := [("part", 4), ("other", 5)]) rfl sc_are_straight.nd (si_zip2 rfl (pi_zip2 (by rfl) T.n_zip (sa_cons (se_var 2) (sa_cons (se_var 1) sa_nil)))) (blkOk_by (N := ["rows", "value", "line", "number", "part", "other"]) (sc := defScope s_are_straight) (by decide +kernel)) (fun _ _ _ _ _ => (sg_tup rfl rfl (sgs_cons (sg_name 4 sc_are_straight.nd) (sgs_cons (sg_name 5 sc_are_straight.nd) sgs_nil)))) (fun _ _ _ _ _ => sts_nil) (fun _ _ _ _ _ => (se_call (pe_c c_is_less hr (by decide) (by rfl) (sa_cons (se_call (pe_c c_plus hr (by decide) (by rfl) (sa_cons (se_var 3) (sa_cons (se_var 4) sa_nil)))) (sa_cons (se_var 5) sa_nil))))) (by decide)))) sb_nil)))) (ss_one (ss_ret se_bl)) ss_nil))))
    (ss_one (ss_ret se_bl))))
abbrev s_is_places : Stmt := topS 35
theorem sc_is_places : FnScope ["value", "many", "least", "row"] ["value", "many", "least"] (defScope s_is_places) := ⟨rfl, rfl, rfl, by decide +kernel, rfl, by decide +kernel, by decide +kernel⟩
theorem ok_is_places (T : Tx K mg A) {f : Addr} {fd : FuncData} (F : Fun K "is_places" "is_places" s_is_places f fd) : FnOk P w K mg base CX0 1 f fd ["value", "many", "least"] (spP K f_is_places) :=
  fn_pure F sc_is_places fun H0 F0 R cdv B outer s H E hr =>
  (ss_cons (ss_if (L2.PW.pt (sw_or (st_not (st_val (se_isi (pe_callB call_isi (by rfl) T.n_isinstance (by decide +kernel) (pa_cons (se_varB 0) (pa_cons (pe_bltn (by rfl) T.n_tuple (by decide +kernel) rfl) pa_nil)))))) (sw_or1 (st_lt (eb_of (se_cb (c_lenA.or (c_lenK.or c_lenS)) (pe_callB (c_len rfl) (by rfl) T.n_len boot_len (sb_cons (se_varB 0) sb_nil)))) (se_varB 2))))) (ss_one (ss_ret se_bl)) ss_nil)
    (ss_cons (ss_if (st_not (st_val (se_cb (c_all) (pe_callB (cr_all rfl) (by rfl) T.n_all (by decide +kernel) (sb_cons (eb_of (ee_of (sf_lc (own := [("row", 3)]) rfl sc_is_places.nd (si_seq rfl (se_var 0)) (blkOk_by (N := ["value", "many", "least", "row"]) (sc := defScope s_is_places) (by decide +kernel)) (fun _ _ _ _ _ => (sg_name 3 sc_is_places.nd)) (fun _ _ _ _ _ => sts_nil) (fun _ _ _ _ _ => (se_andV (se_isi (pe_callB call_isi (by rfl) T.n_isinstance (by decide +kernel) (pa_cons (se_varB 3) (pa_cons (pe_bltn (by rfl) T.n_int (by decide +kernel) rfl) pa_nil)))) (se_andV (se_notV (se_isi (pe_callB call_isi (by rfl) T.n_isinstance (by decide +kernel) (pa_cons (se_varB 3) (pa_cons (pe_bltn (by rfl) T.n_bool (by decide +kernel) rfl) pa_nil))))) (se_one (se_chn op_le op_lt r_le r_lt (eb_of se_int) (se_varB 3) (se_varB 1)))))) (by decide)))) sb_nil))))) (ss_one (ss_ret se_bl)) ss_nil)
    (ss_one (ss_ret (se_eq rfl (u64 hr) (eb_of (se_cb (c_lenA.or (c_lenK.or c_lenS)) (pe_callB (c_len rfl) (by rfl) T.n_len boot_len (sb_cons (eb_of (ee_of (sf_dc (own := [("row", 3)]) rfl sc_is_places.nd (si_seq rfl (se_var 0)) (blkOk_by (N := ["value", "many", "least", "row"]) (sc := defScope s_is_places) (by decide +kernel)) (fun _ _ _ _ _ => (sg_name 3 sc_is_places.nd)) (fun _ _ _ _ _ => sts_nil) (fun _ _ _ _ _ => (se_var 3)) (fun _ _ _ _ _ => se_bl) (by decide)))) sb_nil)))) (eb_of (se_cb (c_lenA.or (c_lenK.or c_lenS)) (pe_callB (c_len rfl) (by rfl) T.n_len boot_len (sb_cons (se_varB 0) sb_nil)))))))))
abbrev s_steps_of : Stmt := topS 36
theorem sc_steps_of : FnScope ["ring"] ["ring"] (defScope s_steps_of) := ⟨rfl, rfl, rfl, by decide +kernel, rfl, by decide +kernel, by decide +kernel⟩
theorem ok_steps_of (T : Tx K mg A) {f : Addr} {fd : FuncData} (F : Fun K "steps_of" "steps_of" s_steps_of f fd) : FnOk P w K mg base CX0 1 f fd ["ring"] (spP K f_steps_of) :=
  fn_pure F sc_steps_of fun H0 F0 R cdv B outer s H E hr =>
  (ss_one (ss_ret (ee_of (sf_listzip rfl (pe_listzip rfl (by rfl) T.n_list (by rfl) T.n_zip (sa_cons (se_var 0) (sa_cons (se_add rfl (eb_of (se_sl rfl (se_varB 0) (so_some se_int) so_none)) (eb_of (se_sl rfl (se_varB 0) so_none (so_some se_int)))) sa_nil)))))))
abbrev s_is_straight_paper : Stmt := topS 47
theorem sc_is_straight_paper : FnScope ["budgets", "value", "rows", "table", "one", "other"] ["budgets", "value"] (defScope s_is_straight_paper) := ⟨rfl, rfl, rfl, by decide +kernel, rfl, by decide +kernel, by decide +kernel⟩
theorem ok_is_straight_paper (T : Tx K mg A) (c_need_budgets : Cal P w K mg base 7 "need_budgets" (spP K f_need_budgets) []) (c_are_straight : Cal P w K mg base 7 "are_straight" (spP K f_are_straight) []) (c_is_places : Cal P w K mg base 1 "is_places" (spP K f_is_places) []) (c_gaps_of : Cal P w K mg base 6 "gaps_of" (spP K f_gaps_of) []) (c_total : Cal P w K mg base 3 "total" (spP K f_total) []) (c_steps_of : Cal P w K mg base 1 "steps_of" (spP K f_steps_of) []) {f : Addr} {fd : FuncData} (F : Fun K "is_straight_paper" "is_straight_paper" s_is_straight_paper f fd) : FnOk P w K mg base CX0 8 f fd ["budgets", "value"] (spP K f_is_straight_paper) :=
  fn_pure F sc_is_straight_paper fun H0 F0 R cdv B outer s H E hr =>
  (ss_cons (ss_expr (ps_expr (se_call (pe_c c_need_budgets hr (by decide) (by rfl) (sa_cons (se_var 0) sa_nil)))))
    (ss_cons (ss_set (ps_set (i := 2) sc_is_straight_paper.nd rfl (.inl rfl) (se_ix rfl (se_varB 0) (eb_of se_int))))
    (ss_cons (ss_if (L2.PW.pt (sw_or (st_not (st_val (se_isi (pe_callB call_isi (by rfl) T.n_isinstance (by decide +kernel) (pa_cons (se_varB 1) (pa_cons (pe_bltn (by rfl) T.n_tuple (by decide +kernel) rfl) pa_nil)))))) (sw_or (st_ne rfl (u64 hr) (eb_of (se_cb (c_lenA.or (c_lenK.or c_lenS)) (pe_callB (c_len rfl) (by rfl) T.n_len boot_len (sb_cons (se_varB 1) sb_nil)))) (eb_of se_int)) (sw_or1 (st_not (st_val (se_isi (pe_callB call_isi (by rfl) T.n_isinstance (by decide +kernel) (pa_cons (eb_of (se_ix rfl (se_varB 1) (eb_of se_int))) (pa_cons (pe_bltn (by rfl) T.n_str (by decide +kernel) rfl) pa_nil)))))))))) (ss_one (ss_ret se_bl)) ss_nil)
    (ss_cons (ss_if (st_eq rfl (u64 hr) (eb_of (se_ix rfl (se_varB 1) (eb_of se_int))) (eb_of se_str)) (ss_one (ss_ret (se_call (pe_c c_are_straight hr (by decide) (by rfl) (sa_cons (se_var 2) (sa_cons (se_ix rfl (se_varB 1) (eb_of se_int)) sa_nil)))))) ss_nil)
    (ss_cons (ss_if (L2.PW.pt (sw_or (st_ne rfl (u64 hr) (eb_of (se_ix rfl (se_varB 1) (eb_of se_int))) (eb_of se_str)) (sw_or1 (st_not (st_val (se_call (pe_c c_is_places hr (by decide) (by rfl) (sa_cons (se_ix rfl (se_varB 1) (eb_of se_int)) (sa_cons (se_cb (c_lenA.or (c_lenK.or c_lenS)) (pe_callB (c_len rfl) (by rfl) T.n_len boot_len (sb_cons (se_varB 2) sb_nil))) (sa_cons se_int sa_nil)))))))))) (ss_one (ss_ret se_bl)) ss_nil)
    (ss_cons (ss_set (ps_set (i := 3) sc_is_straight_paper.nd rfl (.inr rfl) (se_call (pe_c c_gaps_of hr (by decide) (by rfl) (sa_cons (se_var 2) sa_nil)))))
    (ss_one (ss_ret (se_lt (eb_of (se_ix rfl (eb_of (se_call (pe_c c_total hr (by decide) (by rfl) (sa_cons (ee_of (sf_lc (own := [("one", 4), ("other", 5)]) rfl sc_is_straight_paper.nd (si_seq rfl (se_call (pe_c c_steps_of hr (by decide) (by rfl) (sa_cons (se_ix rfl (se_varB 1) (eb_of se_int)) sa_nil)))) (blkOk_by (N := ["budgets", "value", "rows", "table", "one", "other"]) (sc := defScope s_is_straight_paper) (by decide +kernel)) (fun _ _ _ _ _ => (sg_tup rfl rfl (sgs_cons (sg_name 4 sc_is_straight_paper.nd) (sgs_cons (sg_name 5 sc_is_straight_paper.nd) sgs_nil)))) (fun _ _ _ _ _ => sts_nil) (fun _ _ _ _ _ => (se_ix rfl (eb_of (se_ix rfl (se_varB 3) (se_varB 4))) (se_varB 5))) (by decide))) sa_nil)))) (eb_of se_int))) (eb_of se_int))))))))))
abbrev s_law_bu_gaps : Stmt := topS 70
theorem sc_law_bu_gaps : FnScope ["rows", "table", "entry", "at", "line"] ["rows"] (defScope s_law_bu_gaps) := ⟨rfl, rfl, rfl, by decide +kernel, rfl, by decide +kernel, by decide +kernel⟩
theorem ok_law_bu_gaps (T : Tx K mg A) (c_law_bu_costs : Cal P w K mg base 5 "_law_bu_costs" (spP K f_law_bu_costs) []) (c_law_minus : Cal P w K mg base 2 "_law_minus" (spP K f_law_minus) []) {f : Addr} {fd : FuncData} (F : Fun K "_law_bu_gaps" "_law_bu_gaps" s_law_bu_gaps f fd) : FnOk P w K mg base CX0 6 f fd ["rows"] (spP K f_law_bu_gaps) :=
  fn_pure F sc_law_bu_gaps fun H0 F0 R cdv B outer s H E hr =>
  (ss_cons (ss_set (ps_set (i := 1) sc_law_bu_gaps.nd rfl (.inl rfl) (se_call (pe_c c_law_bu_costs hr (by decide) (by rfl) (sa_cons (se_var 0) sa_nil)))))
    (ss_one (ss_ret (ee_of (sf_lc (own := [("at", 3), ("line", 4)]) rfl sc_law_bu_gaps.nd (si_enum (pi_enum (by rfl) T.n_enumerate (sa_cons (se_var 1) sa_nil))) (blkOk_by (N := ["rows", "table", "entry", "at", "line"]) (sc := defScope s_law_bu_gaps) (by decide +kernel)) (fun _ _ _ _ _ => (sg_tup rfl rfl (sgs_cons (sg_name 3 sc_law_bu_gaps.nd) (sgs_cons (sg_name 4 sc_law_bu_gaps.nd) sgs_nil)))) (fun _ _ _ _ _ => sts_nil) (fun _ _ _ _ _ => (ee_of (sf_lc (own := [("entry", 2)]) rfl sc_law_bu_gaps.nd (si_seq rfl (se_var 4)) (blkOk_by (by kernel_rfl)) (fun _ _ _ _ _ => (sg_name 2 sc_law_bu_gaps.nd)) (fun _ _ _ _ _ => sts_nil) (fun _ _ _ _ _ => (se_call (pe_c c_law_minus hr (by decide) (by rfl) (sa_cons (se_var 2) (sa_cons (se_ix rfl (se_varB 4) (se_varB 3)) sa_nil))))) (by decide)))) (by decide))))))
abbrev s_law_is_ratio : Stmt := topS 64
theorem sc_law_is_ratio : FnScope ["value", "part"] ["value"] (defScope s_law_is_ratio) := ⟨rfl, rfl, rfl, by decide +kernel, rfl, by decide +kernel, by decide +kernel⟩
theorem ok_law_is_ratio (T : Tx K mg A) (c_law_q : Cal P w K mg base 1 "_law_q" (spP K f_law_q) []) {f : Addr} {fd : FuncData} (F : Fun K "_law_is_ratio" "_law_is_ratio" s_law_is_ratio f fd) : FnOk P w K mg base CX0 2 f fd ["value"] (spP K f_law_is_ratio) :=
  fn_pure F sc_law_is_ratio fun H0 F0 R cdv B outer s H E hr =>
  (ss_cons (ss_if (L2.PW.pt (sw_or (st_not (st_val (se_isi (pe_callB call_isi (by rfl) T.n_isinstance (by decide +kernel) (pa_cons (se_varB 0) (pa_cons (pe_bltn (by rfl) T.n_tuple (by decide +kernel) rfl) pa_nil)))))) (sw_or (st_ne rfl (u64 hr) (eb_of (se_cb (c_lenA.or (c_lenK.or c_lenS)) (pe_callB (c_len rfl) (by rfl) T.n_len boot_len (sb_cons (se_varB 0) sb_nil)))) (eb_of se_int)) (sw_or1 (st_ne rfl (u64 hr) (eb_of (ee_of (sf_lc (own := [("part", 1)]) rfl sc_law_is_ratio.nd (si_seq rfl (se_var 0)) (blkOk_by (N := ["value", "part"]) (sc := defScope s_law_is_ratio) (by decide +kernel)) (fun _ _ _ _ _ => (sg_name 1 sc_law_is_ratio.nd)) (fun _ _ _ _ _ => (sts_one (L2.PW.pt (sw_or (st_not (st_val (se_isi (pe_callB call_isi (by rfl) T.n_isinstance (by decide +kernel) (pa_cons (se_varB 1) (pa_cons (pe_bltn (by rfl) T.n_int (by decide +kernel) rfl) pa_nil)))))) (sw_or1 (st_val (se_isi (pe_callB call_isi (by rfl) T.n_isinstance (by decide +kernel) (pa_cons (se_varB 1) (pa_cons (pe_bltn (by rfl) T.n_bool (by decide +kernel) rfl) pa_nil)))))))))) (fun _ _ _ _ _ => se_int) (by decide)))) (eb_of (ee_of (sf_lst sa_nil)))))))) (ss_one (ss_ret se_bl)) ss_nil)
    (ss_one (ss_ret (se_andV (se_gt (eb_of (se_ix rfl (se_varB 0) (eb_of se_int))) (eb_of se_int)) (se_one (se_eq rfl (u64 hr) (eb_of (se_call (pe_c c_law_q hr (by decide) (by rfl) (sa_cons (se_ix rfl (se_varB 0) (eb_of se_int)) (sa_cons (se_ix rfl (se_varB 0) (eb_of se_int)) sa_nil))))) (se_varB 0)))))))
abbrev s_law_keeps : Stmt := topS 75
theorem sc_law_keeps : FnScope ["rows", "told", "line", "number", "entry", "other"] ["rows", "told"] (defScope s_law_keeps) := ⟨rfl, rfl, rfl, by decide +kernel, rfl, by decide +kernel, by decide +kernel⟩
theorem ok_law_keeps (T : Tx K mg A) (c_law_is_ratio : Cal P w K mg base 2 "_law_is_ratio" (spP K f_law_is_ratio) []) (c_law_bu_gaps : Cal P w K mg base 6 "_law_bu_gaps" (spP K f_law_bu_gaps) []) (c_law_less : Cal P w K mg base 1 "_law_less" (spP K f_law_less) []) (c_law_plus : Cal P w K mg base 2 "_law_plus" (spP K f_law_plus) []) {f : Addr} {fd : FuncData} (F : Fun K "_law_keeps" "_law_keeps" s_law_keeps f fd) : FnOk P w K mg base CX0 7 f fd ["rows", "told"] (spP K f_law_keeps) :=
  fn_pure F sc_law_keeps fun H0 F0 R cdv B outer s H E hr =>
  (ss_cons (ss_if (L2.PW.pt (sw_or (st_not (st_val (se_isi (pe_callB call_isi (by rfl) T.n_isinstance (by decide +kernel) (pa_cons (se_varB 1) (pa_cons (pe_bltn (by rfl) T.n_tuple (by decide +kernel) rfl) pa_nil)))))) (sw_or (st_ne rfl (u64 hr) (eb_of (se_cb (c_lenA.or (c_lenK.or c_lenS)) (pe_callB (c_len rfl) (by rfl) T.n_len boot_len (sb_cons (se_varB 1) sb_nil)))) (eb_of (se_cb (c_lenA.or (c_lenK.or c_lenS)) (pe_callB (c_len rfl) (by rfl) T.n_len boot_len (sb_cons (se_varB 0) sb_nil))))) (sw_or1 (st_ne rfl (u64 hr) (eb_of (ee_of (sf_lc (own := [("number", 3)]) rfl sc_law_keeps.nd (si_seq rfl (se_var 1)) (blkOk_by (N := ["rows", "told", "line", "number", "entry", "other"]) (sc := defScope s_law_keeps) (by decide +kernel)) (fun _ _ _ _ _ => (sg_name 3 sc_law_keeps.nd)) (fun _ _ _ _ _ => (sts_one (st_not (st_val (se_call (pe_c c_law_is_ratio hr (by decide) (by rfl) (sa_cons (se_var 3) sa_nil))))))) (fun _ _ _ _ _ => se_int) (by decide)))) (eb_of (ee_of (sf_lst sa_nil)))))))) (ss_one (ss_ret se_bl)) ss_nil)
    (ss_cons (ss_for (ps_for PassesOwn.never rfl (si_zip2 rfl (pi_zip2 (by rfl) T.n_zip (sa_cons (se_call (pe_c c_law_bu_gaps hr (by decide) (by rfl) (sa_cons (se_var 0) sa_nil))) (sa_cons (se_var 1) sa_nil)))) (sg_tup rfl rfl (sgs_cons (sg_name 2 sc_law_keeps.nd) (sgs_cons (sg_name 3 sc_law_keeps.nd) sgs_nil))) (ss_one (ss_if (st_ne rfl (u64 hr) (eb_of (ee_of (sf_lc (own := [("entry", 4), ("other", 5)]) rfl sc_law_keeps.nd (si_zip2 rfl (pi_zip2 (by rfl) T.n_zip (sa_cons (se_var 2) (sa_cons (se_var 1) sa_nil)))) (blkOk_by (N := ["rows", "told", "line", "number", "entry", "other"]) (sc := defScope s_law_keeps) (by decide +kernel)) (fun _ _ _ _ _ => (sg_tup rfl rfl (sgs_cons (sg_name 4 sc_law_keeps.nd) (sgs_cons (sg_name 5 sc_law_keeps.nd) sgs_nil)))) (fun _ _ _ _ _ => (sts_one (st_val (se_call (pe_c c_law_less hr (by decide) (by rfl) (sa_cons (se_call (pe_c c_law_plus hr (by decide) (by rfl) (sa_cons (se_var 3) (sa_cons (se_var 4) sa_nil)))) (sa_cons (se_var 5) sa_nil))))))) (fun _ _ _ _ _ => se_int) (by decide)))) (eb_of (ee_of (sf_lst sa_nil)))) (ss_one (ss_ret se_bl)) ss_nil))))
    (ss_one (ss_ret se_bl))))
abbrev s_is_bundle : Stmt := topS 31
theorem sc_is_bundle : FnScope ["value", "many", "part"] ["value", "many"] (defScope s_is_bundle) := ⟨rfl, rfl, rfl, by decide +kernel, rfl, by decide +kernel, by decide +kernel⟩
theorem ok_is_bundle (T : Tx K mg A) (c_is_ratio : Cal P w K mg base 2 "is_ratio" (spP K f_is_ratio) []) {f : Addr} {fd : FuncData} (F : Fun K "is_bundle" "is_bundle" s_is_bundle f fd) : FnOk P w K mg base CX0 3 f fd ["value", "many"] (spP K f_is_bundle) :=
  fn_pure F sc_is_bundle fun H0 F0 R cdv B outer s H E hr =>
  (ss_cons (ss_if (L2.PW.pt (sw_or (st_not (st_val (se_isi (pe_callB call_isi (by rfl) T.n_isinstance (by decide +kernel) (pa_cons (se_varB 0) (pa_cons (pe_bltn (by rfl) T.n_tuple (by decide +kernel) rfl) pa_nil)))))) (sw_or1 (st_ne rfl (u64 hr) (eb_of (se_cb (c_lenA.or (c_lenK.or c_lenS)) (pe_callB (c_len rfl) (by rfl) T.n_len boot_len (sb_cons (se_varB 0) sb_nil)))) (se_varB 1))))) (ss_one (ss_ret se_bl)) ss_nil)
    (ss_one (ss_ret (se_cb (c_all) (pe_callB (cr_all rfl) (by rfl) T.n_all (by decide +kernel) (sb_cons (eb_of (ee_of (sf_lc (own := [("part", 2)]) rfl sc_is_bundle.nd (si_seq rfl (se_var 0)) (blkOk_by (N := ["value", "many", "part"]) (sc := defScope s_is_bundle) (by decide +kernel)) (fun _ _ _ _ _ => (sg_name 2 sc_is_bundle.nd)) (fun _ _ _ _ _ => sts_nil) (fun _ _ _ _ _ => (se_andV (se_call (pe_c c_is_ratio hr (by decide) (by rfl) (sa_cons (se_var 2) sa_nil))) (se_one (se_ge (eb_of (se_ix rfl (se_varB 2) (eb_of se_int))) (eb_of se_int))))) (by decide)))) sb_nil))))))
abbrev s_goods_of : Stmt := topS 29
theorem sc_goods_of : FnScope ["budgets"] ["budgets"] (defScope s_goods_of) := ⟨rfl, rfl, rfl, by decide +kernel, rfl, by decide +kernel, by decide +kernel⟩
theorem ok_goods_of (T : Tx K mg A) {f : Addr} {fd : FuncData} (F : Fun K "goods_of" "goods_of" s_goods_of f fd) : FnOk P w K mg base CX0 1 f fd ["budgets"] (spP K f_goods_of) :=
  fn_pure F sc_goods_of fun H0 F0 R cdv B outer s H E hr =>
  (ss_one (ss_ret (se_cb (c_lenA.or (c_lenK.or c_lenS)) (pe_callB (c_len rfl) (by rfl) T.n_len boot_len (sb_cons (eb_of (se_ix rfl (eb_of (se_ix rfl (eb_of (se_ix rfl (se_varB 0) (eb_of se_int))) (eb_of se_int))) (eb_of se_int))) sb_nil)))))
abbrev s_need_bundle : Stmt := topS 32
theorem sc_need_bundle : FnScope ["budgets", "bundle"] ["budgets", "bundle"] (defScope s_need_bundle) := ⟨rfl, rfl, rfl, by decide +kernel, rfl, by decide +kernel, by decide +kernel⟩
theorem ok_need_bundle (T : Tx K mg A) (c_is_bundle : Cal P w K mg base 3 "is_bundle" (spP K f_is_bundle) []) (c_goods_of : Cal P w K mg base 1 "goods_of" (spP K f_goods_of) []) {f : Addr} {fd : FuncData} (F : Fun K "need_bundle" "need_bundle" s_need_bundle f fd) : FnOk P w K mg base CX0 4 f fd ["budgets", "bundle"] (spP K f_need_bundle) :=
  fn_pure F sc_need_bundle fun H0 F0 R cdv B outer s H E hr =>
  (ss_one (ss_if (st_not (st_val (se_call (pe_c c_is_bundle hr (by decide) (by rfl) (sa_cons (se_var 1) (sa_cons (se_call (pe_c c_goods_of hr (by decide) (by rfl) (sa_cons (se_var 0) sa_nil))) sa_nil)))))) (ss_one ss_never) ss_nil))
abbrev s_least_of : Stmt := topS 16
theorem sc_least_of : FnScope ["ratios", "found", "each"] ["ratios"] (defScope s_least_of) := ⟨rfl, rfl, rfl, by decide +kernel, rfl, by decide +kernel, by decide +kernel⟩
theorem ok_least_of (T : Tx K mg A) (c_is_less : Cal P w K mg base 1 "is_less" (spP K f_is_less) []) {f : Addr} {fd : FuncData} (F : Fun K "least_of" "least_of" s_least_of f fd) : FnOk P w K mg base CX0 2 f fd ["ratios"] (spP K f_least_of) :=
  fn_pure F sc_least_of fun H0 F0 R cdv B outer s H E hr =>
  (ss_cons (ss_set (ps_set (i := 1) sc_least_of.nd rfl (.inl rfl) (se_ix rfl (se_varB 0) (eb_of se_int))))
    (ss_cons (ss_for (ps_for PassesOwn.never rfl (si_seq rfl (se_sl rfl (se_varB 0) (so_some se_int) so_none)) (sg_name 2 sc_least_of.nd) (ss_one (ss_set (ps_set (i := 1) sc_least_of.nd rfl (.inl rfl) (se_ite (st_val (se_call (pe_c c_is_less hr (by decide) (by rfl) (sa_cons (se_var 2) (sa_cons (se_var 1) sa_nil))))) (se_var 2) (se_var 1)))))))
    (ss_one (ss_ret (se_var 1)))))
abbrev s_straight_wish : Stmt := topS 48
theorem sc_straight_wish : FnScope ["budgets", "numbers", "bundle", "found", "number", "prices", "own"] ["budgets", "numbers", "bundle"] (defScope s_straight_wish) := ⟨rfl, rfl, rfl, by decide +kernel, rfl, by decide +kernel, by decide +kernel⟩
theorem ok_straight_wish (T : Tx K mg A) (c_need_budgets : Cal P w K mg base 7 "need_budgets" (spP K f_need_budgets) []) (c_are_straight : Cal P w K mg base 7 "are_straight" (spP K f_are_straight) []) (c_need_bundle : Cal P w K mg base 4 "need_bundle" (spP K f_need_bundle) []) (c_plus : Cal P w K mg base 2 "plus" (spP K f_plus) []) (c_minus : Cal P w K mg base 2 "minus" (spP K f_minus) []) (c_dot : Cal P w K mg base 4 "dot" (spP K f_dot) []) (c_least_of : Cal P w K mg base 2 "least_of" (spP K f_least_of) []) {f : Addr} {fd : FuncData} (F : Fun K "straight_wish" "straight_wish" s_straight_wish f fd) : FnOk P w K mg base CX0 8 f fd ["budgets", "numbers", "bundle"] (spP K f_straight_wish) :=
  fn_pure F sc_straight_wish fun H0 F0 R cdv B outer s H E hr =>
  (ss_cons (ss_expr (ps_expr (se_call (pe_c c_need_budgets hr (by decide) (by rfl) (sa_cons (se_var 0) sa_nil)))))
    (ss_cons (ss_if (st_not (st_val (se_call (pe_c c_are_straight hr (by decide) (by rfl) (sa_cons (se_ix rfl (se_varB 0) (eb_of se_int)) (sa_cons (se_var 1) sa_nil)))))) (ss_one ss_never) ss_nil)
    (ss_cons (ss_expr (ps_expr (se_call (pe_c c_need_bundle hr (by decide) (by rfl) (sa_cons (se_var 0) (sa_cons (se_var 2) sa_nil))))))
    (ss_cons (ss_setF (ps_set (i := 3) sc_straight_wish.nd rfl (.inl rfl) (sf_lst sa_nil)))
    (ss_cons (ss_for (ps_for PassesOwn.never rfl (si_zip2 rfl (pi_zip2 (by rfl) T.n_zip (sa_cons (se_ix rfl (se_varB 0) (eb_of se_int)) (sa_cons (se_var 1) sa_nil)))) (sg_tup rfl rfl (sgs_cons (sg_tup rfl rfl (sgs_cons (sg_name 5 sc_straight_wish.nd) (sgs_cons (sg_name 6 sc_straight_wish.nd) sgs_nil))) (sgs_cons (sg_name 4 sc_straight_wish.nd) sgs_nil))) (ss_one (ss_app (ps_expr (pe_bm PySem.F.plainAttrs_list PySem.F.slot_list_append PySem.F.type_list_append mt_append (pv 3) (pa_cons (se_call (pe_c c_plus hr (by decide) (by rfl) (sa_cons (se_var 4) (sa_cons (se_call (pe_c c_minus hr (by decide) (by rfl) (sa_cons (se_call (pe_c c_dot hr (by decide) (by rfl) (sa_cons (se_var 5) (sa_cons (se_var 2) sa_nil)))) (sa_cons (se_call (pe_c c_dot hr (by decide) (by rfl) (sa_cons (se_var 5) (sa_cons (se_var 6) sa_nil)))) sa_nil)))) sa_nil)))) pa_nil)))))))
    (ss_one (ss_frz 3 (ss_ret (se_call (pe_c c_least_of hr (by decide) (by rfl) (sa_cons (se_var 3) sa_nil)))))))))))
abbrev s_law_bu_are_places : Stmt := topS 73
theorem sc_law_bu_are_places : FnScope ["value", "many", "few", "at"] ["value", "many", "few"] (defScope s_law_bu_are_places) := ⟨rfl, rfl, rfl, by decide +kernel, rfl, by decide +kernel, by decide +kernel⟩
theorem ok_law_bu_are_places (T : Tx K mg A) {f : Addr} {fd : FuncData} (F : Fun K "_law_bu_are_places" "_law_bu_are_places" s_law_bu_are_places f fd) : FnOk P w K mg base CX0 1 f fd ["value", "many", "few"] (spP K f_law_bu_are_places) :=
  fn_pure F sc_law_bu_are_places fun H0 F0 R cdv B outer s H E hr =>
  (ss_cons (ss_if (L2.PW.pt (sw_or (st_not (st_val (se_isi (pe_callB call_isi (by rfl) T.n_isinstance (by decide +kernel) (pa_cons (se_varB 0) (pa_cons (pe_bltn (by rfl) T.n_tuple (by decide +kernel) rfl) pa_nil)))))) (sw_or1 (st_lt (eb_of (se_cb (c_lenA.or (c_lenK.or c_lenS)) (pe_callB (c_len rfl) (by rfl) T.n_len boot_len (sb_cons (se_varB 0) sb_nil)))) (se_varB 2))))) (ss_one (ss_ret se_bl)) ss_nil)
    (ss_cons (ss_if (st_ne rfl (u64 hr) (eb_of (ee_of (sf_lc (own := [("at", 3)]) rfl sc_law_bu_are_places.nd (si_seq rfl (se_var 0)) (blkOk_by (N := ["value", "many", "few", "at"]) (sc := defScope s_law_bu_are_places) (by decide +kernel)) (fun _ _ _ _ _ => (sg_name 3 sc_law_bu_are_places.nd)) (fun _ _ _ _ _ => (sts_one (L2.PW.pt (sw_or (st_val (se_isi (pe_callB call_isi (by rfl) T.n_isinstance (by decide +kernel) (pa_cons (se_varB 3) (pa_cons (pe_bltn (by rfl) T.n_bool (by decide +kernel) rfl) pa_nil))))) (sw_or (st_not (st_val (se_isi (pe_callB call_isi (by rfl) T.n_isinstance (by decide +kernel) (pa_cons (se_varB 3) (pa_cons (pe_bltn (by rfl) T.n_int (by decide +kernel) rfl) pa_nil)))))) (sw_or1 (st_not (st_chn op_le op_lt r_le r_lt (eb_of se_int) (se_varB 3) (se_varB 1))))))))) (fun _ _ _ _ _ => se_int) (by decide)))) (eb_of (ee_of (sf_lst sa_nil)))) (ss_one (ss_ret se_bl)) ss_nil)
    (ss_one (ss_ret (se_eq rfl (u64 hr) (eb_of (se_lenset rfl (pe_lensetT (by rfl) T.n_len (by rfl) T.n_set (se_varB 0)))) (eb_of (se_cb (c_lenA.or (c_lenK.or c_lenS)) (pe_callB (c_len rfl) (by rfl) T.n_len boot_len (sb_cons (se_varB 0) sb_nil)))))))))
abbrev s_law_bu_around : Stmt := topS 74
theorem sc_law_bu_around : FnScope ["value"] ["value"] (defScope s_law_bu_around) := ⟨rfl, rfl, rfl, by decide +kernel, rfl, by decide +kernel, by decide +kernel⟩
theorem ok_law_bu_around (T : Tx K mg A) {f : Addr} {fd : FuncData} (F : Fun K "_law_bu_around" "_law_bu_around" s_law_bu_around f fd) : FnOk P w K mg base CX0 1 f fd ["value"] (spP K f_law_bu_around) :=
  fn_pure F sc_law_bu_around fun H0 F0 R cdv B outer s H E hr =>
  (ss_one (ss_ret (ee_of (sf_listzip rfl (pe_listzip rfl (by rfl) T.n_list (by rfl) T.n_zip (sa_cons (se_var 0) (sa_cons (se_add rfl (eb_of (se_sl rfl (se_varB 0) (so_some se_int) so_none)) (eb_of (se_sl rfl (se_varB 0) so_none (so_some se_int)))) sa_nil)))))))
abbrev s_law_is_loop : Stmt := topS 76
theorem sc_law_is_loop : FnScope ["rows", "told", "table", "one", "other"] ["rows", "told"] (defScope s_law_is_loop) := ⟨rfl, rfl, rfl, by decide +kernel, rfl, by decide +kernel, by decide +kernel⟩
theorem ok_law_is_loop (T : Tx K mg A) (c_law_bu_are_places : Cal P w K mg base 1 "_law_bu_are_places" (spP K f_law_bu_are_places) []) (c_law_bu_gaps : Cal P w K mg base 6 "_law_bu_gaps" (spP K f_law_bu_gaps) []) (c_law_sum : Cal P w K mg base 3 "_law_sum" (spP K f_law_sum) []) (c_law_bu_around : Cal P w K mg base 1 "_law_bu_around" (spP K f_law_bu_around) []) {f : Addr} {fd : FuncData} (F : Fun K "_law_is_loop" "_law_is_loop" s_law_is_loop f fd) : FnOk P w K mg base CX0 7 f fd ["rows", "told"] (spP K f_law_is_loop) :=
  fn_pure F sc_law_is_loop fun H0 F0 R cdv B outer s H E hr =>
  (ss_cons (ss_if (st_not (st_val (se_call (pe_c c_law_bu_are_places hr (by decide) (by rfl) (sa_cons (se_var 1) (sa_cons (se_cb (c_lenA.or (c_lenK.or c_lenS)) (pe_callB (c_len rfl) (by rfl) T.n_len boot_len (sb_cons (se_varB 0) sb_nil))) (sa_cons se_int sa_nil))))))) (ss_one (ss_ret se_bl)) ss_nil)
    (ss_cons (ss_set (ps_set (i := 2) sc_law_is_loop.nd rfl (.inr rfl) (se_call (pe_c c_law_bu_gaps hr (by decide) (by rfl) (sa_cons (se_var 0) sa_nil)))))
    (ss_one (ss_ret (se_lt (eb_of (se_ix rfl (eb_of (se_call (pe_c c_law_sum hr (by decide) (by rfl) (sa_cons (ee_of (sf_lc (own := [("one", 3), ("other", 4)]) rfl sc_law_is_loop.nd (si_seq rfl (se_call (pe_c c_law_bu_around hr (by decide) (by rfl) (sa_cons (se_var 1) sa_nil)))) (blkOk_by (N := ["rows", "told", "table", "one", "other"]) (sc := defScope s_law_is_loop) (by decide +kernel)) (fun _ _ _ _ _ => (sg_tup rfl rfl (sgs_cons (sg_name 3 sc_law_is_loop.nd) (sgs_cons (sg_name 4 sc_law_is_loop.nd) sgs_nil)))) (fun _ _ _ _ _ => sts_nil) (fun _ _ _ _ _ => (se_ix rfl (eb_of (se_ix rfl (se_varB 2) (se_varB 3))) (se_varB 4))) (by decide))) sa_nil)))) (eb_of se_int))) (eb_of se_int))))))
abbrev s_law : Stmt := topS 79
theorem sc_law : FnScope ["script", "draws", "turn", "budgets", "great", "rows", "goods", "told", "factor", "number", "bundle", "due", "prices", "own", "amount"] ["script"] (defScope s_law) := ⟨rfl, rfl, rfl, by decide +kernel, rfl, by decide +kernel, by decide +kernel⟩
theorem ok_law (T : Tx K mg A) (c_law_begun : Cal P w K mg base 1 "_law_begun" (spBegun K) []) (c_law_straight_rows : Cal P w K mg base 3 "_law_straight_rows" (spR K f_law_straight_rows) []) (c_law_bu_drawn : Cal P w K mg base 6 "_law_bu_drawn" (spR K f_law_bu_drawn) []) (c_straight_paper : Cal P w K mg base 8 "straight_paper" (spP K (f_straight_paper A)) []) (c_law_q : Cal P w K mg base 1 "_law_q" (spP K f_law_q) []) (c_law_draw : Cal P w K mg base 2 "_law_draw" (spR K f_law_draw) []) (c_law_same : Cal P w K mg base 2 "_law_same" (spP K f_law_same) []) (c_is_straight_paper : Cal P w K mg base 8 "is_straight_paper" (spP K f_is_straight_paper) []) (c_law_times : Cal P w K mg base 2 "_law_times" (spP K f_law_times) []) (c_law_is_loop : Cal P w K mg base 7 "_law_is_loop" (spP K f_law_is_loop) []) (c_law_keeps : Cal P w K mg base 7 "_law_keeps" (spP K f_law_keeps) []) (c_law_bu_has_ring : Cal P w K mg base 7 "_law_bu_has_ring" (spP K f_law_bu_has_ring) []) (c_law_bu_bundle : Cal P w K mg base 4 "_law_bu_bundle" (spR K f_law_bu_bundle) []) (c_law_least : Cal P w K mg base 5 "_law_least" (spP K f_law_least) []) (c_straight_wish : Cal P w K mg base 8 "straight_wish" (spP K f_straight_wish) []) (c_law_less : Cal P w K mg base 1 "_law_less" (spP K f_law_less) []) (c_law_minus : Cal P w K mg base 2 "_law_minus" (spP K f_law_minus) []) (c_law_dot : Cal P w K mg base 4 "_law_dot" (spP K f_law_dot) []) (ck_straight_paper : CalK P w K mg base 8 "straight_paper" (spP K (f_straight_paper A)) ["budgets"] [0]) (ck_straight_wish : CalK P w K mg base 8 "straight_wish" (spP K f_straight_wish) ["bundle", "numbers", "budgets"] [2, 1, 0]) {f : Addr} {fd : FuncData} (F : Fun K "law" "law" s_law f fd) : FnOk P w K mg base CX0 9 f fd ["script"] (spLawD K 15 1 (m_law A)) :=
  law_ok (N := ["script", "draws", "turn", "budgets", "great", "rows", "goods", "told", "factor", "number", "bundle", "due", "prices", "own", "amount"]) F sc_law (by decide) (by decide) fun H0 F0 R cdv B outer s H E hr => pss_cons (ps_set (i := 1) sc_law.nd rfl (.inl rfl) (pe_c c_law_begun hr (by decide) (by rfl) (pa_cons (pv 0) pa_nil))) (
  (ss_cons (ss_for (ps_for PassesOwn.never rfl (si_rg1 (pi_range1 (by rfl) T.n_range (sb_cons (eb_of (se_add rfl (eb_of se_int) (eb_of (se_cb (c_min) (pe_callB (call_min2 rfl) (by rfl) T.n_min (by decide +kernel) (sb_cons (eb_of (se_cb (c_lenA.or (c_lenK.or c_lenS)) (pe_callB (c_len rfl) (by rfl) T.n_len boot_len (sb_cons (se_varB 0) sb_nil)))) (sb_cons (eb_of se_int) sb_nil))))))) sb_nil))) (sg_name 2 sc_law.nd) (ss_cons (ss_set (ps_set (i := 3) sc_law.nd rfl (.inl rfl) (se_callR (pe_c c_law_straight_rows hr (by decide) (by rfl) (sa_cons (se_var 1) (sa_cons (se_ix rfl (eb_of (se_callR (pe_c c_law_bu_drawn hr (by decide) (by rfl) (sa_cons (se_var 1) (sa_cons se_int sa_nil))))) (eb_of se_int)) sa_nil))))))
    (ss_cons (ss_par2 (k1 := false) (k2 := false) (ps_par (i := 5) (j := 6) rfl sc_law.nd rfl rfl (by decide) rfl rfl (pa_cons (se_ix rfl (se_varB 3) (eb_of se_int)) (pa_cons (se_cb (c_lenA.or (c_lenK.or c_lenS)) (pe_callB (c_len rfl) (by rfl) T.n_len boot_len (sb_cons (eb_of (se_ix rfl (eb_of (se_ix rfl (eb_of (se_ix rfl (se_varB 3) (eb_of se_int))) (eb_of se_int))) (eb_of se_int))) sb_nil))) pa_nil)) (by rfl)))
    (ss_cons (ss_parT2 (k1 := false) (k2 := false) rfl (ps_asg (pe_tup (pa_cons (se_call (pe_c c_straight_paper hr (by decide) (by rfl) (sa_cons (se_var 3) sa_nil))) (pa_cons (se_call (pe_c c_law_q hr (by decide) (by rfl) (sa_cons (se_add rfl (eb_of se_int) (eb_of (se_callR (pe_c c_law_draw hr (by decide) (by rfl) (sa_cons (se_var 1) (sa_cons se_int sa_nil)))))) (sa_cons (se_add rfl (eb_of se_int) (eb_of (se_callR (pe_c c_law_draw hr (by decide) (by rfl) (sa_cons (se_var 1) (sa_cons se_int sa_nil)))))) sa_nil)))) pa_nil))) (pg_tup rfl (pgs_cons (pg_name (i := 7) sc_law.nd rfl (.inl rfl)) (pgs_cons (pg_name (i := 8) sc_law.nd rfl (.inr rfl)) pgs_nil)))))
    (ss_cons (ss_if (L2.PW.pt (sw_or (st_not (st_val (se_isi (pe_callB call_isi (by rfl) T.n_isinstance (by decide +kernel) (pa_cons (se_varB 7) (pa_cons (pe_bltn (by rfl) T.n_tuple (by decide +kernel) rfl) pa_nil)))))) (sw_or (st_ne rfl (u64 hr) (eb_of (se_cb (c_lenA.or (c_lenK.or c_lenS)) (pe_callB (c_len rfl) (by rfl) T.n_len boot_len (sb_cons (se_varB 7) sb_nil)))) (eb_of se_int)) (sw_or (st_not (st_val (se_call (pe_c c_law_same hr (by decide) (by rfl) (sa_cons (se_callK0 (pe_ck ck_straight_paper hr (by decide) (by rfl) (sk_cons (se_var 3) sk_nil))) (sa_cons (se_var 7) sa_nil)))))) (sw_or1 (st_isnot (eb_of (se_call (pe_c c_is_straight_paper hr (by decide) (by rfl) (sa_cons (se_var 3) (sa_cons (se_var 7) sa_nil))))) (eb_of se_bl))))))) (ss_one (ss_ret se_bl)) ss_nil)
    (ss_cons (ss_set (ps_set (i := 4) sc_law.nd rfl (.inl rfl) (se_tup (sa_cons se_str (sa_cons (se_cb (c_tuple) (pe_callTy call_tuple_of (by rfl) T.n_tuple (by decide +kernel) (sb_cons (eb_of (ee_of (sf_lc (own := [("prices", 12), ("own", 13)]) rfl sc_law.nd (si_seq rfl (se_var 5)) (blkOk_by (N := ["script", "draws", "turn", "budgets", "great", "rows", "goods", "told", "factor", "number", "bundle", "due", "prices", "own", "amount"]) (sc := defScope s_law) (by decide +kernel)) (fun _ _ _ _ _ => (sg_tup rfl rfl (sgs_cons (sg_name 12 sc_law.nd) (sgs_cons (sg_name 13 sc_law.nd) sgs_nil)))) (fun _ _ _ _ _ => sts_nil) (fun _ _ _ _ _ => (se_tup (sa_cons (se_var 12) (sa_cons (se_cb (c_tuple) (pe_callTy call_tuple_of (by rfl) T.n_tuple (by decide +kernel) (sb_cons (eb_of (ee_of (sf_lc (own := [("amount", 14)]) rfl sc_law.nd (si_seq rfl (se_var 13)) (blkOk_by (by kernel_rfl)) (fun _ _ _ _ _ => (sg_name 14 sc_law.nd)) (fun _ _ _ _ _ => sts_nil) (fun _ _ _ _ _ => (se_call (pe_c c_law_times hr (by decide) (by rfl) (sa_cons (se_var 8) (sa_cons (se_var 14) sa_nil))))) (by decide)))) sb_nil))) sa_nil)))) (by decide)))) sb_nil))) sa_nil)))))
    (ss_cons (ss_if (st_ne rfl (u64 hr) (eb_of (se_ix rfl (eb_of (se_call (pe_c c_straight_paper hr (by decide) (by rfl) (sa_cons (se_var 4) sa_nil)))) (eb_of se_int))) (eb_of (se_ix rfl (se_varB 7) (eb_of se_int)))) (ss_one (ss_ret se_bl)) ss_nil)
    (ss_cons (ss_if (st_ne rfl (u64 hr) (eb_of (se_ix rfl (se_varB 7) (eb_of se_int))) (eb_of se_str)) (ss_cons (ss_if (L2.PW.pt (sw_or (st_ne rfl (u64 hr) (eb_of (se_ix rfl (se_varB 7) (eb_of se_int))) (eb_of se_str)) (sw_or1 (st_not (st_val (se_call (pe_c c_law_is_loop hr (by decide) (by rfl) (sa_cons (se_var 5) (sa_cons (se_ix rfl (se_varB 7) (eb_of se_int)) sa_nil))))))))) (ss_one (ss_ret se_bl)) ss_nil)
    (ss_one ss_continue)) ss_nil)
    (ss_cons (ss_if (L2.PW.pt (sw_or (st_not (st_val (se_call (pe_c c_law_keeps hr (by decide) (by rfl) (sa_cons (se_var 5) (sa_cons (se_ix rfl (se_varB 7) (eb_of se_int)) sa_nil)))))) (sw_or1 (st_val (se_call (pe_c c_law_bu_has_ring hr (by decide) (by rfl) (sa_cons (se_var 5) sa_nil))))))) (ss_one (ss_ret se_bl)) ss_nil)
    (ss_one (ss_for (ps_for PassesOwn.never rfl (si_zip2 rfl (pi_zip2 (by rfl) T.n_zip (sa_cons (se_var 5) (sa_cons (se_ix rfl (se_varB 7) (eb_of se_int)) sa_nil)))) (sg_tup rfl rfl (sgs_cons (sg_tup rfl rfl (sgs_cons (sg_name 12 sc_law.nd) (sgs_cons (sg_name 13 sc_law.nd) sgs_nil))) (sgs_cons (sg_name 9 sc_law.nd) sgs_nil))) (ss_cons (ss_set (ps_set (i := 10) sc_law.nd rfl (.inl rfl) (se_callR (pe_c c_law_bu_bundle hr (by decide) (by rfl) (sa_cons (se_var 1) (sa_cons (se_var 6) (sa_cons se_int sa_nil)))))))
    (ss_cons (ss_set (ps_set (i := 11) sc_law.nd rfl (.inl rfl) (se_call (pe_c c_law_least hr (by decide) (by rfl) (sa_cons (se_var 5) (sa_cons (se_ix rfl (se_varB 7) (eb_of se_int)) (sa_cons (se_var 10) sa_nil)))))))
    (ss_cons (ss_if (st_not (st_val (se_call (pe_c c_law_same hr (by decide) (by rfl) (sa_cons (ee_of (sf_lst (sa_cons (se_call (pe_c c_straight_wish hr (by decide) (by rfl) (sa_cons (se_var 3) (sa_cons (se_ix rfl (se_varB 7) (eb_of se_int)) (sa_cons (se_var 10) sa_nil))))) (sa_cons (se_callK0 (pe_ck ck_straight_wish hr (by decide) (by rfl) (sk_cons (se_var 10) (sk_cons (se_ix rfl (se_varB 7) (eb_of se_int)) (sk_cons (se_var 3) sk_nil))))) sa_nil)))) (sa_cons (ee_of (sf_lst (sa_cons (se_var 11) (sa_cons (se_var 11) sa_nil)))) sa_nil)))))) (ss_one (ss_ret se_bl)) ss_nil)
    (ss_cons (ss_if (st_ne rfl (u64 hr) (eb_of (se_call (pe_c c_straight_wish hr (by decide) (by rfl) (sa_cons (se_var 3) (sa_cons (se_ix rfl (se_varB 7) (eb_of se_int)) (sa_cons (se_var 13) sa_nil)))))) (se_varB 9)) (ss_one (ss_ret se_bl)) ss_nil)
    (ss_one (ss_if (st_val (se_call (pe_c c_law_less hr (by decide) (by rfl) (sa_cons (se_call (pe_c c_law_minus hr (by decide) (by rfl) (sa_cons (se_var 9) (sa_cons (se_call (pe_c c_law_dot hr (by decide) (by rfl) (sa_cons (se_var 12) (sa_cons (se_var 13) sa_nil)))) sa_nil)))) (sa_cons (se_call (pe_c c_law_minus hr (by decide) (by rfl) (sa_cons (se_var 11) (sa_cons (se_call (pe_c c_law_dot hr (by decide) (by rfl) (sa_cons (se_var 12) (sa_cons (se_var 10) sa_nil)))) sa_nil)))) sa_nil))))) (ss_one (ss_ret se_bl)) ss_nil)))))))))))))))))))
    (ss_one (ss_ret se_bl))))
end
end K25
namespace K25
open PySem PySem.Spec PyProof.Rows L2 Dv
open C8 (Cal)

def d_law_begun : He.DefD := ⟨("_law_begun", none), "_law_begun", "_law_begun", defArgs s_law_begun, defBody s_law_begun, defScope s_law_begun, [], []⟩
def d_law_blended : He.DefD := ⟨("_law_blended", none), "_law_blended", "_law_blended", defArgs s_law_blended, defBody s_law_blended, defScope s_law_blended, [], []⟩
def d_law_draw : He.DefD := ⟨("_law_draw", none), "_law_draw", "_law_draw", defArgs s_law_draw, defBody s_law_draw, defScope s_law_draw, [], []⟩
def d_law_q : He.DefD := ⟨("_law_q", none), "_law_q", "_law_q", defArgs s_law_q, defBody s_law_q, defScope s_law_q, [], []⟩
def d_law_over : He.DefD := ⟨("_law_over", none), "_law_over", "_law_over", defArgs s_law_over, defBody s_law_over, defScope s_law_over, [], []⟩
def d_law_plus : He.DefD := ⟨("_law_plus", none), "_law_plus", "_law_plus", defArgs s_law_plus, defBody s_law_plus, defScope s_law_plus, [], []⟩
def d_law_straight_rows : He.DefD := ⟨("_law_straight_rows", none), "_law_straight_rows", "_law_straight_rows", defArgs s_law_straight_rows, defBody s_law_straight_rows, defScope s_law_straight_rows, [], []⟩
def d_is_whole : He.DefD := ⟨("is_whole", none), "is_whole", "is_whole", defArgs s_is_whole, defBody s_is_whole, defScope s_is_whole, [], []⟩
def d_is_ratio : He.DefD := ⟨("is_ratio", none), "is_ratio", "is_ratio", defArgs s_is_ratio, defBody s_is_ratio, defScope s_is_ratio, [], []⟩
def d_is_vector : He.DefD := ⟨("is_vector", none), "is_vector", "is_vector", defArgs s_is_vector, defBody s_is_vector, defScope s_is_vector, [], []⟩
def d_is_budget : He.DefD := ⟨("is_budget", none), "is_budget", "is_budget", defArgs s_is_budget, defBody s_is_budget, defScope s_is_budget, [], []⟩
def d_are_budgets_of : He.DefD := ⟨("are_budgets_of", none), "are_budgets_of", "are_budgets_of", defArgs s_are_budgets_of, defBody s_are_budgets_of, defScope s_are_budgets_of, [], []⟩
def d_is_budgets : He.DefD := ⟨("is_budgets", none), "is_budgets", "is_budgets", defArgs s_is_budgets, defBody s_is_budgets, defScope s_is_budgets, [], []⟩
def d_need_budgets : He.DefD := ⟨("need_budgets", none), "need_budgets", "need_budgets", defArgs s_need_budgets, defBody s_need_budgets, defScope s_need_budgets, [], []⟩
def d_ring_behind : He.DefD := ⟨("ring_behind", none), "ring_behind", "ring_behind", defArgs s_ring_behind, defBody s_ring_behind, defScope s_ring_behind, [], []⟩
def d_is_less : He.DefD := ⟨("is_less", none), "is_less", "is_less", defArgs s_is_less, defBody s_is_less, defScope s_is_less, [], []⟩
def d_lowest : He.DefD := ⟨("lowest", none), "lowest", "lowest", defArgs s_lowest, defBody s_lowest, defScope s_lowest, [], []⟩
def d_plus : He.DefD := ⟨("plus", none), "plus", "plus", defArgs s_plus, defBody s_plus, defScope s_plus, [], []⟩
def d_kept : He.DefD := ⟨("kept", none), "kept", "kept", defArgs s_kept, defBody s_kept, defScope s_kept, [], []⟩
def d_kept_differences : He.DefD := ⟨("kept_differences", none), "kept_differences", "kept_differences", defArgs s_kept_differences, defBody s_kept_differences, defScope s_kept_differences, [], []⟩
def d_total : He.DefD := ⟨("total", none), "total", "total", defArgs s_total, defBody s_total, defScope s_total, [], []⟩
def d_times : He.DefD := ⟨("times", none), "times", "times", defArgs s_times, defBody s_times, defScope s_times, [], []⟩
def d_dot : He.DefD := ⟨("dot", none), "dot", "dot", defArgs s_dot, defBody s_dot, defScope s_dot, [], []⟩
def d_costs_of : He.DefD := ⟨("costs_of", none), "costs_of", "costs_of", defArgs s_costs_of, defBody s_costs_of, defScope s_costs_of, [], []⟩
def d_minus : He.DefD := ⟨("minus", none), "minus", "minus", defArgs s_minus, defBody s_minus, defScope s_minus, [], []⟩
def d_gaps_of : He.DefD := ⟨("gaps_of", none), "gaps_of", "gaps_of", defArgs s_gaps_of, defBody s_gaps_of, defScope s_gaps_of, [], []⟩
def d_straight_of : He.DefD := ⟨("straight_of", none), "straight_of", "straight_of", defArgs s_straight_of, defBody s_straight_of, defScope s_straight_of, [], []⟩
def d_straight_paper : He.DefD := ⟨("straight_paper", none), "straight_paper", "straight_paper", defArgs s_straight_paper, defBody s_straight_paper, defScope s_straight_paper, [], []⟩
def d_law_sum : He.DefD := ⟨("_law_sum", none), "_law_sum", "_law_sum", defArgs s_law_sum, defBody s_law_sum, defScope s_law_sum, [], []⟩
def d_law_times : He.DefD := ⟨("_law_times", none), "_law_times", "_law_times", defArgs s_law_times, defBody s_law_times, defScope s_law_times, [], []⟩
def d_law_dot : He.DefD := ⟨("_law_dot", none), "_law_dot", "_law_dot", defArgs s_law_dot, defBody s_law_dot, defScope s_law_dot, [], []⟩
def d_law_bu_costs : He.DefD := ⟨("_law_bu_costs", none), "_law_bu_costs", "_law_bu_costs", defArgs s_law_bu_costs, defBody s_law_bu_costs, defScope s_law_bu_costs, [], []⟩
def d_law_less : He.DefD := ⟨("_law_less", none), "_law_less", "_law_less", defArgs s_law_less, defBody s_law_less, defScope s_law_less, [], []⟩
def d_law_bu_pairs : He.DefD := ⟨("_law_bu_pairs", none), "_law_bu_pairs", "_law_bu_pairs", defArgs s_law_bu_pairs, defBody s_law_bu_pairs, defScope s_law_bu_pairs, [], []⟩
def d_law_bu_has_ring : He.DefD := ⟨("_law_bu_has_ring", none), "_law_bu_has_ring", "_law_bu_has_ring", defArgs s_law_bu_has_ring, defBody s_law_bu_has_ring, defScope s_law_bu_has_ring, [], []⟩
def d_law_pick : He.DefD := ⟨("_law_pick", none), "_law_pick", "_law_pick", defArgs s_law_pick, defBody s_law_pick, defScope s_law_pick, [], []⟩
def d_law_bu_bundle : He.DefD := ⟨("_law_bu_bundle", none), "_law_bu_bundle", "_law_bu_bundle", defArgs s_law_bu_bundle, defBody s_law_bu_bundle, defScope s_law_bu_bundle, [], []⟩
def d_law_minus : He.DefD := ⟨("_law_minus", none), "_law_minus", "_law_minus", defArgs s_law_minus, defBody s_law_minus, defScope s_law_minus, [], []⟩
def d_law_least : He.DefD := ⟨("_law_least", none), "_law_least", "_law_least", defArgs s_law_least, defBody s_law_least, defScope s_law_least, [], []⟩
def d_law_bu_prices : He.DefD := ⟨("_law_bu_prices", none), "_law_bu_prices", "_law_bu_prices", defArgs s_law_bu_prices, defBody s_law_bu_prices, defScope s_law_bu_prices, [], []⟩
def d_law_bu_budgets : He.DefD := ⟨("_law_bu_budgets", none), "_law_bu_budgets", "_law_bu_budgets", defArgs s_law_bu_budgets, defBody s_law_bu_budgets, defScope s_law_bu_budgets, [], []⟩
def d_law_bu_drawn : He.DefD := ⟨("_law_bu_drawn", none), "_law_bu_drawn", "_law_bu_drawn", defArgs s_law_bu_drawn, defBody s_law_bu_drawn, defScope s_law_bu_drawn, [], []⟩
def d_law_is_truth : He.DefD := ⟨("_law_is_truth", none), "_law_is_truth", "_law_is_truth", defArgs s_law_is_truth, defBody s_law_is_truth, defScope s_law_is_truth, [], []⟩
def d_law_same : He.DefD := ⟨("_law_same", none), "_law_same", "_law_same", defArgs s_law_same, defBody s_law_same, defScope s_law_same, [], []⟩
def d_are_straight : He.DefD := ⟨("are_straight", none), "are_straight", "are_straight", defArgs s_are_straight, defBody s_are_straight, defScope s_are_straight, [], []⟩
def d_is_places : He.DefD := ⟨("is_places", none), "is_places", "is_places", defArgs s_is_places, defBody s_is_places, defScope s_is_places, [], []⟩
def d_steps_of : He.DefD := ⟨("steps_of", none), "steps_of", "steps_of", defArgs s_steps_of, defBody s_steps_of, defScope s_steps_of, [], []⟩
def d_is_straight_paper : He.DefD := ⟨("is_straight_paper", none), "is_straight_paper", "is_straight_paper", defArgs s_is_straight_paper, defBody s_is_straight_paper, defScope s_is_straight_paper, [], []⟩
def d_law_bu_gaps : He.DefD := ⟨("_law_bu_gaps", none), "_law_bu_gaps", "_law_bu_gaps", defArgs s_law_bu_gaps, defBody s_law_bu_gaps, defScope s_law_bu_gaps, [], []⟩
def d_law_is_ratio : He.DefD := ⟨("_law_is_ratio", none), "_law_is_ratio", "_law_is_ratio", defArgs s_law_is_ratio, defBody s_law_is_ratio, defScope s_law_is_ratio, [], []⟩
def d_law_keeps : He.DefD := ⟨("_law_keeps", none), "_law_keeps", "_law_keeps", defArgs s_law_keeps, defBody s_law_keeps, defScope s_law_keeps, [], []⟩
def d_is_bundle : He.DefD := ⟨("is_bundle", none), "is_bundle", "is_bundle", defArgs s_is_bundle, defBody s_is_bundle, defScope s_is_bundle, [], []⟩
def d_goods_of : He.DefD := ⟨("goods_of", none), "goods_of", "goods_of", defArgs s_goods_of, defBody s_goods_of, defScope s_goods_of, [], []⟩
def d_need_bundle : He.DefD := ⟨("need_bundle", none), "need_bundle", "need_bundle", defArgs s_need_bundle, defBody s_need_bundle, defScope s_need_bundle, [], []⟩
def d_least_of : He.DefD := ⟨("least_of", none), "least_of", "least_of", defArgs s_least_of, defBody s_least_of, defScope s_least_of, [], []⟩
def d_straight_wish : He.DefD := ⟨("straight_wish", none), "straight_wish", "straight_wish", defArgs s_straight_wish, defBody s_straight_wish, defScope s_straight_wish, [], []⟩
def d_law_bu_are_places : He.DefD := ⟨("_law_bu_are_places", none), "_law_bu_are_places", "_law_bu_are_places", defArgs s_law_bu_are_places, defBody s_law_bu_are_places, defScope s_law_bu_are_places, [], []⟩
def d_law_bu_around : He.DefD := ⟨("_law_bu_around", none), "_law_bu_around", "_law_bu_around", defArgs s_law_bu_around, defBody s_law_bu_around, defScope s_law_bu_around, [], []⟩
def d_law_is_loop : He.DefD := ⟨("_law_is_loop", none), "_law_is_loop", "_law_is_loop", defArgs s_law_is_loop, defBody s_law_is_loop, defScope s_law_is_loop, [], []⟩
def d_law : He.DefD := ⟨("law", none), "law", "law", defArgs s_law, defBody s_law, defScope s_law, [], []⟩
def hfn0 : List He.DefD := [d_law_begun, d_law_blended, d_law_draw, d_law_q, d_law_over, d_law_plus, d_law_straight_rows, d_is_whole, d_is_ratio, d_is_vector, d_is_budget, d_are_budgets_of, d_is_budgets, d_need_budgets, d_ring_behind, d_is_less, d_lowest, d_plus, d_kept, d_kept_differences, d_total, d_times, d_dot, d_costs_of, d_minus, d_gaps_of, d_straight_of, d_straight_paper, d_law_sum, d_law_times]
def hfn1 : List He.DefD := [d_law_dot, d_law_bu_costs, d_law_less, d_law_bu_pairs, d_law_bu_has_ring, d_law_pick, d_law_bu_bundle, d_law_minus, d_law_least, d_law_bu_prices, d_law_bu_budgets, d_law_bu_drawn, d_law_is_truth, d_law_same, d_are_straight, d_is_places, d_steps_of, d_is_straight_paper, d_law_bu_gaps, d_law_is_ratio, d_law_keeps, d_is_bundle, d_goods_of, d_need_bundle, d_least_of, d_straight_wish, d_law_bu_are_places, d_law_bu_around, d_law_is_loop, d_law]
def hfn : List He.DefD := hfn0 ++ hfn1
def hfa0 : List He.Fa := [.glo "_law_begun", .glo "_law_blended", .glo "_law_draw", .glo "_law_q", .glo "_law_over", .glo "_law_plus", .glo "_law_straight_rows", .glo "is_whole", .glo "is_ratio", .glo "is_vector", .glo "is_budget", .glo "are_budgets_of", .glo "is_budgets", .glo "need_budgets", .glo "ring_behind", .glo "is_less", .glo "lowest", .glo "plus", .glo "kept", .glo "kept_differences", .glo "total", .glo "times", .glo "dot", .glo "costs_of", .glo "minus", .glo "gaps_of", .glo "straight_of", .glo "straight_paper", .glo "_law_sum", .glo "_law_times"]
def hfa1 : List He.Fa := [.glo "_law_dot", .glo "_law_bu_costs", .glo "_law_less", .glo "_law_bu_pairs", .glo "_law_bu_has_ring", .glo "_law_pick", .glo "_law_bu_bundle", .glo "_law_minus", .glo "_law_least", .glo "_law_bu_prices", .glo "_law_bu_budgets", .glo "_law_bu_drawn", .glo "_law_is_truth", .glo "_law_same", .glo "are_straight", .glo "is_places", .glo "steps_of", .glo "is_straight_paper", .glo "_law_bu_gaps", .glo "_law_is_ratio", .glo "_law_keeps", .glo "is_bundle", .glo "goods_of", .glo "need_bundle", .glo "least_of", .glo "straight_wish", .glo "_law_bu_are_places", .glo "_law_bu_around", .glo "_law_is_loop", .glo "law"]
def hfa2 : List He.Fa := [.int "LEAST_GOODS" 2, .int "MOST" 200, .int "MOST_BUDGETS" 8, .int "MOST_GOODS" 4, .glo "ZERO", .free "abs", .free "all", .free "any", .free "bool", .free "dict", .free "enumerate", .free "int", .free "isinstance", .free "len", .free "list", .free "min", .free "range", .free "set", .free "sorted", .free "str", .free "sum", .free "tuple", .free "zip"]
def hfa : List He.Fa := hfa0 ++ hfa1 ++ hfa2
def hex (K : PySem.W.Frag) : List Bool := [He.tupB K "ZERO" [.int 0, .int 1], He.eqO (PySem.W.nsIn K mainGlobals "gcd") (some (some (.builtin "math.gcd")))]
abbrev XAl : Type := List Bool × He.AlD
def xObs (K : PySem.W.Frag) : XAl := (hex K, He.obsD hfa hfn K)
def xVal : XAl := ([true, true], He.valD hfn)
def xG (g : Addr → Option Obj) : XAl := xObs (He.frG g (He.asD g 4))
def hkX : PySem.W.Hook where
  α := XAl
  obs := fun s => xG s.heap.get?
  val := fun _ => xVal
  says := fun _ h => ∃ K : PySem.W.Frag, K.In h ∧ xObs K = xVal
  of := fun _ _ e => ⟨_, He.frG_in, e⟩
  keeps := fun _ _ _ ⟨K, hK, cc⟩ kk => ⟨K, PySem.W.Frag.In.keeps hK kk, cc⟩
def obX (s : PySem.W.SharedT) : XAl := xG (HandSHeadRun.getT s)
theorem obX_eq (s : PySem.W.SharedT) : obX s = hkX.obs s.abs := by
  have e : HandSHeadRun.getT s = s.abs.heap.get? := funext (HandSHeadRun.getT_eq s)
  show xG _ = xG _
  rw [e]
abbrev RX : PySem.W.OpenRow := PySem.W.OpenLaw.row PySem.Challenge.rw_choiceshown_k25_whole_wishes_straight_in
def lsX0 : List PySem.Str := ["ShownError", "ValueError", "BadNumbers", "BadBudgets", "BadBundle", "ZERO", "is_whole", "is_ratio", "lowest", "plus", "minus", "times", "is_less", "total", "least_of", "MOST", "is_vector", "dot", "MOST_BUDGETS", "LEAST_GOODS", "MOST_GOODS", "is_budget", "are_budgets_of", "is_budgets", "need_budgets", "goods_of", "is_bundle", "need_bundle", "costs_of", "is_places"]
def lsX1 : List PySem.Str := ["steps_of", "ring_behind", "kept", "kept_differences", "gaps_of", "straight_of", "straight_paper", "are_straight", "is_straight_paper", "straight_wish", "_law_begun", "_law_blended", "_law_draw", "_law_pick", "_law_is_truth", "_law_same", "_law_q", "_law_plus", "_law_minus", "_law_times", "_law_over", "_law_less", "_law_sum", "_law_dot", "_law_is_ratio", "_law_bu_prices", "_law_bu_bundle", "_law_bu_budgets", "_law_bu_drawn", "_law_bu_costs"]
def lsX2 : List PySem.Str := ["_law_bu_gaps", "_law_bu_pairs", "_law_bu_has_ring", "_law_bu_are_places", "_law_bu_around", "_law_keeps", "_law_is_loop", "_law_least", "_law_straight_rows"]
def lsX : List PySem.Str := lsX0 ++ lsX1 ++ lsX2
theorem runX (w : World) : HandSHeadRun.RunEqI RX (PySem.W.view RX.prog [0, 79]) hkX obX 20000 lsX w := by
  unfold HandSHeadRun.RunEqI
  kernel_rfl
theorem fun_ofD {K : PySem.W.Frag} {x : Str} {st : Stmt} {f : Addr} {fd : FuncData} (F : FunD K x x (defArgs st) (defBody st) (defScope st) [] [] f fd) : Fun K x x st f fd := by
  (obtain ⟨oc, od, dV, kV, doc, pm, an, cdv, ct, osl, rfl, lk, hcd, hD, hK⟩ := F.ex); rcases hD with ⟨_, rfl⟩ | ⟨e, _⟩
  · exact ⟨⟨oc, od, kV, doc, pm, an, cdv, ct, osl, rfl, lk, hcd⟩, F.kp⟩
  · exact absurd rfl e
theorem cal_of {P : Program} {w : World} {K : PySem.W.Frag} {mg : Str → Option Value} {base : Heap} {k : Nat} {x : Str} {st : Stmt} {f : Addr} {fd : FuncData} {ps : List Str} {sp : Sp} (F : Fun K x x st f fd) (ok : FnOk P w K mg base CX0 k f fd ps sp) (e : mg x = some (.ref f))
    (h : ∀ (kV doc pm : Value) (an : Option Addr) (cdv ct : Value) (us : List Value), us.length = ps.length → bindArgs (PySem.W.fnOf x x (defArgs st) (defBody st) (defScope st) .none kV doc pm an cdv ct) ⟨us, []⟩ = pure (ps.zip us)) : Cal P w K mg base k x sp [] :=
  ⟨f, fd, ps, [], ok, e, F.kp, F.binds h, .nil⟩
section
variable {P : Program} {w : World} {K : PySem.W.Frag} {h : Heap} {mg : Str → Option Value}
theorem factX (c : xObs K = xVal) (i : Nat) {f : He.Fa} (h : hfa[i]? = some f := by rfl) : f.ok K = true := He.SaysD.fact (fa := hfa) (fn := hfn) (congrArg (fun z : XAl => z.2) c) i h
theorem defX (c : xObs K = xVal) (i : Nat) {d : He.DefD} (h : hfn[i]? = some d := by rfl) : ∃ fd, FunD K d.name d.qual d.params d.body d.scope (d.dvs K) (d.kws K) (He.fAd K d.at_) fd := He.SaysD.def_ (fa := hfa) (fn := hfn) (congrArg (fun z : XAl => z.2) c) i h
theorem exX (c : xObs K = xVal) (i : Nat) {b : Bool} (h : (hex K)[i]? = some b := by rfl) : b = true := by
  have e : hex K = [true, true] := congrArg (fun z : XAl => z.1) c
  rw [e] at h
  have := List.mem_of_getElem? h
  simpa using this
def adX (K : PySem.W.Frag) : Ads := ⟨He.ga K "plus"⟩
theorem txX (X : K.In h) (G : h.Ns mainGlobals mg) (c : xObs K = xVal) : Tx K mg (adX K) where
  a_plus := He.glo_ok X G (factX c 17)
  g_LEAST_GOODS := let ⟨t, e⟩ := He.int_ok X G (factX c 60); ⟨_, e, t, rfl⟩
  g_MOST := let ⟨t, e⟩ := He.int_ok X G (factX c 61); ⟨_, e, t, rfl⟩
  g_MOST_BUDGETS := let ⟨t, e⟩ := He.int_ok X G (factX c 62); ⟨_, e, t, rfl⟩
  g_MOST_GOODS := let ⟨t, e⟩ := He.int_ok X G (factX c 63); ⟨_, e, t, rfl⟩
  k_ZERO := ⟨_, He.glo_ok X G (factX c 64), He.tupB_ok (exX c 0) _⟩
  n_abs := He.free_ok X G (factX c 65)
  n_all := He.free_ok X G (factX c 66)
  n_any := He.free_ok X G (factX c 67)
  n_bool := He.free_ok X G (factX c 68)
  n_dict := He.free_ok X G (factX c 69)
  n_enumerate := He.free_ok X G (factX c 70)
  b_gcd := PySem.W.mg_of X G (He.eqO_ok (exX c 1))
  n_int := He.free_ok X G (factX c 71)
  n_isinstance := He.free_ok X G (factX c 72)
  n_len := He.free_ok X G (factX c 73)
  n_list := He.free_ok X G (factX c 74)
  n_min := He.free_ok X G (factX c 75)
  n_range := He.free_ok X G (factX c 76)
  n_set := He.free_ok X G (factX c 77)
  n_sorted := He.free_ok X G (factX c 78)
  n_str := He.free_ok X G (factX c 79)
  n_sum := He.free_ok X G (factX c 80)
  n_tuple := He.free_ok X G (factX c 81)
  n_zip := He.free_ok X G (factX c 82)
theorem allX (X : K.In h) (G : h.Ns mainGlobals mg) (c : xObs K = xVal) : ∃ fd : FuncData, (∀ (s : Shared) (v : Value), BindsTo s fd ⟨[v], []⟩ [("script", v)]) ∧ ∀ base : Heap, FnOk P w K mg base CX0 9 (He.ga K "law") fd ["script"] (spLawD K 15 1 (m_law (adX K))) := by
  have T := txX X G c
  obtain ⟨fd_law_begun, D_law_begun⟩ := defX c 0 (d := d_law_begun) rfl
  have F_law_begun := fun_ofD (st := s_law_begun) D_law_begun
  obtain ⟨fd_law_blended, D_law_blended⟩ := defX c 1 (d := d_law_blended) rfl
  have F_law_blended := fun_ofD (st := s_law_blended) D_law_blended
  obtain ⟨fd_law_draw, D_law_draw⟩ := defX c 2 (d := d_law_draw) rfl
  have F_law_draw := fun_ofD (st := s_law_draw) D_law_draw
  obtain ⟨fd_law_q, D_law_q⟩ := defX c 3 (d := d_law_q) rfl
  have F_law_q := fun_ofD (st := s_law_q) D_law_q
  obtain ⟨fd_law_over, D_law_over⟩ := defX c 4 (d := d_law_over) rfl
  have F_law_over := fun_ofD (st := s_law_over) D_law_over
  obtain ⟨fd_law_plus, D_law_plus⟩ := defX c 5 (d := d_law_plus) rfl
  have F_law_plus := fun_ofD (st := s_law_plus) D_law_plus
  obtain ⟨fd_law_straight_rows, D_law_straight_rows⟩ := defX c 6 (d := d_law_straight_rows) rfl
  have F_law_straight_rows := fun_ofD (st := s_law_straight_rows) D_law_straight_rows
  obtain ⟨fd_is_whole, D_is_whole⟩ := defX c 7 (d := d_is_whole) rfl
  have F_is_whole := fun_ofD (st := s_is_whole) D_is_whole
  obtain ⟨fd_is_ratio, D_is_ratio⟩ := defX c 8 (d := d_is_ratio) rfl
  have F_is_ratio := fun_ofD (st := s_is_ratio) D_is_ratio
  obtain ⟨fd_is_vector, D_is_vector⟩ := defX c 9 (d := d_is_vector) rfl
  have F_is_vector := fun_ofD (st := s_is_vector) D_is_vector
  obtain ⟨fd_is_budget, D_is_budget⟩ := defX c 10 (d := d_is_budget) rfl
  have F_is_budget := fun_ofD (st := s_is_budget) D_is_budget
  obtain ⟨fd_are_budgets_of, D_are_budgets_of⟩ := defX c 11 (d := d_are_budgets_of) rfl
  have F_are_budgets_of := fun_ofD (st := s_are_budgets_of) D_are_budgets_of
  obtain ⟨fd_is_budgets, D_is_budgets⟩ := defX c 12 (d := d_is_budgets) rfl
  have F_is_budgets := fun_ofD (st := s_is_budgets) D_is_budgets
  obtain ⟨fd_need_budgets, D_need_budgets⟩ := defX c 13 (d := d_need_budgets) rfl
  have F_need_budgets := fun_ofD (st := s_need_budgets) D_need_budgets
  obtain ⟨fd_ring_behind, D_ring_behind⟩ := defX c 14 (d := d_ring_behind) rfl
  have F_ring_behind := fun_ofD (st := s_ring_behind) D_ring_behind
  obtain ⟨fd_is_less, D_is_less⟩ := defX c 15 (d := d_is_less) rfl
  have F_is_less := fun_ofD (st := s_is_less) D_is_less
  obtain ⟨fd_lowest, D_lowest⟩ := defX c 16 (d := d_lowest) rfl
  have F_lowest := fun_ofD (st := s_lowest) D_lowest
  obtain ⟨fd_plus, D_plus⟩ := defX c 17 (d := d_plus) rfl
  have F_plus := fun_ofD (st := s_plus) D_plus
  obtain ⟨fd_kept, D_kept⟩ := defX c 18 (d := d_kept) rfl
  have F_kept := fun_ofD (st := s_kept) D_kept
  obtain ⟨fd_kept_differences, D_kept_differences⟩ := defX c 19 (d := d_kept_differences) rfl
  have F_kept_differences := fun_ofD (st := s_kept_differences) D_kept_differences
  obtain ⟨fd_total, D_total⟩ := defX c 20 (d := d_total) rfl
  have F_total := fun_ofD (st := s_total) D_total
  obtain ⟨fd_times, D_times⟩ := defX c 21 (d := d_times) rfl
  have F_times := fun_ofD (st := s_times) D_times
  obtain ⟨fd_dot, D_dot⟩ := defX c 22 (d := d_dot) rfl
  have F_dot := fun_ofD (st := s_dot) D_dot
  obtain ⟨fd_costs_of, D_costs_of⟩ := defX c 23 (d := d_costs_of) rfl
  have F_costs_of := fun_ofD (st := s_costs_of) D_costs_of
  obtain ⟨fd_minus, D_minus⟩ := defX c 24 (d := d_minus) rfl
  have F_minus := fun_ofD (st := s_minus) D_minus
  obtain ⟨fd_gaps_of, D_gaps_of⟩ := defX c 25 (d := d_gaps_of) rfl
  have F_gaps_of := fun_ofD (st := s_gaps_of) D_gaps_of
  obtain ⟨fd_straight_of, D_straight_of⟩ := defX c 26 (d := d_straight_of) rfl
  have F_straight_of := fun_ofD (st := s_straight_of) D_straight_of
  obtain ⟨fd_straight_paper, D_straight_paper⟩ := defX c 27 (d := d_straight_paper) rfl
  have F_straight_paper := fun_ofD (st := s_straight_paper) D_straight_paper
  obtain ⟨fd_law_sum, D_law_sum⟩ := defX c 28 (d := d_law_sum) rfl
  have F_law_sum := fun_ofD (st := s_law_sum) D_law_sum
  obtain ⟨fd_law_times, D_law_times⟩ := defX c 29 (d := d_law_times) rfl
  have F_law_times := fun_ofD (st := s_law_times) D_law_times
  obtain ⟨fd_law_dot, D_law_dot⟩ := defX c 30 (d := d_law_dot) rfl
  have F_law_dot := fun_ofD (st := s_law_dot) D_law_dot
  obtain ⟨fd_law_bu_costs, D_law_bu_costs⟩ := defX c 31 (d := d_law_bu_costs) rfl
  have F_law_bu_costs := fun_ofD (st := s_law_bu_costs) D_law_bu_costs
  obtain ⟨fd_law_less, D_law_less⟩ := defX c 32 (d := d_law_less) rfl
  have F_law_less := fun_ofD (st := s_law_less) D_law_less
  obtain ⟨fd_law_bu_pairs, D_law_bu_pairs⟩ := defX c 33 (d := d_law_bu_pairs) rfl
  have F_law_bu_pairs := fun_ofD (st := s_law_bu_pairs) D_law_bu_pairs
  obtain ⟨fd_law_bu_has_ring, D_law_bu_has_ring⟩ := defX c 34 (d := d_law_bu_has_ring) rfl
  have F_law_bu_has_ring := fun_ofD (st := s_law_bu_has_ring) D_law_bu_has_ring
  obtain ⟨fd_law_pick, D_law_pick⟩ := defX c 35 (d := d_law_pick) rfl
  have F_law_pick := fun_ofD (st := s_law_pick) D_law_pick
  obtain ⟨fd_law_bu_bundle, D_law_bu_bundle⟩ := defX c 36 (d := d_law_bu_bundle) rfl
  have F_law_bu_bundle := fun_ofD (st := s_law_bu_bundle) D_law_bu_bundle
  obtain ⟨fd_law_minus, D_law_minus⟩ := defX c 37 (d := d_law_minus) rfl
  have F_law_minus := fun_ofD (st := s_law_minus) D_law_minus
  obtain ⟨fd_law_least, D_law_least⟩ := defX c 38 (d := d_law_least) rfl
  have F_law_least := fun_ofD (st := s_law_least) D_law_least
  obtain ⟨fd_law_bu_prices, D_law_bu_prices⟩ := defX c 39 (d := d_law_bu_prices) rfl
  have F_law_bu_prices := fun_ofD (st := s_law_bu_prices) D_law_bu_prices
  obtain ⟨fd_law_bu_budgets, D_law_bu_budgets⟩ := defX c 40 (d := d_law_bu_budgets) rfl
  have F_law_bu_budgets := fun_ofD (st := s_law_bu_budgets) D_law_bu_budgets
  obtain ⟨fd_law_bu_drawn, D_law_bu_drawn⟩ := defX c 41 (d := d_law_bu_drawn) rfl
  have F_law_bu_drawn := fun_ofD (st := s_law_bu_drawn) D_law_bu_drawn
  obtain ⟨fd_law_is_truth, D_law_is_truth⟩ := defX c 42 (d := d_law_is_truth) rfl
  have F_law_is_truth := fun_ofD (st := s_law_is_truth) D_law_is_truth
  obtain ⟨fd_law_same, D_law_same⟩ := defX c 43 (d := d_law_same) rfl
  have F_law_same := fun_ofD (st := s_law_same) D_law_same
  obtain ⟨fd_are_straight, D_are_straight⟩ := defX c 44 (d := d_are_straight) rfl
  have F_are_straight := fun_ofD (st := s_are_straight) D_are_straight
  obtain ⟨fd_is_places, D_is_places⟩ := defX c 45 (d := d_is_places) rfl
  have F_is_places := fun_ofD (st := s_is_places) D_is_places
  obtain ⟨fd_steps_of, D_steps_of⟩ := defX c 46 (d := d_steps_of) rfl
  have F_steps_of := fun_ofD (st := s_steps_of) D_steps_of
  obtain ⟨fd_is_straight_paper, D_is_straight_paper⟩ := defX c 47 (d := d_is_straight_paper) rfl
  have F_is_straight_paper := fun_ofD (st := s_is_straight_paper) D_is_straight_paper
  obtain ⟨fd_law_bu_gaps, D_law_bu_gaps⟩ := defX c 48 (d := d_law_bu_gaps) rfl
  have F_law_bu_gaps := fun_ofD (st := s_law_bu_gaps) D_law_bu_gaps
  obtain ⟨fd_law_is_ratio, D_law_is_ratio⟩ := defX c 49 (d := d_law_is_ratio) rfl
  have F_law_is_ratio := fun_ofD (st := s_law_is_ratio) D_law_is_ratio
  obtain ⟨fd_law_keeps, D_law_keeps⟩ := defX c 50 (d := d_law_keeps) rfl
  have F_law_keeps := fun_ofD (st := s_law_keeps) D_law_keeps
  obtain ⟨fd_is_bundle, D_is_bundle⟩ := defX c 51 (d := d_is_bundle) rfl
  have F_is_bundle := fun_ofD (st := s_is_bundle) D_is_bundle
  obtain ⟨fd_goods_of, D_goods_of⟩ := defX c 52 (d := d_goods_of) rfl
  have F_goods_of := fun_ofD (st := s_goods_of) D_goods_of
  obtain ⟨fd_need_bundle, D_need_bundle⟩ := defX c 53 (d := d_need_bundle) rfl
  have F_need_bundle := fun_ofD (st := s_need_bundle) D_need_bundle
  obtain ⟨fd_least_of, D_least_of⟩ := defX c 54 (d := d_least_of) rfl
  have F_least_of := fun_ofD (st := s_least_of) D_least_of
  obtain ⟨fd_straight_wish, D_straight_wish⟩ := defX c 55 (d := d_straight_wish) rfl
  have F_straight_wish := fun_ofD (st := s_straight_wish) D_straight_wish
  obtain ⟨fd_law_bu_are_places, D_law_bu_are_places⟩ := defX c 56 (d := d_law_bu_are_places) rfl
  have F_law_bu_are_places := fun_ofD (st := s_law_bu_are_places) D_law_bu_are_places
  obtain ⟨fd_law_bu_around, D_law_bu_around⟩ := defX c 57 (d := d_law_bu_around) rfl
  have F_law_bu_around := fun_ofD (st := s_law_bu_around) D_law_bu_around
  obtain ⟨fd_law_is_loop, D_law_is_loop⟩ := defX c 58 (d := d_law_is_loop) rfl
  have F_law_is_loop := fun_ofD (st := s_law_is_loop) D_law_is_loop
  obtain ⟨fd_law, D_law⟩ := defX c 59 (d := d_law) rfl
  have F_law := fun_ofD (st := s_law) D_law
  refine ⟨fd_law, fun s v => FunD.bindsA (ps := ["script"]) D_law (fun _ _ _ _ _ _ us hl => match us, hl with | [_], _ => rfl) s [v] rfl, fun base => ?_⟩
  have o_law_begun := ok_law_begun (P := P) (w := w) (base := base) T F_law_begun
  have c_law_begun := cal_of F_law_begun o_law_begun (He.glo_ok X G (factX c 0)) (fun _ _ _ _ _ _ us hl => match us, hl with | [_], _ => rfl)
  have o_law_blended := ok_law_blended (P := P) (w := w) (base := base) T F_law_blended
  have c_law_blended := cal_of F_law_blended o_law_blended (He.glo_ok X G (factX c 1)) (fun _ _ _ _ _ _ us hl => match us, hl with | [_], _ => rfl)
  have o_law_draw := ok_law_draw (P := P) (w := w) (base := base) T c_law_blended F_law_draw
  have c_law_draw := cal_of F_law_draw o_law_draw (He.glo_ok X G (factX c 2)) (fun _ _ _ _ _ _ us hl => match us, hl with | [_, _], _ => rfl)
  have o_law_q := ok_law_q (P := P) (w := w) (base := base) T F_law_q
  have c_law_q := cal_of F_law_q o_law_q (He.glo_ok X G (factX c 3)) (fun _ _ _ _ _ _ us hl => match us, hl with | [_, _], _ => rfl)
  have o_law_over := ok_law_over (P := P) (w := w) (base := base) T c_law_q F_law_over
  have c_law_over := cal_of F_law_over o_law_over (He.glo_ok X G (factX c 4)) (fun _ _ _ _ _ _ us hl => match us, hl with | [_, _], _ => rfl)
  have o_law_plus := ok_law_plus (P := P) (w := w) (base := base) T c_law_q F_law_plus
  have c_law_plus := cal_of F_law_plus o_law_plus (He.glo_ok X G (factX c 5)) (fun _ _ _ _ _ _ us hl => match us, hl with | [_, _], _ => rfl)
  have o_law_straight_rows := ok_law_straight_rows (P := P) (w := w) (base := base) T c_law_over c_law_plus c_law_draw F_law_straight_rows
  have c_law_straight_rows := cal_of F_law_straight_rows o_law_straight_rows (He.glo_ok X G (factX c 6)) (fun _ _ _ _ _ _ us hl => match us, hl with | [_, _], _ => rfl)
  have o_is_whole := ok_is_whole (P := P) (w := w) (base := base) T F_is_whole
  have c_is_whole := cal_of F_is_whole o_is_whole (He.glo_ok X G (factX c 7)) (fun _ _ _ _ _ _ us hl => match us, hl with | [_], _ => rfl)
  have o_is_ratio := ok_is_ratio (P := P) (w := w) (base := base) T c_is_whole F_is_ratio
  have c_is_ratio := cal_of F_is_ratio o_is_ratio (He.glo_ok X G (factX c 8)) (fun _ _ _ _ _ _ us hl => match us, hl with | [_], _ => rfl)
  have o_is_vector := ok_is_vector (P := P) (w := w) (base := base) T c_is_ratio F_is_vector
  have c_is_vector := cal_of F_is_vector o_is_vector (He.glo_ok X G (factX c 9)) (fun _ _ _ _ _ _ us hl => match us, hl with | [_], _ => rfl)
  have o_is_budget := ok_is_budget (P := P) (w := w) (base := base) T c_is_vector F_is_budget
  have c_is_budget := cal_of F_is_budget o_is_budget (He.glo_ok X G (factX c 10)) (fun _ _ _ _ _ _ us hl => match us, hl with | [_, _], _ => rfl)
  have o_are_budgets_of := ok_are_budgets_of (P := P) (w := w) (base := base) T c_is_budget F_are_budgets_of
  have c_are_budgets_of := cal_of F_are_budgets_of o_are_budgets_of (He.glo_ok X G (factX c 11)) (fun _ _ _ _ _ _ us hl => match us, hl with | [_, _], _ => rfl)
  have o_is_budgets := ok_is_budgets (P := P) (w := w) (base := base) T c_are_budgets_of F_is_budgets
  have c_is_budgets := cal_of F_is_budgets o_is_budgets (He.glo_ok X G (factX c 12)) (fun _ _ _ _ _ _ us hl => match us, hl with | [_], _ => rfl)
  have o_need_budgets := ok_need_budgets (P := P) (w := w) (base := base) T c_is_budgets F_need_budgets
  have c_need_budgets := cal_of F_need_budgets o_need_budgets (He.glo_ok X G (factX c 13)) (fun _ _ _ _ _ _ us hl => match us, hl with | [_], _ => rfl)
  have o_ring_behind := ok_ring_behind (P := P) (w := w) (base := base) T F_ring_behind
  have c_ring_behind := cal_of F_ring_behind o_ring_behind (He.glo_ok X G (factX c 14)) (fun _ _ _ _ _ _ us hl => match us, hl with | [_, _, _], _ => rfl)
  have o_is_less := ok_is_less (P := P) (w := w) (base := base) T F_is_less
  have c_is_less := cal_of F_is_less o_is_less (He.glo_ok X G (factX c 15)) (fun _ _ _ _ _ _ us hl => match us, hl with | [_, _], _ => rfl)
  have o_lowest := ok_lowest (P := P) (w := w) (base := base) T F_lowest
  have c_lowest := cal_of F_lowest o_lowest (He.glo_ok X G (factX c 16)) (fun _ _ _ _ _ _ us hl => match us, hl with | [_, _], _ => rfl)
  have o_plus := ok_plus (P := P) (w := w) (base := base) T c_lowest F_plus
  have c_plus := cal_of F_plus o_plus (He.glo_ok X G (factX c 17)) (fun _ _ _ _ _ _ us hl => match us, hl with | [_, _], _ => rfl)
  have cat_plus : Cat P w K mg base 2 (adX K).plus fd_plus ["one", "other"] (spP K f_plus) := ⟨o_plus, F_plus.kp, F_plus.binds (fun _ _ _ _ _ _ us hl => match us, hl with | [_, _], _ => rfl)⟩
  have o_kept := ok_kept (P := P) (w := w) (base := base) T cat_plus c_is_less c_ring_behind F_kept
  have c_kept := cal_of F_kept o_kept (He.glo_ok X G (factX c 18)) (fun _ _ _ _ _ _ us hl => match us, hl with | [_, _, _], _ => rfl)
  have o_kept_differences := ok_kept_differences (P := P) (w := w) (base := base) T c_kept F_kept_differences
  have c_kept_differences := cal_of F_kept_differences o_kept_differences (He.glo_ok X G (factX c 19)) (fun _ _ _ _ _ _ us hl => match us, hl with | [_], _ => rfl)
  have o_total := ok_total (P := P) (w := w) (base := base) T c_plus F_total
  have c_total := cal_of F_total o_total (He.glo_ok X G (factX c 20)) (fun _ _ _ _ _ _ us hl => match us, hl with | [_], _ => rfl)
  have o_times := ok_times (P := P) (w := w) (base := base) T c_lowest F_times
  have c_times := cal_of F_times o_times (He.glo_ok X G (factX c 21)) (fun _ _ _ _ _ _ us hl => match us, hl with | [_, _], _ => rfl)
  have o_dot := ok_dot (P := P) (w := w) (base := base) T c_total c_times F_dot
  have c_dot := cal_of F_dot o_dot (He.glo_ok X G (factX c 22)) (fun _ _ _ _ _ _ us hl => match us, hl with | [_, _], _ => rfl)
  have o_costs_of := ok_costs_of (P := P) (w := w) (base := base) T c_dot F_costs_of
  have c_costs_of := cal_of F_costs_of o_costs_of (He.glo_ok X G (factX c 23)) (fun _ _ _ _ _ _ us hl => match us, hl with | [_], _ => rfl)
  have o_minus := ok_minus (P := P) (w := w) (base := base) T c_lowest F_minus
  have c_minus := cal_of F_minus o_minus (He.glo_ok X G (factX c 24)) (fun _ _ _ _ _ _ us hl => match us, hl with | [_, _], _ => rfl)
  have o_gaps_of := ok_gaps_of (P := P) (w := w) (base := base) T c_costs_of c_minus F_gaps_of
  have c_gaps_of := cal_of F_gaps_of o_gaps_of (He.glo_ok X G (factX c 25)) (fun _ _ _ _ _ _ us hl => match us, hl with | [_], _ => rfl)
  have o_straight_of := ok_straight_of (P := P) (w := w) (base := base) T c_kept_differences c_gaps_of F_straight_of
  have c_straight_of := cal_of F_straight_of o_straight_of (He.glo_ok X G (factX c 26)) (fun _ _ _ _ _ _ us hl => match us, hl with | [_], _ => rfl)
  have o_straight_paper := ok_straight_paper (P := P) (w := w) (base := base) T c_need_budgets c_straight_of F_straight_paper
  have c_straight_paper := cal_of F_straight_paper o_straight_paper (He.glo_ok X G (factX c 27)) (fun _ _ _ _ _ _ us hl => match us, hl with | [_], _ => rfl)
  have ck_straight_paper : CalK P w K mg base 8 "straight_paper" (spP K (f_straight_paper (adX K))) ["budgets"] [0] := ⟨_, _, _, o_straight_paper, He.glo_ok X G (factX c 27), F_straight_paper.kp, fun_kbinds F_straight_paper (by decide) rfl (fun _ _ _ _ _ _ ws hl => match ws, hl with | [_], _ => rfl)⟩
  have o_law_sum := ok_law_sum (P := P) (w := w) (base := base) T c_law_plus F_law_sum
  have c_law_sum := cal_of F_law_sum o_law_sum (He.glo_ok X G (factX c 28)) (fun _ _ _ _ _ _ us hl => match us, hl with | [_], _ => rfl)
  have o_law_times := ok_law_times (P := P) (w := w) (base := base) T c_law_q F_law_times
  have c_law_times := cal_of F_law_times o_law_times (He.glo_ok X G (factX c 29)) (fun _ _ _ _ _ _ us hl => match us, hl with | [_, _], _ => rfl)
  have o_law_dot := ok_law_dot (P := P) (w := w) (base := base) T c_law_sum c_law_times F_law_dot
  have c_law_dot := cal_of F_law_dot o_law_dot (He.glo_ok X G (factX c 30)) (fun _ _ _ _ _ _ us hl => match us, hl with | [_, _], _ => rfl)
  have o_law_bu_costs := ok_law_bu_costs (P := P) (w := w) (base := base) T c_law_dot F_law_bu_costs
  have c_law_bu_costs := cal_of F_law_bu_costs o_law_bu_costs (He.glo_ok X G (factX c 31)) (fun _ _ _ _ _ _ us hl => match us, hl with | [_], _ => rfl)
  have o_law_less := ok_law_less (P := P) (w := w) (base := base) T F_law_less
  have c_law_less := cal_of F_law_less o_law_less (He.glo_ok X G (factX c 32)) (fun _ _ _ _ _ _ us hl => match us, hl with | [_, _], _ => rfl)
  have o_law_bu_pairs := ok_law_bu_pairs (P := P) (w := w) (base := base) T c_law_bu_costs c_law_less F_law_bu_pairs
  have c_law_bu_pairs := cal_of F_law_bu_pairs o_law_bu_pairs (He.glo_ok X G (factX c 33)) (fun _ _ _ _ _ _ us hl => match us, hl with | [_, _], _ => rfl)
  have o_law_bu_has_ring := ok_law_bu_has_ring (P := P) (w := w) (base := base) T c_law_bu_pairs F_law_bu_has_ring
  have c_law_bu_has_ring := cal_of F_law_bu_has_ring o_law_bu_has_ring (He.glo_ok X G (factX c 34)) (fun _ _ _ _ _ _ us hl => match us, hl with | [_], _ => rfl)
  have o_law_pick := ok_law_pick (P := P) (w := w) (base := base) T c_law_draw F_law_pick
  have c_law_pick := cal_of F_law_pick o_law_pick (He.glo_ok X G (factX c 35)) (fun _ _ _ _ _ _ us hl => match us, hl with | [_, _], _ => rfl)
  have o_law_bu_bundle := ok_law_bu_bundle (P := P) (w := w) (base := base) T c_law_pick c_law_q c_law_draw F_law_bu_bundle
  have c_law_bu_bundle := cal_of F_law_bu_bundle o_law_bu_bundle (He.glo_ok X G (factX c 36)) (fun _ _ _ _ _ _ us hl => match us, hl with | [_, _, _], _ => rfl)
  have o_law_minus := ok_law_minus (P := P) (w := w) (base := base) T c_law_q F_law_minus
  have c_law_minus := cal_of F_law_minus o_law_minus (He.glo_ok X G (factX c 37)) (fun _ _ _ _ _ _ us hl => match us, hl with | [_, _], _ => rfl)
  have o_law_least := ok_law_least (P := P) (w := w) (base := base) T c_law_plus c_law_minus c_law_dot c_law_less F_law_least
  have c_law_least := cal_of F_law_least o_law_least (He.glo_ok X G (factX c 38)) (fun _ _ _ _ _ _ us hl => match us, hl with | [_, _, _], _ => rfl)
  have o_law_bu_prices := ok_law_bu_prices (P := P) (w := w) (base := base) T c_law_q c_law_draw c_law_pick F_law_bu_prices
  have c_law_bu_prices := cal_of F_law_bu_prices o_law_bu_prices (He.glo_ok X G (factX c 39)) (fun _ _ _ _ _ _ us hl => match us, hl with | [_, _, _], _ => rfl)
  have o_law_bu_budgets := ok_law_bu_budgets (P := P) (w := w) (base := base) T c_law_draw c_law_pick c_law_bu_prices c_law_bu_bundle c_law_q c_law_over c_law_times F_law_bu_budgets
  have c_law_bu_budgets := cal_of F_law_bu_budgets o_law_bu_budgets (He.glo_ok X G (factX c 40)) (fun _ _ _ _ _ _ us hl => match us, hl with | [_, _, _], _ => rfl)
  have o_law_bu_drawn := ok_law_bu_drawn (P := P) (w := w) (base := base) T c_law_bu_budgets c_law_pick F_law_bu_drawn
  have c_law_bu_drawn := cal_of F_law_bu_drawn o_law_bu_drawn (He.glo_ok X G (factX c 41)) (fun _ _ _ _ _ _ us hl => match us, hl with | [_, _], _ => rfl)
  have o_law_is_truth := ok_law_is_truth (P := P) (w := w) (base := base) T F_law_is_truth
  have c_law_is_truth := cal_of F_law_is_truth o_law_is_truth (He.glo_ok X G (factX c 42)) (fun _ _ _ _ _ _ us hl => match us, hl with | [_, _], _ => rfl)
  have o_law_same := ok_law_same (P := P) (w := w) (base := base) T c_law_is_truth F_law_same
  have c_law_same := cal_of F_law_same o_law_same (He.glo_ok X G (factX c 43)) (fun _ _ _ _ _ _ us hl => match us, hl with | [_, _], _ => rfl)
  have o_are_straight := ok_are_straight (P := P) (w := w) (base := base) T c_is_ratio c_gaps_of c_is_less c_plus F_are_straight
  have c_are_straight := cal_of F_are_straight o_are_straight (He.glo_ok X G (factX c 44)) (fun _ _ _ _ _ _ us hl => match us, hl with | [_, _], _ => rfl)
  have o_is_places := ok_is_places (P := P) (w := w) (base := base) T F_is_places
  have c_is_places := cal_of F_is_places o_is_places (He.glo_ok X G (factX c 45)) (fun _ _ _ _ _ _ us hl => match us, hl with | [_, _, _], _ => rfl)
  have o_steps_of := ok_steps_of (P := P) (w := w) (base := base) T F_steps_of
  have c_steps_of := cal_of F_steps_of o_steps_of (He.glo_ok X G (factX c 46)) (fun _ _ _ _ _ _ us hl => match us, hl with | [_], _ => rfl)
  have o_is_straight_paper := ok_is_straight_paper (P := P) (w := w) (base := base) T c_need_budgets c_are_straight c_is_places c_gaps_of c_total c_steps_of F_is_straight_paper
  have c_is_straight_paper := cal_of F_is_straight_paper o_is_straight_paper (He.glo_ok X G (factX c 47)) (fun _ _ _ _ _ _ us hl => match us, hl with | [_, _], _ => rfl)
  have o_law_bu_gaps := ok_law_bu_gaps (P := P) (w := w) (base := base) T c_law_bu_costs c_law_minus F_law_bu_gaps
  have c_law_bu_gaps := cal_of F_law_bu_gaps o_law_bu_gaps (He.glo_ok X G (factX c 48)) (fun _ _ _ _ _ _ us hl => match us, hl with | [_], _ => rfl)
  have o_law_is_ratio := ok_law_is_ratio (P := P) (w := w) (base := base) T c_law_q F_law_is_ratio
  have c_law_is_ratio := cal_of F_law_is_ratio o_law_is_ratio (He.glo_ok X G (factX c 49)) (fun _ _ _ _ _ _ us hl => match us, hl with | [_], _ => rfl)
  have o_law_keeps := ok_law_keeps (P := P) (w := w) (base := base) T c_law_is_ratio c_law_bu_gaps c_law_less c_law_plus F_law_keeps
  have c_law_keeps := cal_of F_law_keeps o_law_keeps (He.glo_ok X G (factX c 50)) (fun _ _ _ _ _ _ us hl => match us, hl with | [_, _], _ => rfl)
  have o_is_bundle := ok_is_bundle (P := P) (w := w) (base := base) T c_is_ratio F_is_bundle
  have c_is_bundle := cal_of F_is_bundle o_is_bundle (He.glo_ok X G (factX c 51)) (fun _ _ _ _ _ _ us hl => match us, hl with | [_, _], _ => rfl)
  have o_goods_of := ok_goods_of (P := P) (w := w) (base := base) T F_goods_of
  have c_goods_of := cal_of F_goods_of o_goods_of (He.glo_ok X G (factX c 52)) (fun _ _ _ _ _ _ us hl => match us, hl with | [_], _ => rfl)
  have o_need_bundle := ok_need_bundle (P := P) (w := w) (base := base) T c_is_bundle c_goods_of F_need_bundle
  have c_need_bundle := cal_of F_need_bundle o_need_bundle (He.glo_ok X G (factX c 53)) (fun _ _ _ _ _ _ us hl => match us, hl with | [_, _], _ => rfl)
  have o_least_of := ok_least_of (P := P) (w := w) (base := base) T c_is_less F_least_of
  have c_least_of := cal_of F_least_of o_least_of (He.glo_ok X G (factX c 54)) (fun _ _ _ _ _ _ us hl => match us, hl with | [_], _ => rfl)
  have o_straight_wish := ok_straight_wish (P := P) (w := w) (base := base) T c_need_budgets c_are_straight c_need_bundle c_plus c_minus c_dot c_least_of F_straight_wish
  have c_straight_wish := cal_of F_straight_wish o_straight_wish (He.glo_ok X G (factX c 55)) (fun _ _ _ _ _ _ us hl => match us, hl with | [_, _, _], _ => rfl)
  have ck_straight_wish : CalK P w K mg base 8 "straight_wish" (spP K f_straight_wish) ["bundle", "numbers", "budgets"] [2, 1, 0] := ⟨_, _, _, o_straight_wish, He.glo_ok X G (factX c 55), F_straight_wish.kp, fun_kbinds F_straight_wish (by decide) rfl (fun _ _ _ _ _ _ ws hl => match ws, hl with | [_, _, _], _ => rfl)⟩
  have o_law_bu_are_places := ok_law_bu_are_places (P := P) (w := w) (base := base) T F_law_bu_are_places
  have c_law_bu_are_places := cal_of F_law_bu_are_places o_law_bu_are_places (He.glo_ok X G (factX c 56)) (fun _ _ _ _ _ _ us hl => match us, hl with | [_, _, _], _ => rfl)
  have o_law_bu_around := ok_law_bu_around (P := P) (w := w) (base := base) T F_law_bu_around
  have c_law_bu_around := cal_of F_law_bu_around o_law_bu_around (He.glo_ok X G (factX c 57)) (fun _ _ _ _ _ _ us hl => match us, hl with | [_], _ => rfl)
  have o_law_is_loop := ok_law_is_loop (P := P) (w := w) (base := base) T c_law_bu_are_places c_law_bu_gaps c_law_sum c_law_bu_around F_law_is_loop
  have c_law_is_loop := cal_of F_law_is_loop o_law_is_loop (He.glo_ok X G (factX c 58)) (fun _ _ _ _ _ _ us hl => match us, hl with | [_, _], _ => rfl)
  exact ok_law T c_law_begun c_law_straight_rows c_law_bu_drawn c_straight_paper c_law_q c_law_draw c_law_same c_is_straight_paper c_law_times c_law_is_loop c_law_keeps c_law_bu_has_ring c_law_bu_bundle c_law_least c_straight_wish c_law_less c_law_minus c_law_dot ck_straight_paper ck_straight_wish F_law
end
end K25
open PySem PySem.W
open PySem.Calls PyProof.Rows
theorem PySem.Challenge.cw_choiceshown_k25_whole_wishes_straight_in_holds : PySem.Challenge.rw_choiceshown_k25_whole_wishes_straight_in.Holds := by
  w_on; o_law
  refine HandSHeadRun.head_imp (r := OpenLaw.row PySem.Challenge.rw_choiceshown_k25_whole_wishes_straight_in) (q := view (OpenLaw.row PySem.Challenge.rw_choiceshown_k25_whole_wishes_straight_in).prog [0, 79]) (H := K25.hkX) (ob := K25.obX) (M := 20000) (loose := K25.lsX) (d := HandSHeadRun.topDef (OpenLaw.row PySem.Challenge.rw_choiceshown_k25_whole_wishes_straight_in).prog 79) (kwd := []) K25.obX_eq
    K25.runX (by kernel_rfl) (by kernel_rfl) (by kernel_rfl) (by rfl) (by first | assumption | decide +kernel) (by decide +kernel) ⟨rfl, rfl, rfl, rfl, rfl, by decide +kernel⟩ ?hw ?hc
  case hw => w_witness2
  case hc =>
    refine L2.walk_ofE (l := PySem.Challenge.rw_choiceshown_k25_whole_wishes_straight_in) (n := 63) (k := 9) (x := "script") (CX := L2.CX0) rfl (by decide) (by kernel_rfl) ⟨rfl, by decide, by decide⟩ ?F (fun _ _ _ _ z => z)
    intro w mg fa h Y G hmg0
    (obtain ⟨K, KX, c⟩ := Y); have hmg : mg ("law" : PySem.Str) = some (.ref fa) := by
      have e : (HandSHeadRun.topDef (OpenLaw.row PySem.Challenge.rw_choiceshown_k25_whole_wishes_straight_in).prog 79).name = ("law" : PySem.Str) := by kernel_rfl
      rw [← e]
      exact hmg0
    have e := hmg.symm.trans (He.glo_ok KX G (K25.factX c 59))
    cases e
    obtain ⟨fd, hb, hF⟩ := K25.allX (P := (PySem.Challenge.rw_choiceshown_k25_whole_wishes_straight_in).prog) (w := w) KX G c
    exact ⟨K, fd, _, KX, hb, fun H a ns hl _ hS => ⟨a, ns, rfl, hS, by omega, fun r h1 h2 h3 h4 => K25.law_true (by omega) h1 h2 h3 h4, fun _ => rfl⟩, fun base _ _ => hF base⟩
